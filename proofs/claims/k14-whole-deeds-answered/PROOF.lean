import PyProof.Rows.All
import Wide.All
import OpenK.AllK
import Wide.FinOn
import HandS.ForMost
import HandS.Exc
import HandS.ExcOwn
import HandS.TryOnly
import HandS.TryMany
import HandS.WordsExc
import HandS.IsInst
import HandS.Wide
import HandS.Evl
import HandS.ExcIs
import PySem.Challenge.RW_rangebook_k14_whole_deeds_answered
set_option Elab.async false
set_option linter.all false
set_option maxRecDepth 100000
set_option maxHeartbeats  4000000
set_option autoImplicit false
/-! rows, plain lists of numbers: cut, changed, least, first -/
namespace RB
/-- the part of a row from lo on, ahead of hi -/
def cut (xs : List Int) (lo hi : Int) : List Int := (xs.drop lo.toNat).take (hi.toNat - lo.toNat)
/-- f at each place from lo on, ahead of hi -/
def chg (f : Int → Int) : List Int → Int → Int → List Int
  | [], _, _ => []
  | x :: xs, lo, hi => (if lo ≤ 0 ∧ 0 < hi then f x else x) :: chg f xs (lo - 1) (hi - 1)
/-- m is the least of xs -/
def IsMin (m : Int) (xs : List Int) : Prop := m ∈ xs ∧ ∀ y ∈ xs, m ≤ y
/-- the first place from lo on with a number no greater than b -/
def fst (xs : List Int) (lo : Int) (b : Int) : Option Int := ((xs.drop lo.toNat).findIdx? (fun x => decide (x ≤ b))).map fun k => ((k + lo.toNat : Nat) : Int)

theorem cut_nil {xs : List Int} {lo hi : Int} (h : hi ≤ lo) : cut xs lo hi = [] := by
  unfold cut
  rw [show hi.toNat - lo.toNat = 0 by omega, List.take_zero]
theorem cut_full {xs : List Int} : cut xs 0 (xs.length : Int) = xs := by
  unfold cut
  simp
theorem cut_all {xs : List Int} {lo hi : Int} (h1 : lo ≤ 0) (h2 : (xs.length : Int) ≤ hi) : cut xs lo hi = xs := by
  unfold cut
  rw [show lo.toNat = 0 by omega, List.drop_zero, List.take_of_length_le (by omega)]
theorem cut_length {xs : List Int} {lo hi : Int} (h1 : 0 ≤ lo) (h2 : lo ≤ hi) (h3 : hi ≤ (xs.length : Int)) : ((cut xs lo hi).length : Int) = hi - lo := by
  unfold cut
  rw [List.length_take, List.length_drop]
  omega
theorem cut_length_le {xs : List Int} {lo hi : Int} : (cut xs lo hi).length ≤ xs.length := by
  unfold cut
  rw [List.length_take, List.length_drop]
  omega
theorem cut_append {xs ys : List Int} {lo hi n : Int} (hn : n = (xs.length : Int)) (h1 : 0 ≤ lo) : cut (xs ++ ys) lo hi = cut xs lo (min hi n) ++ cut ys (max lo n - n) (hi - n) := by
  subst hn
  unfold cut
  rw [List.drop_append, List.take_append, List.length_drop]
  congr 1
  · by_cases h : lo.toNat ≤ xs.length
    · by_cases h2 : hi ≤ (xs.length : Int)
      · rw [Int.min_eq_left h2]
      · rw [Int.min_eq_right (by omega), List.take_of_length_le (by rw [List.length_drop]; omega), List.take_of_length_le (by rw [List.length_drop]; omega)]
    · rw [List.drop_eq_nil_of_le (by omega), List.take_nil, List.take_nil]
  · rw [show (max lo (xs.length : Int) - (xs.length : Int)).toNat = lo.toNat - xs.length by omega]
    congr 1
    omega
theorem cut_map {f : Int → Int} {xs : List Int} {lo hi : Int} : cut (xs.map f) lo hi = (cut xs lo hi).map f := by
  unfold cut
  rw [← List.map_drop, ← List.map_take]
theorem cut_replicate {n : Nat} {v : Int} {lo hi : Int} (h3 : hi ≤ (n : Int)) : cut (List.replicate n v) lo hi = List.replicate (hi.toNat - lo.toNat) v := by
  unfold cut
  rw [List.drop_replicate, List.take_replicate]
  congr 1
  omega
theorem mem_cut {xs : List Int} {lo hi y : Int} (h : y ∈ cut xs lo hi) : y ∈ xs := List.mem_of_mem_drop (List.mem_of_mem_take h)

theorem sum_replicate (n : Nat) (v : Int) : (List.replicate n v).sum = (n : Int) * v := by
  induction n with
  | zero => simp
  | succ k ih => rw [List.replicate_succ, List.sum_cons, ih, Int.natCast_succ, Int.add_mul]; omega
theorem sum_map_add (xs : List Int) (b : Int) : (xs.map fun x => x + b).sum = xs.sum + (xs.length : Int) * b := by
  induction xs with
  | nil => simp
  | cons x xs ih =>
    rw [List.map_cons, List.sum_cons, ih, List.sum_cons, List.length_cons, Int.natCast_succ, Int.add_mul]
    omega

theorem chg_length {f : Int → Int} : ∀ (xs : List Int) (lo hi : Int), (chg f xs lo hi).length = xs.length
  | [], _, _ => rfl
  | x :: xs, lo, hi => by simp only [chg, List.length_cons, chg_length xs]
theorem chg_append {f : Int → Int} : ∀ (xs ys : List Int) (lo hi : Int), chg f (xs ++ ys) lo hi = chg f xs lo hi ++ chg f ys (lo - (xs.length : Int)) (hi - (xs.length : Int))
  | [], ys, lo, hi => by simp [chg]
  | x :: xs, ys, lo, hi => by
    simp only [List.cons_append, chg, chg_append xs ys, List.length_cons]
    rw [show lo - 1 - (xs.length : Int) = lo - ((xs.length + 1 : Nat) : Int) by omega, show hi - 1 - (xs.length : Int) = hi - ((xs.length + 1 : Nat) : Int) by omega]
theorem chg_none {f : Int → Int} : ∀ (xs : List Int) (lo hi : Int), (hi ≤ lo ∨ hi ≤ 0 ∨ (xs.length : Int) ≤ lo) → chg f xs lo hi = xs
  | [], _, _, _ => rfl
  | x :: xs, lo, hi, h => by
    rw [List.length_cons] at h
    rw [chg, chg_none xs (lo - 1) (hi - 1) (by omega), if_neg (by omega)]
theorem chg_all {f : Int → Int} : ∀ (xs : List Int) (lo hi : Int), lo ≤ 0 → (xs.length : Int) ≤ hi → chg f xs lo hi = xs.map f
  | [], _, _, _, _ => rfl
  | x :: xs, lo, hi, h1, h2 => by
    rw [List.length_cons] at h2
    rw [chg, chg_all xs (lo - 1) (hi - 1) (by omega) (by omega), if_pos (by omega), List.map_cons]
theorem chg_map {f g : Int → Int} {b : Int} (h : ∀ x, f (x + b) = g x + b) : ∀ (xs : List Int) (lo hi : Int), chg f (xs.map fun x => x + b) lo hi = (chg g xs lo hi).map fun x => x + b
  | [], _, _ => rfl
  | x :: xs, lo, hi => by
    simp only [List.map_cons, chg, chg_map h xs]
    split
    · rw [h]
    · rfl
/-- the three parts -/
theorem chg_parts {f : Int → Int} {xs : List Int} {lo hi : Int} (h0 : 0 ≤ lo) (h1 : lo ≤ hi) (h2 : hi ≤ (xs.length : Int)) : chg f xs lo hi = xs.take lo.toNat ++ (cut xs lo hi).map f ++ xs.drop hi.toNat := by
  have e : xs = xs.take lo.toNat ++ (cut xs lo hi ++ xs.drop hi.toNat) := by
    have e1 : xs.drop hi.toNat = (xs.drop lo.toNat).drop (hi.toNat - lo.toNat) := by
      rw [List.drop_drop]
      congr 1
      omega
    unfold cut
    rw [e1, List.take_append_drop, List.take_append_drop]
  have l1 : (xs.take lo.toNat).length = lo.toNat := by rw [List.length_take]; omega
  have l2 := cut_length h0 h1 h2
  conv => lhs; rw [e]
  rw [chg_append, chg_append, chg_none _ lo hi (by omega), chg_all _ _ _ (by omega) (by omega), chg_none _ _ _ (by omega), List.append_assoc]

theorem isMin_unique {m k : Int} {xs : List Int} (a : IsMin m xs) (b : IsMin k xs) : m = k := Int.le_antisymm (a.2 k b.1) (b.2 m a.1)
theorem isMin_append {m k : Int} {xs ys : List Int} (a : IsMin m xs) (b : IsMin k ys) : IsMin (if k < m then k else m) (xs ++ ys) := by
  refine ⟨?_, fun y hy => ?_⟩
  · split
    · exact List.mem_append_right _ b.1
    · exact List.mem_append_left _ a.1
  · rcases List.mem_append.mp hy with h | h
    · have := a.2 y h
      split <;> omega
    · have := b.2 y h
      split <;> omega
theorem isMin_map {m b : Int} {xs : List Int} (a : IsMin m xs) : IsMin (m + b) (xs.map fun x => x + b) := by
  refine ⟨List.mem_map.mpr ⟨m, a.1, rfl⟩, fun y hy => ?_⟩
  obtain ⟨x, hx, rfl⟩ := List.mem_map.mp hy
  have := a.2 x hx
  omega
theorem isMin_replicate {n : Nat} {v : Int} (h : 0 < n) : IsMin v (List.replicate n v) :=
  ⟨List.mem_replicate.mpr ⟨by omega, rfl⟩, fun y hy => by rw [(List.mem_replicate.mp hy).2]; exact Int.le_refl _⟩

theorem fst_none_le {xs : List Int} {lo b : Int} (h : (xs.length : Int) ≤ lo) : fst xs lo b = none := by
  unfold fst
  rw [List.drop_eq_nil_of_le (by omega)]
  rfl
theorem fst_none_gt {xs : List Int} {lo b : Int} (h : ∀ x ∈ xs, b < x) : fst xs lo b = none := by
  unfold fst
  rw [List.findIdx?_eq_none_iff.mpr fun x hx => decide_eq_false (by have := h x (List.mem_of_mem_drop hx); omega)]
  rfl
theorem fst_map {xs : List Int} {lo b c : Int} : fst (xs.map fun x => x + c) lo b = fst xs lo (b - c) := by
  unfold fst
  rw [← List.map_drop, List.findIdx?_map]
  congr 1
  congr 1
  funext x
  simp only [Function.comp]
  rw [decide_eq_decide]
  omega
theorem fst_append {xs ys : List Int} {lo b n : Int} (hn : n = (xs.length : Int)) (h0 : 0 ≤ lo) : fst (xs ++ ys) lo b = match fst xs lo b with
    | some k => some k
    | none => (fst ys (max lo n - n) b).map fun k => n + k := by
  subst hn
  unfold fst
  rw [List.drop_append, List.findIdx?_append]
  cases h : (xs.drop lo.toNat).findIdx? (fun x => decide (x ≤ b)) with
  | some k => simp
  | none =>
    have e : (max lo (xs.length : Int) - (xs.length : Int)).toNat = lo.toNat - xs.length := by omega
    rw [e]
    cases h2 : (ys.drop (lo.toNat - xs.length)).findIdx? (fun x => decide (x ≤ b)) with
    | none => simp
    | some k =>
      simp only [Option.map_some, Option.map_none, Option.none_or, Option.some.injEq, List.length_drop]
      omega
theorem fst_replicate {n : Nat} {v lo b : Int} (h0 : 0 ≤ lo) (h : lo < (n : Int)) (hv : v ≤ b) : fst (List.replicate n v) lo b = some lo := by
  unfold fst
  rw [List.drop_replicate, show n - lo.toNat = (n - lo.toNat - 1) + 1 by omega, List.replicate_succ, List.findIdx?_cons, decide_eq_true hv]
  simp
  omega
end RB
namespace RB
theorem isMin_ex : ∀ {xs : List Int}, xs ≠ [] → ∃ m, IsMin m xs
  | [x], _ => ⟨x, List.mem_singleton.mpr rfl, fun y hy => by rw [List.mem_singleton.mp hy]; exact Int.le_refl _⟩
  | x :: y :: r, _ => by
    obtain ⟨m, hm⟩ := isMin_ex (xs := y :: r) (by simp)
    have h : IsMin x [x] := ⟨List.mem_singleton.mpr rfl, fun z hz => by rw [List.mem_singleton.mp hz]; exact Int.le_refl _⟩
    exact ⟨_, isMin_append h hm⟩
theorem cut_ne {xs : List Int} {lo hi : Int} (h0 : 0 ≤ lo) (h : lo < hi) (h2 : hi ≤ (xs.length : Int)) : cut xs lo hi ≠ [] := fun e => by
  have := cut_length h0 (by omega) h2
  rw [e] at this
  simp at this
  omega
end RB
set_option autoImplicit false
/-! trees -/
namespace RB
inductive T where
  | leaf (n v : Int)
  | node (l r : T) (b : Int)
namespace T
def many : T → Int
  | leaf n _ => n
  | node l r _ => l.many + r.many
def total : T → Int
  | leaf n v => n * v
  | node l r b => l.total + r.total + (l.many + r.many) * b
def least : T → Int
  | leaf _ v => v
  | node l r b => (if r.least < l.least then r.least else l.least) + b
def row : T → List Int
  | leaf n v => List.replicate n.toNat v
  | node l r b => (l.row ++ r.row).map fun x => x + b
def Ok : Nat → T → Prop
  | d, leaf n _ => 0 ≤ n ∧ n ≤ (2 : Int) ^ d
  | 0, node _ _ _ => False
  | d + 1, node l r _ => l.Ok d ∧ r.Ok d ∧ 1 ≤ l.many ∧ 1 ≤ r.many
end T
theorem pow2_pos (d : Nat) : (0 : Int) < 2 ^ d := Int.pow_pos (by decide)
theorem pow2_succ (d : Nat) : (2 : Int) ^ (d + 1) = 2 * 2 ^ d := by rw [Int.pow_succ]; omega
theorem T.Ok.mono : ∀ {t : T} {d : Nat}, t.Ok d → t.Ok (d + 1)
  | .leaf n v, d, h => by
    have h : 0 ≤ n ∧ n ≤ (2 : Int) ^ d := by cases d <;> exact h
    refine ⟨h.1, ?_⟩
    have := pow2_pos d
    rw [pow2_succ]
    omega
  | .node l r b, 0, h => h.elim
  | .node l r b, d + 1, h => ⟨T.Ok.mono h.1, T.Ok.mono h.2.1, h.2.2⟩
theorem T.Ok.le {t : T} {d e : Nat} (h : t.Ok d) (x : d ≤ e) : t.Ok e := by
  induction x with
  | refl => exact h
  | step _ ih => exact ih.mono
theorem T.ok_leaf {d : Nat} {n v : Int} : (T.leaf n v).Ok d ↔ 0 ≤ n ∧ n ≤ (2 : Int) ^ d := by cases d <;> exact Iff.rfl
theorem T.Ok.many0 : ∀ {t : T} {d : Nat}, t.Ok d → 0 ≤ t.many
  | .leaf n v, d, h => (T.ok_leaf.mp h).1
  | .node l r b, 0, h => h.elim
  | .node l r b, d + 1, h => by
    have h1 := h.2.2.1
    have h2 := h.2.2.2
    show 0 ≤ l.many + r.many
    omega
theorem T.Ok.many_le : ∀ {t : T} {d : Nat}, t.Ok d → t.many ≤ (2 : Int) ^ d
  | .leaf n v, d, h => (T.ok_leaf.mp h).2
  | .node l r b, 0, h => h.elim
  | .node l r b, d + 1, h => by
    have h1 := T.Ok.many_le h.1
    have h2 := T.Ok.many_le h.2.1
    show l.many + r.many ≤ _
    rw [pow2_succ]
    omega
theorem T.Ok.length : ∀ {t : T} {d : Nat}, t.Ok d → (t.row.length : Int) = t.many
  | .leaf n v, d, h => by
    have := (T.ok_leaf.mp h).1
    show ((List.replicate n.toNat v).length : Int) = n
    rw [List.length_replicate]
    omega
  | .node l r b, 0, h => h.elim
  | .node l r b, d + 1, h => by
    have h1 := T.Ok.length h.1
    have h2 := T.Ok.length h.2.1
    show (((l.row ++ r.row).map fun x => x + b).length : Int) = l.many + r.many
    rw [List.length_map, List.length_append]
    omega
theorem T.Ok.sum : ∀ {t : T} {d : Nat}, t.Ok d → t.row.sum = t.total
  | .leaf n v, d, h => by
    have := (T.ok_leaf.mp h).1
    show (List.replicate n.toNat v).sum = n * v
    rw [sum_replicate, show ((n.toNat : Nat) : Int) = n by omega]
  | .node l r b, 0, h => h.elim
  | .node l r b, d + 1, h => by
    have h1 := T.Ok.sum h.1
    have h2 := T.Ok.sum h.2.1
    have l1 := T.Ok.length h.1
    have l2 := T.Ok.length h.2.1
    show ((l.row ++ r.row).map fun x => x + b).sum = l.total + r.total + (l.many + r.many) * b
    rw [sum_map_add, List.sum_append, h1, h2, List.length_append, Int.natCast_add, l1, l2]
theorem T.Ok.isMin : ∀ {t : T} {d : Nat}, t.Ok d → 1 ≤ t.many → IsMin t.least t.row
  | .leaf n v, d, h, h1 => isMin_replicate (by have : 1 ≤ n := h1; omega)
  | .node l r b, 0, h, _ => h.elim
  | .node l r b, d + 1, h, _ => isMin_map (isMin_append (T.Ok.isMin h.1 h.2.2.1) (T.Ok.isMin h.2.1 h.2.2.2))

/-! the parts of a node -/
section
variable {l r : T} {b lo hi : Int} {d : Nat}
theorem cut_node (h : (T.node l r b).Ok (d + 1)) (h0 : 0 ≤ lo) : cut (T.node l r b).row lo hi = (cut l.row lo (min hi l.many) ++ cut r.row (max lo l.many - l.many) (hi - l.many)).map fun x => x + b := by
  show cut ((l.row ++ r.row).map fun x => x + b) lo hi = _
  rw [cut_map, cut_append (h.1.length).symm h0]
theorem cut_node_left (h : (T.node l r b).Ok (d + 1)) (h0 : 0 ≤ lo) (h1 : hi ≤ l.many) : cut (T.node l r b).row lo hi = (cut l.row lo hi).map fun x => x + b := by
  rw [cut_node h h0, Int.min_eq_left h1, cut_nil (xs := r.row) (by omega), List.append_nil]
theorem cut_node_right (h : (T.node l r b).Ok (d + 1)) (h0 : 0 ≤ lo) (h1 : l.many ≤ lo) : cut (T.node l r b).row lo hi = (cut r.row (lo - l.many) (hi - l.many)).map fun x => x + b := by
  rw [cut_node h h0, cut_nil (xs := l.row) (by omega), List.nil_append, Int.max_eq_left h1]
theorem sum_node (h : (T.node l r b).Ok (d + 1)) (h0 : 0 ≤ lo) (h1 : lo ≤ hi) (h2 : hi ≤ l.many + r.many) :
    (cut (T.node l r b).row lo hi).sum = (cut l.row lo (min hi l.many)).sum + (cut r.row (max lo l.many - l.many) (hi - l.many)).sum + b * (hi - lo) := by
  have e := congrArg List.length (cut_node (lo := lo) (hi := hi) h h0)
  have e2 := cut_length (xs := (T.node l r b).row) h0 h1 (by rw [h.length]; exact h2)
  rw [List.length_map] at e
  rw [cut_node h h0, sum_map_add, List.sum_append, ← e, e2, Int.mul_comm]
theorem fst_node {bd : Int} (h : (T.node l r b).Ok (d + 1)) (h0 : 0 ≤ lo) : fst (T.node l r b).row lo bd = match fst l.row lo (bd - b) with
    | some k => some k
    | none => (fst r.row (max lo l.many - l.many) (bd - b)).map fun k => l.many + k := by
  show fst ((l.row ++ r.row).map fun x => x + b) lo bd = _
  rw [fst_map, fst_append (h.1.length).symm h0] <;> rfl
theorem chg_node {f g : Int → Int} (hf : ∀ x, f (x + b) = g x + b) (h : (T.node l r b).Ok (d + 1)) : chg f (T.node l r b).row lo hi = (chg g l.row lo hi ++ chg g r.row (lo - l.many) (hi - l.many)).map fun x => x + b := by
  show chg f ((l.row ++ r.row).map fun x => x + b) lo hi = _
  rw [chg_map hf, chg_append, h.1.length]
end
/-! a leaf halved -/
theorem row_parted {n v : Int} (h : 0 ≤ n) : (T.node (.leaf (n / 2) v) (.leaf (n - n / 2) v) 0).row = (T.leaf n v).row := by
  show (List.replicate (n / 2).toNat v ++ List.replicate (n - n / 2).toNat v).map (fun x => x + 0) = List.replicate n.toNat v
  rw [List.replicate_append_replicate]
  simp only [Int.add_zero, List.map_id']
  congr 1
  omega
theorem parted_ok {n v : Int} {d : Nat} (h : (T.leaf n v).Ok d) (h2 : 2 ≤ n) : ∃ e, d = e + 1 ∧ (T.node (.leaf (n / 2) v) (.leaf (n - n / 2) v) 0).Ok (e + 1) := by
  have hk := T.ok_leaf.mp h
  cases d with
  | zero =>
    have : n ≤ 1 := hk.2
    omega
  | succ e =>
    refine ⟨e, rfl, T.ok_leaf.mpr ?_, T.ok_leaf.mpr ?_, ?_, ?_⟩
    · have := hk.2
      rw [pow2_succ] at this
      omega
    · have := hk.2
      rw [pow2_succ] at this
      omega
    · show 1 ≤ n / 2
      omega
    · show 1 ≤ n - n / 2
      omega
theorem row_raised {l r : T} {b by_ : Int} : (T.node l r (b + by_)).row = ((T.node l r b).row).map fun x => x + by_ := by
  show (l.row ++ r.row).map (fun x => x + (b + by_)) = ((l.row ++ r.row).map fun x => x + b).map fun x => x + by_
  rw [List.map_map]
  congr 1
  funext x
  simp only [Function.comp]
  omega
theorem row_leaf_raised {n v by_ : Int} : (T.leaf n (v + by_)).row = ((T.leaf n v).row).map fun x => x + by_ := by
  show List.replicate n.toNat (v + by_) = (List.replicate n.toNat v).map fun x => x + by_
  rw [List.map_replicate]
theorem row_leaf_filled {n v : Int} {xs : List Int} (h : (xs.length : Int) = n) : (T.leaf n v).row = xs.map fun _ => v := by
  show List.replicate n.toNat v = _
  rw [List.map_const', show n.toNat = xs.length by omega]
end RB
set_option autoImplicit false
/-! rows walked from place to place -/
namespace RB
theorem drop_at {xs : List Int} {lo : Int} {i : Nat} (h0 : 0 ≤ lo) : (xs.drop lo.toNat)[i]? = xs[(lo + (i : Int)).toNat]? := by
  rw [List.getElem?_drop]
  congr 1
  omega
theorem fst_found {xs : List Int} {lo b : Int} {i : Nat} {y : Int} (h0 : 0 ≤ lo) (hy : (xs.drop lo.toNat)[i]? = some y) (hall : ∀ x ∈ (xs.drop lo.toNat).take i, b < x) (hyb : y ≤ b) : fst xs lo b = some (lo + i) := by
  unfold fst
  obtain ⟨hi, hy⟩ := List.getElem?_eq_some_iff.mp hy
  have h : (xs.drop lo.toNat).findIdx? (fun x => decide (x ≤ b)) = some i := by
    rw [List.findIdx?_eq_some_iff_getElem]
    refine ⟨hi, decide_eq_true (by rw [hy]; exact hyb), fun j hj => ?_⟩
    have hm : (xs.drop lo.toNat)[j] ∈ (xs.drop lo.toNat).take i := by
      rw [List.mem_take_iff_getElem]
      exact ⟨j, by omega, rfl⟩
    have := hall _ hm
    simp only [decide_eq_true_eq]
    omega
  rw [h]
  simp only [Option.map_some, Option.some.injEq]
  omega
theorem fst_missing {xs : List Int} {lo b : Int} (hall : ∀ x ∈ xs.drop lo.toNat, b < x) : fst xs lo b = none := by
  unfold fst
  rw [List.findIdx?_eq_none_iff.mpr fun x hx => decide_eq_false (by have := hall x hx; omega)]
  rfl
/-- behind i turns: the least number so far is m, first at the place a -/
structure AtMin (row : List Int) (lo : Int) (i : Nat) (a m : Int) : Prop where
  a0 : lo ≤ a
  a1 : a < lo + i ∨ a = lo
  at_ : row[a.toNat]? = some m
  le : ∀ x ∈ (row.drop lo.toNat).take i, m ≤ x
  lt : ∀ x ∈ (row.drop lo.toNat).take (a - lo).toNat, m < x
theorem AtMin.start {row : List Int} {lo m : Int} (h : row[lo.toNat]? = some m) : AtMin row lo 0 lo m :=
  ⟨Int.le_refl _, .inr rfl, h, fun x hx => by simp at hx, fun x hx => by simp at hx⟩
theorem mem_take_succ {xs : List Int} {i : Nat} {x y : Int} (hy : xs[i]? = some y) (h : x ∈ xs.take (i + 1)) : x ∈ xs.take i ∨ x = y := by
  rw [List.take_succ, hy] at h
  rcases List.mem_append.mp h with h | h
  · exact .inl h
  · exact .inr (by simpa using h)
theorem AtMin.lower {row : List Int} {lo a m y : Int} {i : Nat} (h0 : 0 ≤ lo) (h : AtMin row lo i a m) (hy : row[(lo + (i : Int)).toNat]? = some y) (c : y < m) : AtMin row lo (i + 1) (lo + i) y := by
  have hy' : (row.drop lo.toNat)[i]? = some y := by rw [drop_at h0]; exact hy
  refine ⟨by omega, .inl (by omega), hy, fun x hx => ?_, fun x hx => ?_⟩
  · rcases mem_take_succ hy' hx with hx | rfl
    · have := h.le x hx
      omega
    · exact Int.le_refl _
  · rw [show (lo + (i : Int) - lo).toNat = i by omega] at hx
    have := h.le x hx
    omega
theorem AtMin.stay {row : List Int} {lo a m y : Int} {i : Nat} (h0 : 0 ≤ lo) (h : AtMin row lo i a m) (hy : row[(lo + (i : Int)).toNat]? = some y) (c : m ≤ y) : AtMin row lo (i + 1) a m := by
  have hy' : (row.drop lo.toNat)[i]? = some y := by rw [drop_at h0]; exact hy
  refine ⟨h.a0, ?_, h.at_, fun x hx => ?_, h.lt⟩
  · have := h.a1
    omega
  · rcases mem_take_succ hy' hx with hx | rfl
    · exact h.le x hx
    · exact c
theorem AtMin.fin {row : List Int} {lo hi a m : Int} (h0 : 0 ≤ lo) (h1 : lo < hi) (h2 : hi ≤ (row.length : Int)) (h : AtMin row lo (hi - lo).toNat a m) : IsMin m (cut row lo hi) ∧ fst row lo m = some a ∧ a < hi := by
  have ha := h.a0
  have ha2 : a < hi := by have := h.a1; omega
  have e : cut row lo hi = (row.drop lo.toNat).take (hi - lo).toNat := by
    unfold cut
    congr 1
    omega
  have hat : (row.drop lo.toNat)[(a - lo).toNat]? = some m := by
    rw [drop_at h0, show (lo + (((a - lo).toNat : Nat) : Int)).toNat = a.toNat by omega]
    exact h.at_
  refine ⟨⟨?_, ?_⟩, ?_, ha2⟩
  · rw [e]
    have hat2 : ((row.drop lo.toNat).take (hi - lo).toNat)[(a - lo).toNat]? = some m := by
      rw [List.getElem?_take_of_lt (by omega)]
      exact hat
    exact List.mem_of_getElem? hat2
  · rw [e]
    exact h.le
  · have := fst_found h0 hat h.lt (Int.le_refl m)
    rw [this]
    congr 1
    omega
end RB
set_option autoImplicit false
/-! a row as runs of one number -/
namespace RB
structure Run where
  a : Int
  b : Int
  v : Int
/-- the runs stand one behind the other from s to e -/
def Cov : Int → List Run → Int → Prop
  | s, [], e => s = e
  | s, r :: rs, e => r.a = s ∧ r.a ≤ r.b ∧ Cov r.b rs e
def rowOf : List Run → List Int
  | [] => []
  | r :: rs => List.replicate (r.b - r.a).toNat r.v ++ rowOf rs
def Str' (rs : List Run) : Prop := ∀ r ∈ rs, r.a < r.b
theorem rowOf_append : ∀ (xs ys : List Run), rowOf (xs ++ ys) = rowOf xs ++ rowOf ys
  | [], ys => rfl
  | x :: xs, ys => by rw [List.cons_append, rowOf, rowOf_append xs ys, rowOf, List.append_assoc]
theorem Cov.append {s m e : Int} : ∀ {xs ys : List Run}, Cov s xs m → Cov m ys e → Cov s (xs ++ ys) e
  | [], ys, h1, h2 => by
    have h1 : s = m := h1
    rw [h1]
    exact h2
  | x :: xs, ys, ⟨h1, h2, h3⟩, h4 => ⟨h1, h2, Cov.append h3 h4⟩
theorem Cov.le {e : Int} : ∀ {rs : List Run} {s : Int}, Cov s rs e → s ≤ e
  | [], s, h => by have h : s = e := h; omega
  | r :: rs, s, ⟨h1, h2, h3⟩ => by have := h3.le; omega
theorem Cov.length {e : Int} : ∀ {rs : List Run} {s : Int}, Cov s rs e → ((rowOf rs).length : Int) = e - s
  | [], s, h => by
    have h : s = e := h
    show (0 : Int) = e - s
    omega
  | r :: rs, s, ⟨h1, h2, h3⟩ => by
    have := h3.length
    rw [rowOf, List.length_append, List.length_replicate]
    omega
/-- cut at a place -/
def cut1 (p : Int) (r : Run) : List Run := if r.a < p ∧ p < r.b then [⟨r.a, p, r.v⟩, ⟨p, r.b, r.v⟩] else [r]
def cutR (p : Int) (rs : List Run) : List Run := rs.flatMap (cut1 p)
theorem cut1_row (p : Int) (r : Run) : rowOf (cut1 p r) = rowOf [r] := by
  unfold cut1
  split
  · simp only [rowOf, List.append_nil]
    rw [List.replicate_append_replicate]
    congr 1
    omega
  · rfl
theorem cutR_row (p : Int) : ∀ rs : List Run, rowOf (cutR p rs) = rowOf rs
  | [] => rfl
  | r :: rs => by
    have ih := cutR_row p rs
    unfold cutR at ih ⊢
    rw [List.flatMap_cons, rowOf_append, cut1_row, ih]
    simp only [rowOf, List.append_nil]
theorem cutR_cov (p : Int) {e : Int} : ∀ {rs : List Run} {s : Int}, Cov s rs e → Cov s (cutR p rs) e
  | [], s, h => h
  | r :: rs, s, ⟨h1, h2, h3⟩ => by
    have ih := cutR_cov p h3
    unfold cutR at ih ⊢
    rw [List.flatMap_cons]
    refine Cov.append (m := r.b) ?_ ih
    unfold cut1
    split
    · exact ⟨h1, by show r.a ≤ p; omega, rfl, by show p ≤ r.b; omega, rfl⟩
    · exact ⟨h1, h2, rfl⟩
theorem mem_cutR {p : Int} {rs : List Run} {r : Run} (h : r ∈ cutR p rs) : ∃ q ∈ rs, q.a ≤ r.a ∧ r.b ≤ q.b ∧ r.v = q.v ∧ (q.a < q.b → r.a < r.b) ∧ ¬ (r.a < p ∧ p < r.b) := by
  unfold cutR at h
  obtain ⟨q, hq, hr⟩ := List.mem_flatMap.mp h
  refine ⟨q, hq, ?_⟩
  unfold cut1 at hr
  split at hr
  · rcases List.mem_cons.mp hr with rfl | hr
    · exact ⟨Int.le_refl _, by show p ≤ q.b; omega, rfl, fun _ => by show q.a < p; omega, by show ¬ (q.a < p ∧ p < p); omega⟩
    · rw [List.mem_singleton.mp hr]
      exact ⟨by show q.a ≤ p; omega, Int.le_refl _, rfl, fun _ => by show p < q.b; omega, by show ¬ (p < p ∧ p < q.b); omega⟩
  · rw [List.mem_singleton.mp hr]
    exact ⟨Int.le_refl _, Int.le_refl _, rfl, fun h => h, by assumption⟩
theorem cutR_ne {p : Int} {rs : List Run} (h : rs ≠ []) : cutR p rs ≠ [] := by
  cases rs with
  | nil => exact absurd rfl h
  | cons r rs =>
    unfold cutR
    rw [List.flatMap_cons]
    unfold cut1
    split <;> simp
/-- the runs changed over a stretch -/
def chg1 (f : Int → Int) (lo hi : Int) (r : Run) : Run := if r.a < lo ∨ hi < r.b then r else ⟨r.a, r.b, f r.v⟩
def chgR (f : Int → Int) (lo hi : Int) (rs : List Run) : List Run := if lo = hi then rs else (cutR hi (cutR lo rs)).map (chg1 f lo hi)
theorem map_chg_row {f : Int → Int} {lo hi e : Int} (hlh : lo ≤ hi) : ∀ {rs : List Run} {s : Int}, Cov s rs e → (∀ r ∈ rs, ¬ (r.a < lo ∧ lo < r.b) ∧ ¬ (r.a < hi ∧ hi < r.b)) → rowOf (rs.map (chg1 f lo hi)) = chg f (rowOf rs) (lo - s) (hi - s)
  | [], s, _, _ => rfl
  | r :: rs, s, ⟨h1, h2, h3⟩, hn => by
    have ih := map_chg_row (f := f) hlh h3 fun q hq => hn q (List.mem_cons_of_mem _ hq)
    have h := hn r List.mem_cons_self
    rw [List.map_cons, rowOf, rowOf, ih, chg_append, List.length_replicate]
    rw [show lo - s - (((r.b - r.a).toNat : Nat) : Int) = lo - r.b by omega, show hi - s - (((r.b - r.a).toNat : Nat) : Int) = hi - r.b by omega]
    congr 1
    unfold chg1
    split
    · rw [chg_none _ _ _ (by rw [List.length_replicate]; omega)]
    · by_cases c : r.a = r.b
      · rw [show (r.b - r.a).toNat = 0 by omega]
        rfl
      · rw [chg_all _ _ _ (by omega) (by rw [List.length_replicate]; omega), List.map_replicate]
theorem chgR_row {f : Int → Int} {lo hi e : Int} {rs : List Run} (hlh : lo ≤ hi) (h : Cov 0 rs e) : rowOf (chgR f lo hi rs) = chg f (rowOf rs) lo hi := by
  unfold chgR
  split
  · rw [chg_none _ _ _ (by omega)]
  · rw [map_chg_row hlh (cutR_cov hi (cutR_cov lo h)) fun r hr => ?_, cutR_row, cutR_row, Int.sub_zero, Int.sub_zero]
    obtain ⟨q, hq, k1, k2, k3, k4, k5⟩ := mem_cutR hr
    obtain ⟨q', _, _, _, _, _, k6⟩ := mem_cutR hq
    exact ⟨by omega, k5⟩
theorem map_chg_cov {f : Int → Int} {lo hi e : Int} : ∀ {rs : List Run} {s : Int}, Cov s rs e → Cov s (rs.map (chg1 f lo hi)) e
  | [], s, h => h
  | r :: rs, s, ⟨h1, h2, h3⟩ => by
    have ih := map_chg_cov (f := f) (lo := lo) (hi := hi) h3
    rw [List.map_cons]
    unfold chg1
    split
    · exact ⟨h1, h2, ih⟩
    · exact ⟨h1, h2, ih⟩
theorem chgR_cov {f : Int → Int} {lo hi e s : Int} {rs : List Run} (h : Cov s rs e) : Cov s (chgR f lo hi rs) e := by
  unfold chgR
  split
  · exact h
  · exact map_chg_cov (cutR_cov hi (cutR_cov lo h))
theorem chgR_str {f : Int → Int} {lo hi : Int} {rs : List Run} (h : Str' rs) : Str' (chgR f lo hi rs) := by
  unfold chgR
  split
  · exact h
  · intro r hr
    obtain ⟨q, hq, rfl⟩ := List.mem_map.mp hr
    obtain ⟨q1, hq1, _, _, _, k1, _⟩ := mem_cutR hq
    obtain ⟨q2, hq2, _, _, _, k2, _⟩ := mem_cutR hq1
    have := k1 (k2 (h q2 hq2))
    unfold chg1
    split
    · exact this
    · exact this
theorem chgR_ne {f : Int → Int} {lo hi : Int} {rs : List Run} (h : rs ≠ []) : chgR f lo hi rs ≠ [] := by
  unfold chgR
  split
  · exact h
  · intro e
    exact cutR_ne (cutR_ne h) (List.map_eq_nil_iff.mp e)
theorem cutR_length (p : Int) : ∀ rs : List Run, (cutR p rs).length ≤ 2 * rs.length
  | [] => Nat.le_refl _
  | r :: rs => by
    have ih := cutR_length p rs
    unfold cutR at ih ⊢
    rw [List.flatMap_cons, List.length_append, List.length_cons]
    have : (cut1 p r).length ≤ 2 := by
      unfold cut1
      split <;> simp
    omega
/-- at most one run holds the place p within -/
theorem cutR_none {p e : Int} : ∀ {rs : List Run} {s : Int}, Cov s rs e → p ≤ s → cutR p rs = rs
  | [], _, _, _ => rfl
  | r :: rs, s, ⟨h1, h2, h3⟩, h => by
    have ih := cutR_none h3 (show p ≤ r.b by omega)
    unfold cutR at ih ⊢
    rw [List.flatMap_cons, ih]
    unfold cut1
    rw [if_neg (by omega)]
    rfl
theorem cutR_length1 (p : Int) {e : Int} : ∀ {rs : List Run} {s : Int}, Cov s rs e → (cutR p rs).length ≤ rs.length + 1
  | [], _, _ => Nat.zero_le _
  | r :: rs, s, ⟨h1, h2, h3⟩ => by
    by_cases c : p < r.b
    · have ih := cutR_none (p := p) h3 (by omega)
      unfold cutR at ih ⊢
      rw [List.flatMap_cons, ih, List.length_append, List.length_cons]
      have : (cut1 p r).length ≤ 2 := by
        unfold cut1
        split <;> simp
      omega
    · have ih := cutR_length1 p h3
      unfold cutR at ih ⊢
      rw [List.flatMap_cons, List.length_append, List.length_cons]
      have : (cut1 p r).length = 1 := by
        unfold cut1
        rw [if_neg (by omega)]
        rfl
      omega
theorem chgR_length {f : Int → Int} {lo hi e s : Int} {rs : List Run} (h : Cov s rs e) : (chgR f lo hi rs).length ≤ rs.length + 2 := by
  unfold chgR
  split
  · omega
  · rw [List.length_map]
    have h1 := cutR_length1 lo h
    have h2 := cutR_length1 hi (cutR_cov lo h)
    omega
/-- the runs of a stretch -/
def win1 (lo hi : Int) (r : Run) : List Run := if max r.a lo < min r.b hi then [⟨max r.a lo, min r.b hi, r.v⟩] else []
def winR (lo hi : Int) (rs : List Run) : List Run := rs.flatMap (win1 lo hi)
theorem winR_nil {lo hi e : Int} : ∀ {rs : List Run} {s : Int}, Cov s rs e → hi ≤ s → winR lo hi rs = []
  | [], _, _, _ => rfl
  | r :: rs, s, ⟨h1, h2, h3⟩, h => by
    have ih := winR_nil (lo := lo) (hi := hi) h3 (by omega)
    unfold winR at ih ⊢
    rw [List.flatMap_cons, ih]
    unfold win1
    rw [if_neg (by omega)]
    rfl
theorem winR_cov {lo hi e : Int} : ∀ {rs : List Run} {s : Int}, Cov s rs e → lo ≤ hi → hi ≤ e → s ≤ hi → Cov (max lo s) (winR lo hi rs) (max hi (max lo s))
  | [], s, h, h1, h2, h3 => by
    have h : s = e := h
    show max lo s = max hi (max lo s)
    omega
  | r :: rs, s, ⟨h1, h2, h3⟩, k1, k2, k3 => by
    by_cases c : hi ≤ r.b
    · have e2 := winR_nil (lo := lo) (hi := hi) h3 c
      unfold winR at e2 ⊢
      rw [List.flatMap_cons, e2, List.append_nil]
      unfold win1
      split
      · refine ⟨?_, ?_, ?_⟩
        · show max r.a lo = max lo s
          omega
        · show max r.a lo ≤ min r.b hi
          omega
        · show min r.b hi = max hi (max lo s)
          omega
      · show max lo s = max hi (max lo s)
        omega
    · have ih := winR_cov (lo := lo) (hi := hi) h3 k1 k2 (by omega)
      unfold winR at ih ⊢
      rw [List.flatMap_cons]
      refine Cov.append (m := max lo r.b) ?_ ?_
      · unfold win1
        split
        · refine ⟨?_, ?_, ?_⟩
          · show max r.a lo = max lo s
            omega
          · show max r.a lo ≤ min r.b hi
            omega
          · show min r.b hi = max lo r.b
            omega
        · show max lo s = max lo r.b
          omega
      · have e1 : max hi (max lo s) = max hi (max lo r.b) := by omega
        rw [e1]
        exact ih
theorem winR_str (lo hi : Int) (rs : List Run) : Str' (winR lo hi rs) := fun r hr => by
  unfold winR at hr
  obtain ⟨q, _, hq⟩ := List.mem_flatMap.mp hr
  unfold win1 at hq
  split at hq
  · rw [List.mem_singleton.mp hq]
    assumption
  · cases hq
theorem winR_row {lo hi e : Int} : ∀ {rs : List Run} {s : Int}, Cov s rs e → lo ≤ hi → rowOf (winR lo hi rs) = cut (rowOf rs) (lo - s) (hi - s)
  | [], s, _, _ => by
    unfold cut
    rw [show rowOf [] = [] from rfl, List.drop_nil, List.take_nil]
    rfl
  | r :: rs, s, ⟨h1, h2, h3⟩, h => by
    have ih := winR_row (lo := lo) (hi := hi) h3 h
    unfold winR at ih ⊢
    rw [List.flatMap_cons, rowOf_append, ih, rowOf]
    have hc : cut (List.replicate (r.b - r.a).toNat r.v ++ rowOf rs) (lo - s) (hi - s) = cut (List.replicate (r.b - r.a).toNat r.v ++ rowOf rs) (max (lo - s) 0) (hi - s) := by
      unfold cut
      rw [show (max (lo - s) 0).toNat = (lo - s).toNat by omega]
    rw [hc, cut_append (n := r.b - r.a) (by rw [List.length_replicate]; omega) (by omega)]
    congr 1
    · rw [cut_replicate (by omega)]
      unfold win1
      split
      · simp only [rowOf, List.append_nil]
        congr 1
        omega
      · rw [show (min (hi - s) (r.b - r.a)).toNat - (max (lo - s) 0).toNat = 0 by omega]
        rfl
    · unfold cut
      rw [show (max (max (lo - s) 0) (r.b - r.a) - (r.b - r.a)).toNat = (lo - r.b).toNat by omega, show hi - s - (r.b - r.a) = hi - r.b by omega]
/-- the sum by runs -/
theorem rowOf_sum : ∀ {rs : List Run} {s e : Int}, Cov s rs e → (rs.map fun r => (r.b - r.a) * r.v).sum = (rowOf rs).sum
  | [], _, _, _ => rfl
  | r :: rs, s, e, ⟨h1, h2, h3⟩ => by
    rw [List.map_cons, List.sum_cons, rowOf_sum h3, rowOf, List.sum_append, sum_replicate, show (((r.b - r.a).toNat : Nat) : Int) = r.b - r.a by omega]
/-- the first by runs -/
def firR (lo bd : Int) : List Run → Option Int
  | [] => none
  | r :: rs => if lo < r.b ∧ r.v ≤ bd then some (max r.a lo) else firR lo bd rs
theorem fst_runs {bd e : Int} : ∀ {rs : List Run} {s lo : Int}, Cov s rs e → Str' rs → s ≤ lo → (fst (rowOf rs) (lo - s) bd).map (fun k => k + s) = firR lo bd rs
  | [], s, lo, _, _, _ => by
    unfold fst
    rw [show rowOf [] = [] from rfl, List.drop_nil]
    rfl
  | r :: rs, s, lo, ⟨h1, h2, h3⟩, hs, h => by
    have hr := hs r List.mem_cons_self
    rw [rowOf, firR, fst_append (n := r.b - r.a) (by rw [List.length_replicate]; omega) (by omega)]
    have ih := fst_runs (bd := bd) (lo := max lo r.b) h3 (fun q hq => hs q (List.mem_cons_of_mem _ hq)) (by omega)
    have rest : Option.map (fun k => k + s) (Option.map (fun k => r.b - r.a + k) (fst (rowOf rs) (max (lo - s) (r.b - r.a) - (r.b - r.a)) bd)) = firR (max lo r.b) bd rs := by
      rw [← ih, show max (lo - s) (r.b - r.a) - (r.b - r.a) = max lo r.b - r.b by omega]
      simp only [Option.map_map]
      congr 1
      funext k
      simp only [Function.comp]
      omega
    by_cases c1 : lo < r.b
    · by_cases c2 : r.v ≤ bd
      · rw [if_pos ⟨c1, c2⟩, fst_replicate (by omega) (by omega) c2]
        show some (lo - s + s) = some (max r.a lo)
        congr 1
        omega
      · rw [if_neg (by omega)]
        have e1 : fst (List.replicate (r.b - r.a).toNat r.v) (lo - s) bd = none := fst_none_gt fun x hx => by rw [(List.mem_replicate.mp hx).2]; omega
        rw [e1]
        show Option.map (fun k => k + s) (Option.map (fun k => r.b - r.a + k) _) = _
        rw [rest]
        -- behind r all lies above lo
        have up : ∀ (qs : List Run) (t : Int), Cov t qs e → Str' qs → r.b ≤ t → firR (max lo r.b) bd qs = firR lo bd qs := by
          intro qs
          induction qs with
          | nil => intro t _ _ _; rfl
          | cons q qs ihq =>
            intro t ⟨k1, k2, k3⟩ ks kt
            have kq := ks q List.mem_cons_self
            rw [firR, firR, ihq q.b k3 (fun x hx => ks x (List.mem_cons_of_mem _ hx)) (by omega)]
            have d1 : (max lo r.b < q.b) ↔ (lo < q.b) := by omega
            have d2 : max q.a (max lo r.b) = max q.a lo := by omega
            simp only [d1, d2]
        exact up rs r.b h3 (fun q hq => hs q (List.mem_cons_of_mem _ hq)) (Int.le_refl _)
    · rw [if_neg (by omega)]
      have e1 : fst (List.replicate (r.b - r.a).toNat r.v) (lo - s) bd = none := fst_none_le (by rw [List.length_replicate]; omega)
      rw [e1]
      show Option.map (fun k => k + s) (Option.map (fun k => r.b - r.a + k) _) = _
      rw [rest, show max lo r.b = lo by omega]
/-- the best of the runs so far: the first of the least number -/
structure Best (ws : List Run) (i : Nat) (x : Run) : Prop where
  mem : ∃ j : Nat, ws[j]? = some x ∧ (j < i ∨ j = 0) ∧ (∀ (k : Nat) r, k < j → ws[k]? = some r → x.v < r.v)
  le : ∀ (k : Nat) r, k < i → ws[k]? = some r → x.v ≤ r.v
theorem Best.start {ws : List Run} {x : Run} (h : ws[0]? = some x) : Best ws 0 x := ⟨⟨0, h, .inr rfl, fun k r hk => by omega⟩, fun k r hk => by omega⟩
theorem Best.lower {ws : List Run} {x y : Run} {i : Nat} (h : Best ws i x) (hy : ws[i]? = some y) (c : y.v < x.v) : Best ws (i + 1) y := by
  refine ⟨⟨i, hy, .inl (by omega), fun k r hk hr => ?_⟩, fun k r hk hr => ?_⟩
  · have := h.le k r hk hr
    omega
  · by_cases e : k = i
    · subst e
      rw [hy] at hr
      cases hr
      exact Int.le_refl _
    · have := h.le k r (by omega) hr
      omega
theorem Best.stay {ws : List Run} {x y : Run} {i : Nat} (h : Best ws i x) (hy : ws[i]? = some y) (c : x.v ≤ y.v) : Best ws (i + 1) x := by
  obtain ⟨j, h1, h2, h3⟩ := h.mem
  refine ⟨⟨j, h1, by omega, h3⟩, fun k r hk hr => ?_⟩
  by_cases e : k = i
  · subst e
    rw [hy] at hr
    cases hr
    exact c
  · exact h.le k r (by omega) hr
theorem mem_rowOf {rs : List Run} {x : Int} (h : x ∈ rowOf rs) : ∃ r ∈ rs, x = r.v := by
  induction rs with
  | nil => cases h
  | cons r rs ih =>
    rw [rowOf] at h
    rcases List.mem_append.mp h with h | h
    · exact ⟨r, List.mem_cons_self, (List.mem_replicate.mp h).2⟩
    · obtain ⟨q, hq, e⟩ := ih h
      exact ⟨q, List.mem_cons_of_mem _ hq, e⟩
theorem cov_take {e : Int} : ∀ {rs : List Run} {s : Int} {j : Nat} {r : Run}, Cov s rs e → rs[j]? = some r → Cov s (rs.take j) r.a ∧ rowOf rs = rowOf (rs.take j) ++ (List.replicate (r.b - r.a).toNat r.v ++ rowOf (rs.drop (j + 1)))
  | [], s, j, r, _, h => by simp at h
  | q :: rs, s, 0, r, ⟨h1, _, _⟩, h => by
    have h : q = r := by simpa using h
    subst h
    exact ⟨h1.symm, rfl⟩
  | q :: rs, s, j + 1, r, ⟨h1, h2, h3⟩, h => by
    obtain ⟨k1, k2⟩ := cov_take h3 (show rs[j]? = some r from h)
    refine ⟨⟨h1, h2, k1⟩, ?_⟩
    rw [List.take_succ_cons, List.drop_succ_cons, rowOf, rowOf, List.append_assoc, ← k2]
theorem Best.fin {ws : List Run} {x : Run} {lo hi : Int} {row : List Int} (hb : Best ws ws.length x) (hc : Cov lo ws hi) (hs : Str' ws) (h0 : 0 ≤ lo) (h2 : hi ≤ (row.length : Int)) (hrow : rowOf ws = cut row lo hi) : IsMin x.v (cut row lo hi) ∧ fst row lo x.v = some x.a := by
  obtain ⟨j, h1, _, h3⟩ := hb.mem
  obtain ⟨k1, k2⟩ := cov_take hc h1
  have hx := hs x (List.mem_of_getElem? h1)
  have hl := k1.length
  have hle := k1.le
  have hall := hc.length
  have hmem : x.v ∈ rowOf ws := by
    rw [k2]
    exact List.mem_append_right _ (List.mem_append_left _ (List.mem_replicate.mpr ⟨by omega, rfl⟩))
  refine ⟨⟨by rw [← hrow]; exact hmem, fun y hy => ?_⟩, ?_⟩
  · rw [← hrow] at hy
    obtain ⟨r, hr, rfl⟩ := mem_rowOf hy
    obtain ⟨k, hk⟩ := List.mem_iff_getElem?.mp hr
    exact hb.le k r (List.getElem?_eq_some_iff.mp hk).1 hk
  · have hcl : ((cut row lo hi).length : Int) = hi - lo := by rw [← hrow]; exact hall
    have hd : cut row lo hi = (row.drop lo.toNat).take (hi.toNat - lo.toNat) := rfl
    have hpos : (rowOf ws)[(x.a - lo).toNat]? = some x.v := by
      rw [k2, List.getElem?_append_right (by omega), List.getElem?_append_left (by rw [List.length_replicate]; omega), List.getElem?_replicate, if_pos (by omega)]
    have hlt : (x.a - lo).toNat < (rowOf ws).length := (List.getElem?_eq_some_iff.mp hpos).1
    have hdrop : (row.drop lo.toNat)[(x.a - lo).toNat]? = some x.v := by
      rw [hrow, hd, List.getElem?_take_of_lt (by rw [hrow] at hlt; omega)] at hpos
      exact hpos
    have hbefore : ∀ y ∈ (row.drop lo.toNat).take (x.a - lo).toNat, x.v < y := by
      intro y hy
      have e1 : (row.drop lo.toNat).take (x.a - lo).toNat = (rowOf ws).take (x.a - lo).toNat := by
        rw [hrow, hd, List.take_take]
        congr 1
        rw [hrow] at hlt
        omega
      rw [e1, k2, List.take_append_of_le_length (by omega)] at hy
      have hy := List.mem_of_mem_take hy
      obtain ⟨r, hr, rfl⟩ := mem_rowOf hy
      obtain ⟨k, hk⟩ := List.mem_iff_getElem?.mp hr
      have hkj : k < j := by
        have := (List.getElem?_eq_some_iff.mp hk).1
        rw [List.length_take] at this
        omega
      rw [List.getElem?_take_of_lt hkj] at hk
      exact h3 k r hkj hk
    have := fst_found h0 hdrop hbefore (Int.le_refl _)
    rw [this]
    congr 1
    omega

theorem Cov.mem {e : Int} : ∀ {rs : List Run} {s : Int} {r : Run}, Cov s rs e → r ∈ rs → s ≤ r.a ∧ r.a ≤ r.b ∧ r.b ≤ e
  | q :: rs, s, r, ⟨h1, h2, h3⟩, h => by
    have hle := h3.le
    rcases List.mem_cons.mp h with rfl | h
    · exact ⟨by omega, h2, hle⟩
    · have := h3.mem h
      exact ⟨by omega, this.2.1, this.2.2⟩
theorem take_row {ws : List Run} {i : Nat} {r : Run} (h : ws[i]? = some r) : rowOf (ws.take (i + 1)) = rowOf (ws.take i) ++ List.replicate (r.b - r.a).toNat r.v := by
  rw [List.take_succ, h, rowOf_append]
  show _ ++ (_ ++ []) = _
  rw [List.append_nil]
theorem drop_run {ws : List Run} {i : Nat} {r : Run} (h : ws[i]? = some r) : ws.drop i = r :: ws.drop (i + 1) := by
  obtain ⟨h1, h2⟩ := List.getElem?_eq_some_iff.mp h
  rw [List.drop_eq_getElem_cons h1, h2]
theorem firR_hit {lo bd : Int} {ws : List Run} {i : Nat} {r : Run} (h : ws[i]? = some r) (c1 : lo < r.b) (c2 : r.v ≤ bd) : firR lo bd (ws.drop i) = some (max r.a lo) := by
  rw [drop_run h, firR, if_pos ⟨c1, c2⟩]
theorem firR_miss {lo bd : Int} {ws : List Run} {i : Nat} {r : Run} (h : ws[i]? = some r) (c : ¬ (lo < r.b ∧ r.v ≤ bd)) : firR lo bd (ws.drop i) = firR lo bd (ws.drop (i + 1)) := by
  rw [drop_run h, firR, if_neg c]
end RB
set_option autoImplicit false
/-! stretches cut, joined, changed; the first one found -/
namespace RB
theorem cut_split {xs : List Int} {lo mid hi : Int} (h0 : 0 ≤ lo) (h1 : lo ≤ mid) (h2 : mid ≤ hi) : cut xs lo hi = cut xs lo mid ++ cut xs mid hi := by
  unfold cut
  rw [show hi.toNat - lo.toNat = (mid.toNat - lo.toNat) + (hi.toNat - mid.toNat) by omega, List.take_add, List.drop_drop, show lo.toNat + (mid.toNat - lo.toNat) = mid.toNat by omega]
theorem cut_get {xs : List Int} {lo hi : Int} (i : Nat) : (cut xs lo hi)[i]? = if i < hi.toNat - lo.toNat then xs[lo.toNat + i]? else none := by
  unfold cut
  rw [List.getElem?_take]
  split
  · rw [List.getElem?_drop]
  · rfl
theorem chg_get {f : Int → Int} : ∀ (xs : List Int) (lo hi : Int) (i : Nat), (chg f xs lo hi)[i]? = (xs[i]?).map fun x => if lo ≤ (i : Int) ∧ (i : Int) < hi then f x else x
  | [], lo, hi, i => by simp [chg]
  | x :: xs, lo, hi, 0 => by simp [chg]
  | x :: xs, lo, hi, i + 1 => by
    rw [chg, List.getElem?_cons_succ, List.getElem?_cons_succ, chg_get xs (lo - 1) (hi - 1) i]
    have e : (lo - 1 ≤ (i : Int) ∧ (i : Int) < hi - 1) ↔ (lo ≤ ((i + 1 : Nat) : Int) ∧ ((i + 1 : Nat) : Int) < hi) := by omega
    simp only [e]
theorem cut_chg_out {f : Int → Int} {xs : List Int} {dl dh lo hi : Int} (h0 : 0 ≤ lo) (h : hi ≤ dl ∨ dh ≤ lo ∨ hi ≤ lo) : cut (chg f xs dl dh) lo hi = cut xs lo hi := by
  apply List.ext_getElem?
  intro i
  rw [cut_get, cut_get]
  split
  · rw [chg_get]
    cases xs[lo.toNat + i]? with
    | none => rfl
    | some x =>
      rw [Option.map_some]
      rw [if_neg (by omega)]
  · rfl
theorem cut_chg_in {f : Int → Int} {xs : List Int} {dl dh lo hi : Int} (h0 : 0 ≤ lo) (h1 : dl ≤ lo) (h2 : hi ≤ dh) : cut (chg f xs dl dh) lo hi = (cut xs lo hi).map f := by
  apply List.ext_getElem?
  intro i
  rw [List.getElem?_map, cut_get, cut_get]
  split
  · rw [chg_get]
    cases xs[lo.toNat + i]? with
    | none => rfl
    | some x =>
      rw [Option.map_some, Option.map_some]
      rw [if_pos (by omega)]
  · rfl
/-- a stretch of a changed row: its three parts -/
theorem cut_chg {f : Int → Int} {xs : List Int} {dl dh b e lo hi : Int} (h0 : 0 ≤ b) (h1 : b ≤ e) (hd : dl ≤ dh) (hlo : lo = min (max b dl) e) (hhi : hi = max lo (min e dh)) :
    cut (chg f xs dl dh) b e = cut xs b lo ++ ((cut xs lo hi).map f ++ cut xs hi e) := by
  rw [cut_split (mid := lo) h0 (by omega) (by omega), cut_split (lo := lo) (mid := hi) (by omega) (by omega) (by omega)]
  rw [cut_chg_out h0 (by omega), cut_chg_out (lo := hi) (by omega) (by omega)]
  congr 2
  by_cases c : lo < hi
  · rw [cut_chg_in (by omega) (by omega) (by omega)]
  · rw [cut_nil (by omega), cut_nil (by omega)]
    rfl
theorem cut_one {xs : List Int} {k y : Int} (h0 : 0 ≤ k) (h : xs[k.toNat]? = some y) : cut xs k (k + 1) = [y] := by
  apply List.ext_getElem?
  intro i
  rw [cut_get]
  cases i with
  | zero => rw [if_pos (by omega), Nat.add_zero, h]; rfl
  | succ i => rw [if_neg (by omega)]; rfl
theorem first_le {bd : Int} : ∀ {L : List Int}, (∃ x ∈ L, x ≤ bd) → ∃ (i : Nat) (y : Int), L[i]? = some y ∧ y ≤ bd ∧ ∀ x ∈ L.take i, bd < x
  | [], h => by obtain ⟨x, hx, _⟩ := h; cases hx
  | z :: L, h => by
    by_cases c : z ≤ bd
    · exact ⟨0, z, rfl, c, fun x hx => by simp at hx⟩
    · obtain ⟨x, hx, hb⟩ := h
      have hx : x ∈ L := by
        rcases List.mem_cons.mp hx with rfl | hx
        · exact absurd hb c
        · exact hx
      obtain ⟨i, y, h1, h2, h3⟩ := first_le ⟨x, hx, hb⟩
      refine ⟨i + 1, y, h1, h2, fun w hw => ?_⟩
      rw [List.take_succ_cons] at hw
      rcases List.mem_cons.mp hw with rfl | hw
      · omega
      · exact h3 w hw
theorem fst_some {xs : List Int} {lo bd k : Int} (h0 : 0 ≤ lo) (h : fst xs lo bd = some k) : lo ≤ k ∧ k < (xs.length : Int) ∧ (∃ y, xs[k.toNat]? = some y ∧ y ≤ bd) ∧ ∀ x ∈ cut xs lo k, bd < x := by
  by_cases c : ∃ x ∈ xs.drop lo.toNat, x ≤ bd
  · obtain ⟨i, y, h1, h2, h3⟩ := first_le c
    have := fst_found h0 h1 h3 h2
    rw [this] at h
    cases h
    rw [drop_at h0] at h1
    have hl := (List.getElem?_eq_some_iff.mp h1).1
    refine ⟨by omega, by omega, ⟨y, h1, h2⟩, fun x hx => h3 x ?_⟩
    unfold cut at hx
    rw [show (lo + (i : Int)).toNat - lo.toNat = i by omega] at hx
    exact hx
  · have := fst_missing (xs := xs) (lo := lo) (b := bd) fun x hx => by
      by_cases d : x ≤ bd
      · exact absurd ⟨x, hx, d⟩ c
      · omega
    rw [this] at h
    cases h
theorem fst_no {xs : List Int} {lo bd : Int} (h0 : 0 ≤ lo) (h : fst xs lo bd = none) : ∀ x ∈ xs.drop lo.toNat, bd < x := fun x hx => by
  by_cases c : x ≤ bd
  · obtain ⟨i, y, h1, h2, h3⟩ := first_le ⟨x, hx, c⟩
    rw [fst_found h0 h1 h3 h2] at h
    cases h
  · omega
/-- the least of the least ones of the parts -/
theorem isMin_parts {m : Int} {ms X : List Int} (h1 : ∀ k ∈ ms, k ∈ X) (h2 : ∀ x ∈ X, ∃ k ∈ ms, k ≤ x) (h : IsMin m X) : IsMin m ms := by
  obtain ⟨k, hk, hle⟩ := h2 m h.1
  have e : k = m := by
    have := h.2 k (h1 k hk)
    omega
  subst e
  exact ⟨hk, fun y hy => h.2 y (h1 y hy)⟩
theorem first_at {m : Int} : ∀ {xs : List Int}, m ∈ xs → ∃ j : Nat, xs[j]? = some m ∧ ∀ (k : Nat) y, k < j → xs[k]? = some y → y ≠ m
  | x :: xs, h => by
    by_cases e : x = m
    · exact ⟨0, by rw [e]; rfl, fun k y hk => by omega⟩
    · have h : m ∈ xs := by
        rcases List.mem_cons.mp h with h | h
        · exact absurd h.symm e
        · exact h
      obtain ⟨j, h1, h2⟩ := first_at h
      refine ⟨j + 1, h1, fun k y hk hy => ?_⟩
      cases k with
      | zero => cases hy; exact e
      | succ k => exact h2 k y (by omega) hy
/-- the first place of the least number -/
theorem least_at {row : List Int} {lo hi m : Int} (lo0 : 0 ≤ lo) (h : IsMin m (cut row lo hi)) : ∃ j : Nat, (cut row lo hi)[j]? = some m ∧ (∀ (k : Nat) y, k < j → (cut row lo hi)[k]? = some y → y ≠ m) ∧ fst row lo m = some (lo + j) ∧ row[(lo + j).toNat]? = some m := by
  obtain ⟨j, h1, h2⟩ := first_at h.1
  have hd : cut row lo hi = (row.drop lo.toNat).take (hi.toNat - lo.toNat) := rfl
  have hlt : j < (cut row lo hi).length := (List.getElem?_eq_some_iff.mp h1).1
  rw [hd, List.length_take] at hlt
  have h3 : (row.drop lo.toNat)[j]? = some m := by
    rw [hd, List.getElem?_take_of_lt (by omega)] at h1
    exact h1
  refine ⟨j, h1, h2, fst_found lo0 h3 (fun x hx => ?_) (Int.le_refl _), by rw [drop_at lo0] at h3; exact h3⟩
  obtain ⟨k, hk⟩ := List.mem_iff_getElem?.mp hx
  have hkj : k < j := by
    have := (List.getElem?_eq_some_iff.mp hk).1
    rw [List.length_take] at this
    omega
  rw [List.getElem?_take_of_lt hkj] at hk
  have hk' : (cut row lo hi)[k]? = some x := by
    rw [hd, List.getElem?_take_of_lt (by omega)]
    exact hk
  have a1 := h.2 x (List.mem_of_getElem? hk')
  have a2 := h2 k x hkj hk'
  omega
theorem isMin_one {m : Int} : IsMin m [m] := ⟨List.mem_singleton.mpr rfl, fun y hy => by rw [List.mem_singleton.mp hy]; exact Int.le_refl _⟩
theorem isMin_snoc {m y : Int} {xs : List Int} (h : IsMin m xs) : IsMin (if y < m then y else m) (xs ++ [y]) := isMin_append h isMin_one
theorem isMax_ex : ∀ {xs : List Int}, xs ≠ [] → ∃ m, m ∈ xs ∧ ∀ y ∈ xs, y ≤ m
  | [], h => absurd rfl h
  | [x], _ => ⟨x, List.mem_singleton.mpr rfl, fun y hy => by rw [List.mem_singleton.mp hy]; exact Int.le_refl _⟩
  | x :: y :: xs, _ => by
    obtain ⟨m, h1, h2⟩ := isMax_ex (xs := y :: xs) (by simp)
    by_cases c : x ≤ m
    · exact ⟨m, List.mem_cons_of_mem _ h1, fun z hz => by
        rcases List.mem_cons.mp hz with rfl | hz
        · exact c
        · exact h2 z hz⟩
    · exact ⟨x, List.mem_cons_self, fun z hz => by
        rcases List.mem_cons.mp hz with rfl | hz
        · exact Int.le_refl _
        · have := h2 z hz; omega⟩
end RB
set_option autoImplicit false
/-! deeds on a stack of rows -/
namespace RB
def minL : List Int → Int
  | [] => 0
  | [x] => x
  | x :: y :: xs => min x (minL (y :: xs))
theorem minL_is : ∀ {xs : List Int}, xs ≠ [] → IsMin (minL xs) xs
  | [], h => absurd rfl h
  | [x], _ => isMin_one
  | x :: y :: xs, _ => by
    have ih := minL_is (xs := y :: xs) (by simp)
    rw [minL]
    by_cases c : minL (y :: xs) < x
    · rw [show min x (minL (y :: xs)) = minL (y :: xs) by omega]
      refine ⟨List.mem_cons_of_mem _ ih.1, fun z hz => ?_⟩
      rcases List.mem_cons.mp hz with rfl | hz
      · omega
      · exact ih.2 z hz
    · rw [show min x (minL (y :: xs)) = x by omega]
      refine ⟨List.mem_cons_self, fun z hz => ?_⟩
      rcases List.mem_cons.mp hz with rfl | hz
      · omega
      · have := ih.2 z hz; omega
inductive Deed where
  | change (fill : Bool) (lo hi v : Int)
  | total (lo hi : Int)
  | least (lo hi : Int)
  | place (lo hi : Int)
  | first (lo bd : Int)
  | list (lo hi : Int)
  | back
inductive Bad where
  | out
  | nothing
  | many
inductive Out where
  | num (o : Option Int)
  | row (xs : List Int)
  | bad (b : Bad)
def InRow (row : List Int) (lo hi : Int) : Prop := 0 ≤ lo ∧ lo ≤ hi ∧ hi ≤ (row.length : Int)
instance (row : List Int) (lo hi : Int) : Decidable (InRow row lo hi) := by unfold InRow; infer_instance
/-- what one deed answers of a row -/
def outOf (row : List Int) : Deed → Out
  | .change _ lo hi _ => if InRow row lo hi then .num none else .bad .out
  | .total lo hi => if InRow row lo hi then .num (some (cut row lo hi).sum) else .bad .out
  | .least lo hi => if ¬ InRow row lo hi then .bad .out else if lo = hi then .bad .nothing else .num (some (minL (cut row lo hi)))
  | .place lo hi => if ¬ InRow row lo hi then .bad .out else if lo = hi then .bad .nothing else .num (fst row lo (minL (cut row lo hi)))
  | .first lo bd => if 0 ≤ lo ∧ lo ≤ (row.length : Int) then .num (fst row lo bd) else .bad .out
  | .list lo hi => if ¬ InRow row lo hi then .bad .out else if 1000 < hi - lo then .bad .many else .row (cut row lo hi)
  | .back => .num none
def chgB (fill : Bool) (v : Int) : Int → Int := if fill then fun _ => v else fun x => x + v
/-- a stack of rows, the top last: what is answered, the stack behind -/
def stepO (rows : List (List Int)) : Deed → Out
  | .back => if rows.length = 1 then .bad .nothing else .num none
  | d => outOf (rows.getLastD []) d
def stepS (rows : List (List Int)) : Deed → List (List Int)
  | .back => if rows.length = 1 then rows else rows.dropLast
  | .change fill lo hi v => if InRow (rows.getLastD []) lo hi then rows ++ [chg (chgB fill v) (rows.getLastD []) lo hi] else rows
  | _ => rows
def outs : List (List Int) → List Deed → List Out
  | _, [] => []
  | rows, d :: ds => stepO rows d :: outs (stepS rows d) ds
def after : List (List Int) → List Deed → List (List Int)
  | rows, [] => rows
  | rows, d :: ds => after (stepS rows d) ds
theorem after_snoc : ∀ (rows : List (List Int)) (ds : List Deed) (d : Deed), after rows (ds ++ [d]) = stepS (after rows ds) d
  | _, [], _ => rfl
  | rows, e :: ds, d => after_snoc (stepS rows e) ds d
theorem outs_snoc : ∀ (rows : List (List Int)) (ds : List Deed) (d : Deed), outs rows (ds ++ [d]) = outs rows ds ++ [stepO (after rows ds) d]
  | _, [], _ => rfl
  | rows, e :: ds, d => by
    show stepO rows e :: outs (stepS rows e) (ds ++ [d]) = _
    rw [outs_snoc (stepS rows e) ds d]
    rfl
theorem outs_length : ∀ (rows : List (List Int)) (ds : List Deed), (outs rows ds).length = ds.length
  | _, [] => rfl
  | rows, d :: ds => by
    show (stepO rows d :: outs (stepS rows d) ds).length = _
    rw [List.length_cons, outs_length, List.length_cons]
theorem stepS_ne {rows : List (List Int)} (h : rows ≠ []) (d : Deed) : stepS rows d ≠ [] := by
  have hl := List.length_pos_iff.mpr h
  cases d with
  | change fill lo hi v =>
    simp only [stepS]
    split
    · simp
    · exact h
  | back =>
    simp only [stepS]
    split
    · exact h
    · intro e
      have := congrArg List.length e
      rw [List.length_dropLast, List.length_nil] at this
      omega
  | total lo hi => exact h
  | least lo hi => exact h
  | place lo hi => exact h
  | first lo hi => exact h
  | list lo hi => exact h
theorem after_ne : ∀ {rows : List (List Int)} (ds : List Deed), rows ≠ [] → after rows ds ≠ []
  | _, [], h => h
  | _, d :: ds, h => after_ne ds (stepS_ne h d)
theorem last_length {rows : List (List Int)} {n : Nat} (h : ∀ r ∈ rows, r.length = n) (hne : rows ≠ []) : (rows.getLastD []).length = n := by
  cases e : rows.getLast? with
  | none => exact absurd (List.getLast?_eq_none_iff.mp e) hne
  | some r =>
    rw [List.getLastD_eq_getLast?, e]
    exact h r (List.mem_of_getLast? e)
theorem stepS_length {rows : List (List Int)} {n : Nat} (h : ∀ r ∈ rows, r.length = n) (hne : rows ≠ []) (d : Deed) : ∀ r ∈ stepS rows d, r.length = n := by
  have hlast := last_length h hne
  cases d with
  | change fill lo hi v =>
    simp only [stepS]
    split
    · intro r hr
      rcases List.mem_append.mp hr with hr | hr
      · exact h r hr
      · rw [List.mem_singleton.mp hr, chg_length]
        exact hlast
    · exact h
  | back =>
    simp only [stepS]
    split
    · exact h
    · intro r hr
      exact h r (List.dropLast_subset _ hr)
  | total lo hi => exact h
  | least lo hi => exact h
  | place lo hi => exact h
  | first lo hi => exact h
  | list lo hi => exact h
end RB
namespace RB
/-- a row as runs of one place each -/
def runs1 : List Int → Int → List Run
  | [], _ => []
  | x :: xs, s => ⟨s, s + 1, x⟩ :: runs1 xs (s + 1)
theorem runs1_get : ∀ (xs : List Int) (s : Int) (i : Nat), (runs1 xs s)[i]? = (xs[i]?).map fun x => ⟨s + i, s + i + 1, x⟩
  | [], s, i => rfl
  | x :: xs, s, 0 => by simp [runs1]
  | x :: xs, s, i + 1 => by
    rw [runs1, List.getElem?_cons_succ, List.getElem?_cons_succ, runs1_get xs (s + 1) i, show s + 1 + (i : Int) = s + ((i + 1 : Nat) : Int) by omega]
theorem runs1_length : ∀ (xs : List Int) (s : Int), (runs1 xs s).length = xs.length
  | [], _ => rfl
  | x :: xs, s => by rw [runs1, List.length_cons, List.length_cons, runs1_length xs]
theorem runs1_row : ∀ (xs : List Int) (s : Int), rowOf (runs1 xs s) = xs
  | [], _ => rfl
  | x :: xs, s => by
    rw [runs1, rowOf, runs1_row xs]
    show List.replicate (s + 1 - s).toNat x ++ xs = x :: xs
    rw [show (s + 1 - s).toNat = 1 by omega]
    rfl
theorem runs1_cov : ∀ (xs : List Int) (s : Int), Cov s (runs1 xs s) (s + (xs.length : Int))
  | [], s => by
    show s = s + ((0 : Nat) : Int)
    omega
  | x :: xs, s => by
    refine ⟨rfl, by show s ≤ s + 1; omega, ?_⟩
    have h := runs1_cov xs (s + 1)
    rw [show s + 1 + (xs.length : Int) = s + ((x :: xs).length : Int) by rw [List.length_cons]; omega] at h
    exact h
theorem runs1_str : ∀ (xs : List Int) (s : Int), Str' (runs1 xs s)
  | [], s => fun r h => by cases h
  | x :: xs, s => fun r h => by
    rcases List.mem_cons.mp h with rfl | h
    · show s < s + 1
      omega
    · exact runs1_str xs (s + 1) r h
/-- no place: nothing is found -/
theorem firR_none {lo bd : Int} : ∀ {rs : List Run} {s : Int}, Cov s rs lo → firR lo bd rs = none
  | [], _, _ => rfl
  | r :: rs, s, ⟨h1, h2, h3⟩ => by
    have h4 := h3.le
    rw [firR, if_neg (by omega), firR_none h3]
theorem firR_fst {rs : List Run} {n lo bd : Int} (hC : Cov 0 rs n) (hs : 0 < n → Str' rs) (h0 : 0 ≤ lo) (h1 : lo ≤ n) : firR lo bd rs = fst (rowOf rs) lo bd := by
  by_cases c : 0 < n
  · have := fst_runs (bd := bd) (lo := lo) hC (hs c) h0
    rw [Int.sub_zero] at this
    rw [← this]
    cases fst (rowOf rs) lo bd with
    | none => rfl
    | some k => show some (k + 0) = some k; rw [Int.add_zero]
  · have hl := hC.length
    have e : lo = n := by omega
    rw [e, firR_none hC, fst_none_le (by omega)]
end RB
/-! evaluation in one judgement: an expression, the slots, the heap that is known, what comes of it -/
namespace RB
open PySem L2 PyProof.Rows
open Evl (Ex)
theorem _root_.Evl.Ex.fresh {H H' : Hp} {p : Addr} (e : Ex H H') (h : H' p = none) : H p = none := by
  cases h1 : H p with
  | none => rfl
  | some o =>
    rw [e p o h1] at h
    cases h
theorem _root_.Evl.Ex.rd {H H' : Hp} {a : Addr} {u : HO} (e : Ex H H') (h : Rd H a u) : Rd H' a u := by
  rcases h with h | ⟨o, h⟩
  · exact Or.inl (e a _ h)
  · exact Or.inr ⟨o, e a _ h⟩
theorem _root_.Evl.Ex.l {K : PySem.W.Frag} {H H' : Hp} {a : Addr} {xs : List V} (e : Ex H H') (h : SqL K H a xs) : SqL K H' a xs := by
  rcases h with h | h
  · exact Or.inl (e.rd h)
  · exact Or.inr h
theorem _root_.Evl.Ex.t {K : PySem.W.Frag} {H H' : Hp} {a : Addr} {xs : List V} (e : Ex H H') (h : SqT K H a xs) : SqT K H' a xs := by
  rcases h with h | h
  · exact Or.inl (e.rd h)
  · exact Or.inr h
/-- small sizes -/
theorem sz {n : Nat} (h : n ≤ 1000000) : n ≤ sizeLine := Nat.le_trans h (by rw [sizeLine_eq]; decide)
theorem sz_lt {n : Nat} (h : n < 1000000) : n < sizeLine := Nat.lt_of_lt_of_le h (by rw [sizeLine_eq]; decide)

/-! ### what comes of an expression: of the heap ahead, the value, the heap behind -/
abbrev Rk := Hp → V → Hp → Prop
class RM (R : Rk) : Prop where
  m : ∀ {H0 H1 H2 H3 : Hp} {v : V}, Ex H0 H1 → Ex H2 H3 → R H1 v H2 → R H0 v H3
/-- the value v -/
def Is (v : V) : Rk := fun _ u _ => u = v
/-- a new list, a new tuple -/
def NL (xs : List V) : Rk := fun H1 u H2 => ∃ p, u = .ref p ∧ H1 p = none ∧ H2 p = some (.lst xs)
def NT (xs : List V) : Rk := fun H1 u H2 => ∃ p, u = .ref p ∧ H1 p = none ∧ H2 p = some (.tup xs)
/-- something that stays true of the value -/
def Of (P : Hp → V → Prop) : Rk := fun _ u H2 => P H2 u
class PM (P : Hp → V → Prop) : Prop where
  m : ∀ {H H' : Hp} {v : V}, Ex H H' → P H v → P H' v
instance (v : V) : RM (Is v) := ⟨fun _ _ h => h⟩
instance (xs : List V) : RM (NL xs) := ⟨fun e0 e2 ⟨p, h1, h2, h3⟩ => ⟨p, h1, e0.fresh h2, e2 _ _ h3⟩⟩
instance (xs : List V) : RM (NT xs) := ⟨fun e0 e2 ⟨p, h1, h2, h3⟩ => ⟨p, h1, e0.fresh h2, e2 _ _ h3⟩⟩
instance (P : Hp → V → Prop) [q : PM P] : RM (Of P) := ⟨fun _ e2 h => q.m e2 h⟩
def AllR : List Rk → Hp → List V → Hp → Prop
  | [], _, vs, _ => vs = []
  | R :: Rs, H1, vs, H2 => ∃ v r, vs = v :: r ∧ R H1 v H2 ∧ AllR Rs H1 r H2

class RMs (Rs : List Rk) : Prop where
  m : ∀ {H0 H1 H2 H3 : Hp} {vs : List V}, Ex H0 H1 → Ex H2 H3 → AllR Rs H1 vs H2 → AllR Rs H0 vs H3
instance : RMs [] := ⟨fun _ _ h => h⟩
instance (R : Rk) (Rs : List Rk) [q : RM R] [q1 : RMs Rs] : RMs (R :: Rs) := ⟨fun e0 e2 ⟨v, r, h, h1, h2⟩ => ⟨v, r, h, q.m e0 e2 h1, q1.m e0 e2 h2⟩⟩

def tE (σ : L2.St) (H : Hp) (R : Rk) : TE := fun σ' H' Q => σ' = σ ∧ Ex H H' ∧ ∀ v H2, Ex H' H2 → R H' v H2 → Q v H2
def tT (σ : L2.St) (H : Hp) (b : Bool) : TT := fun σ' H' Q => σ' = σ ∧ Ex H H' ∧ ∀ H2, Ex H' H2 → Q b H2
def tV (σ : L2.St) (H : Hp) (vs : List V) : TA := fun σ' H' Q => σ' = σ ∧ Ex H H' ∧ ∀ H2, Ex H' H2 → Q vs H2
def tA (σ : L2.St) (H : Hp) (Rs : List Rk) : TA := fun σ' H' Q => σ' = σ ∧ Ex H H' ∧ ∀ vs H2, Ex H' H2 → AllR Rs H' vs H2 → Q vs H2
def tO (σ : L2.St) (H : Hp) (o : Option Int) : TO := fun σ' H' Q => σ' = σ ∧ Ex H H' ∧ ∀ H2, Ex H' H2 → Q o H2
def EX (X : Cx) (e : Expr) (σ : L2.St) (H : Hp) (R : Rk) : Prop := PE X e (tE σ H R)
def TX (X : Cx) (e : Expr) (σ : L2.St) (H : Hp) (b : Bool) : Prop := PT X e (tT σ H b)
/-- and, or: whatever the whole is -/
def WX' (X : Cx) (e : Expr) (σ : L2.St) (H : Hp) (b : Bool) : Prop := PW X e (tT σ H b)
def AV (X : Cx) (es : List Expr) (σ : L2.St) (H : Hp) (vs : List V) : Prop := PA X es (tV σ H vs)
def AX (X : Cx) (es : List Expr) (σ : L2.St) (H : Hp) (Rs : List Rk) : Prop := PA X es (tA σ H Rs)

theorem PE.weak {X : Cx} {e : Expr} {t u : TE} (h : PE X e t) (w : ∀ σ H Q, u σ H Q → t σ H Q) : PE X e u := ⟨fun pins s σ H Q I q => h.run pins s σ H Q I (w σ H Q q)⟩
theorem PT.weak {X : Cx} {e : Expr} {t u : TT} (h : PT X e t) (w : ∀ σ H Q, u σ H Q → t σ H Q) : PT X e u := ⟨fun pins s σ H Q I q => h.run pins s σ H Q I (w σ H Q q)⟩
theorem PA.weak {X : Cx} {e : List Expr} {t u : TA} (h : PA X e t) (w : ∀ σ H Q, u σ H Q → t σ H Q) : PA X e u := ⟨fun pos pins s σ H Q I q => h.run pos pins s σ H Q I (w σ H Q q)⟩
theorem PS.weak {X : Cx} {e : Stmt} {t u : TS} (h : PS X e t) (w : ∀ D σ H, u D σ H → t D σ H) : PS X e u := ⟨fun pins s σ H D I q => h.run pins s σ H D I (w D σ H q)⟩
theorem PSs.weak {X : Cx} {e : List Stmt} {t u : TS} (h : PSs X e t) (w : ∀ D σ H, u D σ H → t D σ H) : PSs X e u := ⟨fun pins s σ H D I q => h.run pins s σ H D I (w D σ H q)⟩

section
variable {X : Cx} {a b c e : Expr} {es : List Expr} {σ : L2.St} {H : Hp} {R Ra Rb : Rk} {Rs : List Rk} {pos : Pos} {i j : Int} {x y v : V} {vs : List V}

/-- what is known of the value may be said anew -/
theorem EX.mono {R' : Rk} (h : EX X e σ H R) (w : ∀ H1 v H2, Ex H H1 → Ex H1 H2 → R H1 v H2 → R' H1 v H2) : EX X e σ H R' := PE.weak h fun σ' H' Q ⟨e1, e2, q⟩ => ⟨e1, e2, fun v H2 x r => q v H2 x (w _ _ _ e2 x r)⟩
theorem EX.is {u : V} (h : EX X e σ H (Is v)) (w : v = u) : EX X e σ H (Is u) := w ▸ h
theorem TX.is {k k' : Bool} (h : TX X e σ H k) (w : k = k') : TX X e σ H k' := w ▸ h
/-- a value: a rule whose reading asks nothing of the heap -/
theorem ex_val {t : TE} (h : PE X e t) (w : ∀ H' Q, Ex H H' → (∀ H2, Ex H' H2 → Q v H2) → t σ H' Q) : EX X e σ H (Is v) := PE.weak h fun σ' H' Q ⟨e1, e2, q⟩ => by
  subst e1
  exact w H' Q e2 fun H2 x => q v H2 x rfl

theorem ex_var (k : Nat) {n : Str} (hN : X.N[k]? = some n := by rfl) (hv : Vis X.env.scope n := by first | exact Or.inl rfl | exact Or.inr (Or.inl rfl) | exact Or.inr (Or.inr rfl)) (h : σ[k]? = some (some v) := by rfl)
    (hd : (n == ("__debug__" : Str)) = false := by decide) (hcd : (n == ("__classdict__" : Str)) = false := by decide) : EX X (.Name n pos) σ H (Is v) :=
  ex_val (pe_var hN hv hd hcd) fun H' _ _ q => ⟨v, h, q H' (Ex.refl H')⟩
theorem ex_int {k : Int} {m : Option Str} : True := trivial
theorem ex_i {k m} : EX X (.Constant (.int k) m pos) σ H (Is (.int k)) := ex_val pe_int fun H' _ _ q => q H' (Ex.refl H')
theorem ex_b {k m} : EX X (.Constant (.bool k) m pos) σ H (Is (.bl k)) := ex_val pe_bl fun H' _ _ q => q H' (Ex.refl H')
theorem ex_n {m} : EX X (.Constant .none m pos) σ H (Is .non) := ex_val pe_non fun H' _ _ q => q H' (Ex.refl H')
theorem ex_s {k m} : EX X (.Constant (.str k) m pos) σ H (Is (.str k)) := ex_val pe_str fun H' _ _ q => q H' (Ex.refl H')
theorem ex_glob {n : Str} {u : Value} (hg : Gl X n) (hm : X.mg n = some u) (r : RelV v u) (hd : (n == ("__debug__" : Str)) = false := by decide) : EX X (.Name n pos) σ H (Is v) := ex_val (pe_glob hg hm r hd) fun H' _ _ q => q H' (Ex.refl H')
theorem ex_bltn {n : Str} {u : Value} (hg : Gl X n) (hm : X.mg n = none) (hv : bootBuiltins n = some u) (r : RelV v u) (hn : n ≠ "__name__" := by decide) (hd : (n == ("__debug__" : Str)) = false := by decide) : EX X (.Name n pos) σ H (Is v) := ex_val (pe_bltn hg hm hv r hn hd) fun H' _ _ q => q H' (Ex.refl H')

/-- a two-place operation on two values -/
theorem ex_op {op : Operator} {r : R2} {Q' : Rk} (ho : OpR X (binaryOp op) r) (ha : EX X a σ H (Is x)) (hb : EX X b σ H (Is y)) (hr : ∀ H1 Q, Ex H H1 → (∀ v H2, Ex H1 H2 → Q' H1 v H2 → Q v H2) → r x y H1 Q) [q : RM Q'] : EX X (.BinOp a op b pos) σ H Q' :=
  PE.weak (pe_op ho ha hb) fun σ' H' Q ⟨e1, e2, q'⟩ => ⟨e1, e2, fun u H2 x2 hu => ⟨e1, e2.trans x2, fun u' H3 x3 hu' => by
    cases hu
    cases hu'
    exact hr H3 Q (e2.trans (x2.trans x3)) fun v H4 x4 z => q' v H4 (x2.trans (x3.trans x4)) (q.m (x2.trans x3) (Ex.refl _) z)⟩⟩
theorem ex_opI {op : Operator} {f : Int → Int → V} (ho : OpR X (binaryOp op) (rI0 f)) (ha : EX X a σ H (Is (.int i))) (hb : EX X b σ H (Is (.int j))) : EX X (.BinOp a op b pos) σ H (Is (f i j)) :=
  ex_op ho ha hb fun H1 _ _ q => ⟨i, j, rfl, rfl, q _ H1 (Ex.refl H1) rfl⟩
theorem ex_opC {op : Operator} {C : Int → Int → Prop} {f : Int → Int → V} (ho : OpR X (binaryOp op) (rI C f)) (ha : EX X a σ H (Is (.int i))) (hb : EX X b σ H (Is (.int j))) (hc : C i j) : EX X (.BinOp a op b pos) σ H (Is (f i j)) :=
  ex_op ho ha hb fun H1 _ _ q => ⟨i, j, rfl, rfl, hc, q _ H1 (Ex.refl H1) rfl⟩
theorem ex_add (ha : EX X a σ H (Is (.int i))) (hb : EX X b σ H (Is (.int j))) : EX X (.BinOp a .Add b pos) σ H (Is (.int (i + j))) := ex_opI op_add ha hb
theorem ex_sub (ha : EX X a σ H (Is (.int i))) (hb : EX X b σ H (Is (.int j))) : EX X (.BinOp a .Sub b pos) σ H (Is (.int (i - j))) := ex_opI op_sub ha hb
theorem ex_mulL (ha : EX X a σ H (Is (.int i))) (hb : EX X b σ H (Is (.int j))) (hc : -(2 ^ 64) < i ∧ i < 2 ^ 64) : EX X (.BinOp a .Mult b pos) σ H (Is (.int (i * j))) := ex_opC op_mul ha hb (Or.inl hc)
theorem ex_mulR (ha : EX X a σ H (Is (.int i))) (hb : EX X b σ H (Is (.int j))) (hc : -(2 ^ 64) < j ∧ j < 2 ^ 64) : EX X (.BinOp a .Mult b pos) σ H (Is (.int (i * j))) := ex_opC op_mul ha hb (Or.inr hc)
theorem ex_fdiv (ha : EX X a σ H (Is (.int i))) (hb : EX X b σ H (Is (.int j))) (hc : 0 < j ∧ j < 1073741824) : EX X (.BinOp a .FloorDiv b pos) σ H (Is (.int (i / j))) := ex_opC op_fdiv ha hb hc
theorem ex_mod (ha : EX X a σ H (Is (.int i))) (hb : EX X b σ H (Is (.int j))) (hc : 0 < j) : EX X (.BinOp a .Mod b pos) σ H (Is (.int (i % j))) := ex_opC op_mod ha hb hc
theorem ex_pow (ha : EX X a σ H (Is (.int i))) (hb : EX X b σ H (Is (.int j))) (hc : 0 ≤ j ∧ j ≤ 1000000 ∧ i.natAbs < 2 ^ 64) : EX X (.BinOp a .Pow b pos) σ H (Is (.int (i ^ j.toNat))) := ex_opC op_pow ha hb hc
theorem ex_neg (ha : EX X a σ H (Is (.int i))) : EX X (.UnaryOp .USub a pos) σ H (Is (.int (-i))) :=
  PE.weak (pe_un un_neg ha) fun σ' H' Q ⟨e1, e2, q'⟩ => ⟨e1, e2, fun u H2 x2 hu => by
    cases hu
    exact ⟨i, rfl, q' _ H2 x2 rfl⟩⟩

/-- a comparison of two values, as a value, as a test -/
theorem ex_cmp {op : CmpOp} {r : R2} {k : Bool} (ho : OpR X (compareOp op) r) (hm : behindInMarks op b = false) (ha : EX X a σ H (Is x)) (hb : EX X b σ H (Is y)) (hr : ∀ H1 Q, Ex H H1 → Q (.bl k) H1 → r x y H1 Q) : EX X (.Compare a [op] [b] pos) σ H (Is (.bl k)) :=
  PE.weak (pe_cmpR ho ha hb hm) fun σ' H' Q ⟨e1, e2, q'⟩ => ⟨e1, e2, fun u H2 x2 hu => ⟨e1, e2.trans x2, fun u' H3 x3 hu' => by
    cases hu
    cases hu'
    exact hr H3 Q (e2.trans (x2.trans x3)) (q' _ H3 (x2.trans x3) rfl)⟩⟩
theorem tx_cmp {op : CmpOp} {r : R2} {k : Bool} (ho : OpR X (compareOp op) r) (hm : behindInMarks op b = false) (ha : EX X a σ H (Is x)) (hb : EX X b σ H (Is y)) (hr : ∀ H1 Q, Ex H H1 → Q (.bl k) H1 → r x y H1 Q) : TX X (.Compare a [op] [b] pos) σ H k :=
  PT.weak (pt_cmpR ho ha hb hm) fun σ' H' Q ⟨e1, e2, q'⟩ => ⟨e1, e2, fun u H2 x2 hu => ⟨e1, e2.trans x2, fun u' H3 x3 hu' => by
    cases hu
    cases hu'
    exact hr H3 _ (e2.trans (x2.trans x3)) ⟨k, rfl, q' H3 (x2.trans x3)⟩⟩⟩
theorem tx_opI {op : CmpOp} {f : Int → Int → Bool} (ho : OpR X (compareOp op) (rI0 fun i j => .bl (f i j))) (hm : behindInMarks op b = false) (ha : EX X a σ H (Is (.int i))) (hb : EX X b σ H (Is (.int j))) : TX X (.Compare a [op] [b] pos) σ H (f i j) :=
  tx_cmp ho hm ha hb fun H1 _ _ q => ⟨i, j, rfl, rfl, q⟩
theorem tx_lt (ha : EX X a σ H (Is (.int i))) (hb : EX X b σ H (Is (.int j))) : TX X (.Compare a [.Lt] [b] pos) σ H (decide (i < j)) := tx_opI op_lt (nomark _) ha hb
theorem tx_le (ha : EX X a σ H (Is (.int i))) (hb : EX X b σ H (Is (.int j))) : TX X (.Compare a [.LtE] [b] pos) σ H (decide (i ≤ j)) := tx_opI op_le (nomark _) ha hb
theorem tx_gt (ha : EX X a σ H (Is (.int i))) (hb : EX X b σ H (Is (.int j))) : TX X (.Compare a [.Gt] [b] pos) σ H (decide (j < i)) := tx_opI op_gt (nomark _) ha hb
theorem tx_ge (ha : EX X a σ H (Is (.int i))) (hb : EX X b σ H (Is (.int j))) : TX X (.Compare a [.GtE] [b] pos) σ H (decide (j ≤ i)) := tx_opI op_ge (nomark _) ha hb
theorem ex_opIb {op : CmpOp} {f : Int → Int → Bool} (ho : OpR X (compareOp op) (rI0 fun i j => .bl (f i j))) (hm : behindInMarks op b = false) (ha : EX X a σ H (Is (.int i))) (hb : EX X b σ H (Is (.int j))) : EX X (.Compare a [op] [b] pos) σ H (Is (.bl (f i j))) :=
  ex_cmp ho hm ha hb fun H1 _ _ q => ⟨i, j, rfl, rfl, q⟩
theorem ex_lt (ha : EX X a σ H (Is (.int i))) (hb : EX X b σ H (Is (.int j))) : EX X (.Compare a [.Lt] [b] pos) σ H (Is (.bl (decide (i < j)))) := ex_opIb op_lt (nomark _) ha hb
theorem ex_le (ha : EX X a σ H (Is (.int i))) (hb : EX X b σ H (Is (.int j))) : EX X (.Compare a [.LtE] [b] pos) σ H (Is (.bl (decide (i ≤ j)))) := ex_opIb op_le (nomark _) ha hb
theorem ex_gt (ha : EX X a σ H (Is (.int i))) (hb : EX X b σ H (Is (.int j))) : EX X (.Compare a [.Gt] [b] pos) σ H (Is (.bl (decide (j < i)))) := ex_opIb op_gt (nomark _) ha hb
theorem ex_ge (ha : EX X a σ H (Is (.int i))) (hb : EX X b σ H (Is (.int j))) : EX X (.Compare a [.GtE] [b] pos) σ H (Is (.bl (decide (j ≤ i)))) := ex_opIb op_ge (nomark _) ha hb
/-- == and != of scalars -/
theorem tx_eq (ha : EX X a σ H (Is x)) (hb : EX X b σ H (Is y)) (hs : scal x y = true := by rfl) : TX X (.Compare a [.Eq] [b] pos) σ H (decide (x = y)) := tx_cmp op_eq (nomark _) ha hb fun _ _ _ q => ⟨hs, q⟩
theorem tx_ne (ha : EX X a σ H (Is x)) (hb : EX X b σ H (Is y)) (hs : scal x y = true := by rfl) : TX X (.Compare a [.NotEq] [b] pos) σ H (!decide (x = y)) := tx_cmp op_ne (nomark _) ha hb fun _ _ _ q => ⟨hs, q⟩
theorem ex_eq (ha : EX X a σ H (Is x)) (hb : EX X b σ H (Is y)) (hs : scal x y = true := by rfl) : EX X (.Compare a [.Eq] [b] pos) σ H (Is (.bl (decide (x = y)))) := ex_cmp op_eq (nomark _) ha hb fun _ _ _ q => ⟨hs, q⟩
theorem ex_ne (ha : EX X a σ H (Is x)) (hb : EX X b σ H (Is y)) (hs : scal x y = true := by rfl) : EX X (.Compare a [.NotEq] [b] pos) σ H (Is (.bl (!decide (x = y)))) := ex_cmp op_ne (nomark _) ha hb fun _ _ _ q => ⟨hs, q⟩
theorem dec_int {m n : Int} : decide (V.int m = V.int n) = decide (m = n) := by rw [decide_eq_decide]; exact ⟨fun h => by injection h, fun h => by rw [h]⟩
theorem tx_eqI (ha : EX X a σ H (Is (.int i))) (hb : EX X b σ H (Is (.int j))) : TX X (.Compare a [.Eq] [b] pos) σ H (decide (i = j)) := (tx_eq ha hb).is dec_int
theorem tx_neI (ha : EX X a σ H (Is (.int i))) (hb : EX X b σ H (Is (.int j))) : TX X (.Compare a [.NotEq] [b] pos) σ H (!decide (i = j)) := (tx_ne ha hb).is (congrArg not dec_int)
theorem ex_eqI (ha : EX X a σ H (Is (.int i))) (hb : EX X b σ H (Is (.int j))) : EX X (.Compare a [.Eq] [b] pos) σ H (Is (.bl (decide (i = j)))) := (ex_eq ha hb).is (congrArg V.bl dec_int)
theorem ex_neI (ha : EX X a σ H (Is (.int i))) (hb : EX X b σ H (Is (.int j))) : EX X (.Compare a [.NotEq] [b] pos) σ H (Is (.bl (!decide (i = j)))) := (ex_ne ha hb).is (congrArg (fun z => V.bl (!z)) dec_int)
/-- is None -/
theorem tx_isN (ha : EX X a σ H (Is x)) (hb : EX X b σ H (Is .non)) : TX X (.Compare a [.Is] [b] pos) σ H (decide (x = .non)) := tx_cmp op_isN (nomark _) ha hb fun _ _ _ q => ⟨rfl, q⟩
theorem tx_notN (ha : EX X a σ H (Is x)) (hb : EX X b σ H (Is .non)) : TX X (.Compare a [.IsNot] [b] pos) σ H (!decide (x = .non)) := tx_cmp op_notN (nomark _) ha hb fun _ _ _ q => ⟨rfl, q⟩
theorem ex_isN (ha : EX X a σ H (Is x)) (hb : EX X b σ H (Is .non)) : EX X (.Compare a [.Is] [b] pos) σ H (Is (.bl (decide (x = .non)))) := ex_cmp op_isN (nomark _) ha hb fun _ _ _ q => ⟨rfl, q⟩

/-! tests -/
theorem tx_val {k : Bool} (h : EX X e σ H (Is (.bl k))) (he : ∀ whole, isTrue e X.env whole = (do let v ← whole; standAt e.pos; holding [v] (truthy v)) := by intro _; rfl) : TX X e σ H k :=
  PT.weak (pt_val h he) fun σ' H' Q ⟨e1, e2, q⟩ => ⟨e1, e2, fun v H2 x2 hv => ⟨k, hv, q H2 x2⟩⟩
theorem tx_not {k : Bool} (h : TX X a σ H k) : TX X (.UnaryOp .Not a pos) σ H (!k) :=
  PT.weak (pt_not h) fun σ' H' Q ⟨e1, e2, q⟩ => ⟨e1, e2, fun H2 x2 => q H2 x2⟩
theorem wx_and1 {k : Bool} (h : TX X a σ H k) : WX' X (.BoolOp .And [a] pos) σ H k := pw_and1 h
theorem wx_or1 {k : Bool} (h : TX X a σ H k) : WX' X (.BoolOp .Or [a] pos) σ H k := pw_or1 h
theorem PW.weak {t u : TT} (h : PW X e t) (w : ∀ σ H Q, u σ H Q → t σ H Q) : PW X e u := ⟨fun wh pins s σ H Q I q => h.run wh pins s σ H Q I (w σ H Q q)⟩
theorem wx_and {k m : Bool} {rest : List Expr} (h : TX X a σ H k) (h2 : k = true → WX' X (.BoolOp .And (b :: rest) pos) σ H m) : WX' X (.BoolOp .And (a :: b :: rest) pos) σ H (k && m) := by
  cases k with
  | true => exact PW.weak (pw_and h (h2 rfl)) fun σ' H' Q ⟨e1, e2, q⟩ => ⟨e1, e2, fun H2 x2 => ⟨e1, e2.trans x2, fun H3 x3 => q H3 (x2.trans x3)⟩⟩
  | false =>
    refine ⟨fun wh pins s σ' H' Q I ⟨e1, e2, q⟩ => ?_⟩
    refine (pw_and (tB' := fun _ _ _ => False) h ⟨fun _ _ _ _ _ _ _ z => z.elim⟩).run wh pins s σ' H' Q I ⟨e1, e2, fun H2 x2 => ?_⟩
    show Q false H2
    exact q H2 x2
theorem wx_or {k m : Bool} {rest : List Expr} (h : TX X a σ H k) (h2 : k = false → WX' X (.BoolOp .Or (b :: rest) pos) σ H m) : WX' X (.BoolOp .Or (a :: b :: rest) pos) σ H (k || m) := by
  cases k with
  | false => exact PW.weak (pw_or h (h2 rfl)) fun σ' H' Q ⟨e1, e2, q⟩ => ⟨e1, e2, fun H2 x2 => ⟨e1, e2.trans x2, fun H3 x3 => q H3 (x2.trans x3)⟩⟩
  | true =>
    refine ⟨fun wh pins s σ' H' Q I ⟨e1, e2, q⟩ => ?_⟩
    refine (pw_or (tB' := fun _ _ _ => False) h ⟨fun _ _ _ _ _ _ _ z => z.elim⟩).run wh pins s σ' H' Q I ⟨e1, e2, fun H2 x2 => ?_⟩
    show Q true H2
    exact q H2 x2
theorem tx_w {k : Bool} (h : WX' X e σ H k) : TX X e σ H k := PW.pt h
theorem tx_and2 {k m : Bool} (h : TX X a σ H k) (h2 : k = true → TX X b σ H m) : TX X (.BoolOp .And [a, b] pos) σ H (k && m) := tx_w (wx_and h fun q => wx_and1 (h2 q))
theorem tx_or2 {k m : Bool} (h : TX X a σ H k) (h2 : k = false → TX X b σ H m) : TX X (.BoolOp .Or [a, b] pos) σ H (k || m) := tx_w (wx_or h fun q => wx_or1 (h2 q))
theorem tx_or3 {k m n : Bool} (h : TX X a σ H k) (h2 : k = false → TX X b σ H m) (h3 : k = false → m = false → TX X c σ H n) : TX X (.BoolOp .Or [a, b, c] pos) σ H (k || (m || n)) := tx_w (wx_or h fun q => wx_or (h2 q) fun q' => wx_or1 (h3 q q'))
theorem tx_and3 {k m n : Bool} (h : TX X a σ H k) (h2 : k = true → TX X b σ H m) (h3 : k = true → m = true → TX X c σ H n) : TX X (.BoolOp .And [a, b, c] pos) σ H (k && (m && n)) := tx_w (wx_and h fun q => wx_and (h2 q) fun q' => wx_and1 (h3 q q'))
/-- as values -/
theorem ex_and {k m : Bool} {rest : List Expr} (h : EX X a σ H (Is (.bl k))) (h2 : k = true → EX X (.BoolOp .And (b :: rest) pos) σ H (Is (.bl m))) : EX X (.BoolOp .And (a :: b :: rest) pos) σ H (Is (.bl (k && m))) := by
  cases k with
  | true => exact PE.weak (pe_and h (h2 rfl)) fun σ' H' Q ⟨e1, e2, q⟩ => ⟨e1, e2, fun v H2 x2 hv => ⟨true, hv, ⟨e1, e2.trans x2, fun v' H3 x3 hv' => q v' H3 (x2.trans x3) hv'⟩⟩⟩
  | false =>
    refine ⟨fun pins s σ' H' Q I ⟨e1, e2, q⟩ => ?_⟩
    refine (pe_and (tb := fun _ _ _ => False) h ⟨fun _ _ _ _ _ _ z => z.elim⟩).run pins s σ' H' Q I ⟨e1, e2, fun v H2 x2 hv => ⟨false, hv, ?_⟩⟩
    show Q (.bl false) H2
    exact q _ H2 x2 rfl
theorem ex_or {k m : Bool} {rest : List Expr} (h : EX X a σ H (Is (.bl k))) (h2 : k = false → EX X (.BoolOp .Or (b :: rest) pos) σ H (Is (.bl m))) : EX X (.BoolOp .Or (a :: b :: rest) pos) σ H (Is (.bl (k || m))) := by
  cases k with
  | false => exact PE.weak (pe_or h (h2 rfl)) fun σ' H' Q ⟨e1, e2, q⟩ => ⟨e1, e2, fun v H2 x2 hv => ⟨false, hv, ⟨e1, e2.trans x2, fun v' H3 x3 hv' => q v' H3 (x2.trans x3) hv'⟩⟩⟩
  | true =>
    refine ⟨fun pins s σ' H' Q I ⟨e1, e2, q⟩ => ?_⟩
    refine (pe_or (tb := fun _ _ _ => False) h ⟨fun _ _ _ _ _ _ z => z.elim⟩).run pins s σ' H' Q I ⟨e1, e2, fun v H2 x2 hv => ⟨true, hv, ?_⟩⟩
    show Q (.bl true) H2
    exact q _ H2 x2 rfl
theorem ex_one {op} (h : EX X a σ H R) : EX X (.BoolOp op [a] pos) σ H R := pe_one h
theorem ex_and2 {k m : Bool} (h : EX X a σ H (Is (.bl k))) (h2 : k = true → EX X b σ H (Is (.bl m))) : EX X (.BoolOp .And [a, b] pos) σ H (Is (.bl (k && m))) := ex_and h fun q => ex_one (h2 q)
theorem ex_or2 {k m : Bool} (h : EX X a σ H (Is (.bl k))) (h2 : k = false → EX X b σ H (Is (.bl m))) : EX X (.BoolOp .Or [a, b] pos) σ H (Is (.bl (k || m))) := ex_or h fun q => ex_one (h2 q)
theorem ex_not {k : Bool} (h : EX X a σ H (Is (.bl k))) : EX X (.UnaryOp .Not a pos) σ H (Is (.bl (!k))) := PE.weak (pe_not h) fun σ' H' Q ⟨e1, e2, q⟩ => ⟨e1, e2, fun v H2 x2 hv => ⟨k, hv, q _ H2 x2 rfl⟩⟩

/-! arguments -/
theorem av_nil : AV X [] σ H [] := PA.weak pa_nil fun σ' H' Q ⟨e1, e2, q⟩ => q H' (Ex.refl H')
theorem av_cons (h : EX X e σ H (Is v)) (hr : AV X es σ H vs) (hs : starEach (e :: es) X.env = (false, eval e X.env) :: starEach es X.env := by rfl) : AV X (e :: es) σ H (v :: vs) :=
  PA.weak (pa_cons h hr hs) fun σ' H' Q ⟨e1, e2, q⟩ => ⟨e1, e2, fun u H2 x2 hu => ⟨e1, e2.trans x2, fun H3 x3 => by
    cases hu
    exact q H3 (x2.trans x3)⟩⟩
theorem ax_nil : AX X [] σ H [] := PA.weak pa_nil fun σ' H' Q ⟨e1, e2, q⟩ => q [] H' (Ex.refl H') rfl
theorem ax_cons [q0 : RM R] [q1 : RMs Rs] (h : EX X e σ H R) (hr : AX X es σ H Rs) (hs : starEach (e :: es) X.env = (false, eval e X.env) :: starEach es X.env := by rfl) : AX X (e :: es) σ H (R :: Rs) :=
  PA.weak (pa_cons h hr hs) fun σ' H' Q ⟨e1, e2, q⟩ => ⟨e1, e2, fun u H2 x2 hu => ⟨e1, e2.trans x2, fun us H3 x3 hus =>
    q (u :: us) H3 (x2.trans x3) ⟨u, us, rfl, q0.m (Ex.refl _) x3 hu, q1.m x2 (Ex.refl _) hus⟩⟩⟩

/-! displays -/
theorem ex_tup {k} (h : AV X es σ H vs) (hl : vs.length ≤ 1000) : EX X (.Tuple es k pos) σ H (NT vs) :=
  PE.weak (pe_tup h) fun σ' H' Q ⟨e1, e2, q⟩ => ⟨e1, e2, fun H2 x2 => ⟨sz (by omega), fun p hp => q _ _ (x2.trans (Ex.new hp)) ⟨p, rfl, x2.fresh hp, upd_same⟩⟩⟩
theorem ex_lst (h : AV X es σ H vs) (hl : vs.length ≤ 1000) : EX X (.List es pos) σ H (NL vs) :=
  PE.weak (pe_lst h) fun σ' H' Q ⟨e1, e2, q⟩ => ⟨e1, e2, fun H2 x2 => ⟨sz (by omega), fun p hp => q _ _ (x2.trans (Ex.new hp)) ⟨p, rfl, x2.fresh hp, upd_same⟩⟩⟩
/-- of things that are made on the way -/
def NTx (Rs : List Rk) : Rk := fun H1 u H2 => ∃ p vs, u = .ref p ∧ H1 p = none ∧ H2 p = some (.tup vs) ∧ AllR Rs H1 vs H2
def NLx (Rs : List Rk) : Rk := fun H1 u H2 => ∃ p vs, u = .ref p ∧ H1 p = none ∧ H2 p = some (.lst vs) ∧ AllR Rs H1 vs H2
instance [q : RMs Rs] : RM (NTx Rs) := ⟨fun e0 e2 ⟨p, vs, h1, h2, h3, h4⟩ => ⟨p, vs, h1, e0.fresh h2, e2 _ _ h3, q.m e0 e2 h4⟩⟩
instance [q : RMs Rs] : RM (NLx Rs) := ⟨fun e0 e2 ⟨p, vs, h1, h2, h3, h4⟩ => ⟨p, vs, h1, e0.fresh h2, e2 _ _ h3, q.m e0 e2 h4⟩⟩
theorem AllR.len : ∀ {Rs : List Rk} {H1 H2 : Hp} {vs : List V}, AllR Rs H1 vs H2 → vs.length = Rs.length
  | [], _, _, _, h => by rw [show _ = [] from h] <;> rfl
  | R :: Rs, _, _, _, ⟨v, r, e, _, h⟩ => by rw [e, List.length_cons, h.len, List.length_cons]
theorem ex_tupx {k} [q1 : RMs Rs] (h : AX X es σ H Rs) (hl : Rs.length ≤ 1000) : EX X (.Tuple es k pos) σ H (NTx Rs) :=
  PE.weak (pe_tup h) fun σ' H' Q ⟨e1, e2, q⟩ => ⟨e1, e2, fun us H2 x2 hu => ⟨sz (by have := hu.len; omega), fun p hp => q _ _ (x2.trans (Ex.new hp)) ⟨p, us, rfl, x2.fresh hp, upd_same, q1.m (Ex.refl _) (Ex.new hp) hu⟩⟩⟩
theorem ex_lstx [q1 : RMs Rs] (h : AX X es σ H Rs) (hl : Rs.length ≤ 1000) : EX X (.List es pos) σ H (NLx Rs) :=
  PE.weak (pe_lst h) fun σ' H' Q ⟨e1, e2, q⟩ => ⟨e1, e2, fun us H2 x2 hu => ⟨sz (by have := hu.len; omega), fun p hp => q _ _ (x2.trans (Ex.new hp)) ⟨p, us, rfl, x2.fresh hp, upd_same, q1.m (Ex.refl _) (Ex.new hp) hu⟩⟩⟩

/-! the program's own defs -/
/-- what a promise says of its end -/
def Gives (R : Rk) (H : Hp) (Q : VK) : Prop := ∀ u H2, Ex H H2 → R H u H2 → Q u H2
theorem Gives.up {R : Rk} [q : RM R] {H H' : Hp} {Q : VK} (h : Gives R H Q) (x : Ex H H') : Gives R H' Q := fun u H2 y r => h u H2 (x.trans y) (q.m x (Ex.refl _) r)
theorem Gives.is {v : V} {H H' : Hp} {Q : VK} (h : Gives (Is v) H Q) (x : Ex H H') : Q v H' := h v H' x rfl
/-- the def stands at the top -/
def Df (K : PySem.W.Frag) (mg : Str → Option Value) (n : Str) (st : Stmt) (ps : List Str) : Prop := ∃ f fd, Fun K n n st f fd ∧ Binds K fd ps [] ∧ mg n = some (.ref f)
/-- the name n is a def that keeps its promise -/
def Dn (P : Program) (w : World) (K : PySem.W.Frag) (mg : Str → Option Value) (base : Heap) (n : Str) (k : Nat) (ps : List Str) (sp : Sp) : Prop :=
  ∃ f fd, mg n = some (.ref f) ∧ PySem.W.keepIn K (.ref f) = true ∧ Binds K fd ps [] ∧ FnOk P w K mg base (L2.CX P w) k f fd ps sp ∧ ∃ oc od osl, K.lookup f = some ⟨oc, od, .func fd, osl⟩
theorem Dn.mono {P : Program} {w : World} {K : PySem.W.Frag} {mg : Str → Option Value} {base : Heap} {n : Str} {j k : Nat} {ps : List Str} {sp : Sp} (h : Dn P w K mg base n j ps sp) (hk : j ≤ k) : Dn P w K mg base n k ps sp := by
  obtain ⟨f, fd, h1, h2, h3, h4, h5⟩ := h
  exact ⟨f, fd, h1, h2, h3, h4.mono hk, h5⟩
section
variable {k kk : Nat} {ps : List Str} {sp : Sp} {n : Str} {p : Pos} {Q' : Rk} {Q'' : Hp → V → Prop}
/-- no exception comes out of it -/
theorem ex_call (G : Dn X.prog X.w X.K X.mg X.base n k ps sp) (hr : Room kk X.A) (ha : AV X (e :: es) σ H vs) (hsp : ∀ H1 Q, Ex H H1 → Gives Q' H1 Q → sp vs H1 Q E0) [q : RM Q'] (hk : k ≤ kk := by omega) (hg : Gl X n := by rfl) (hdb : (n == ("__debug__" : Str)) = false := by decide)
    (he : starEach (e :: es) X.env = (false, eval e X.env) :: starEach es X.env := by rfl) (hpl : (backTo pos (starEach es X.env)).any (·.1) = false := by rfl) : EX X (.Call (.Name n p) (e :: es) [] pos) σ H Q' := by
  obtain ⟨f, fd, hm, hk', hb, F, _⟩ := G
  exact PE.weak (pe_call F (hr.mono hk) hg hm hk' hb .nil passL ha hdb he hpl) fun σ' H' Q ⟨e1, e2, q'⟩ => ⟨e1, e2, fun H2 x2 => by
    show sp (_ ++ []) _ _ _
    rw [List.append_nil]
    exact hsp H2 Q (e2.trans x2) fun v H3 x3 z => q' v H3 (x2.trans x3) (q.m x2 (Ex.refl _) z)⟩
theorem ex_callx (G : Dn X.prog X.w X.K X.mg X.base n k ps sp) (hr : Room kk X.A) (ha : AX X (e :: es) σ H Rs) (hsp : ∀ vs H1 Q, Ex H H1 → AllR Rs H vs H1 → Gives Q' H1 Q → sp vs H1 Q E0) [q0 : RMs Rs] [q : RM Q'] (hk : k ≤ kk := by omega) (hg : Gl X n := by rfl) (hdb : (n == ("__debug__" : Str)) = false := by decide)
    (he : starEach (e :: es) X.env = (false, eval e X.env) :: starEach es X.env := by rfl) (hpl : (backTo pos (starEach es X.env)).any (·.1) = false := by rfl) : EX X (.Call (.Name n p) (e :: es) [] pos) σ H Q' := by
  obtain ⟨f, fd, hm, hk', hb, F, _⟩ := G
  exact PE.weak (pe_call F (hr.mono hk) hg hm hk' hb .nil passL ha hdb he hpl) fun σ' H' Q ⟨e1, e2, q'⟩ => ⟨e1, e2, fun us H2 x2 hu => by
    show sp (_ ++ []) _ _ _
    rw [List.append_nil]
    exact hsp us H2 Q (e2.trans x2) (q0.m e2 (Ex.refl _) hu) fun v H3 x3 z => q' v H3 (x2.trans x3) (q.m x2 (Ex.refl _) z)⟩
/-- it may raise: E is what is wanted of that -/
theorem ex_callX {E : XK} (hx : Passes (L2.CX X.prog X.w) X E) (G : Dn X.prog X.w X.K X.mg X.base n k ps sp) (hr : Room kk X.A) (ha : AV X (e :: es) σ H vs) (hsp : ∀ H1 Q, Ex H H1 → Gives Q' H1 Q → sp vs H1 Q E) [q : RM Q'] (hk : k ≤ kk := by omega) (hg : Gl X n := by rfl) (hdb : (n == ("__debug__" : Str)) = false := by decide)
    (he : starEach (e :: es) X.env = (false, eval e X.env) :: starEach es X.env := by rfl) (hpl : (backTo pos (starEach es X.env)).any (·.1) = false := by rfl) : EX X (.Call (.Name n p) (e :: es) [] pos) σ H Q' := by
  obtain ⟨f, fd, hm, hk', hb, F, _⟩ := G
  exact PE.weak (pe_call F (hr.mono hk) hg hm hk' hb .nil hx ha hdb he hpl) fun σ' H' Q ⟨e1, e2, q'⟩ => ⟨e1, e2, fun H2 x2 => by
    show sp (_ ++ []) _ _ _
    rw [List.append_nil]
    exact hsp H2 Q (e2.trans x2) fun v H3 x3 z => q' v H3 (x2.trans x3) (q.m x2 (Ex.refl _) z)⟩
end
/-! calls of what is built in -/
section
variable {id T : String} {r : List V → Hp → VK → Prop} {n : Str} {p : Pos} {Q' : Rk}
theorem ex_callB (hc : CallR X (.builtin id) r) (hm : X.mg n = none) (hv : bootBuiltins n = some (.builtin id)) (ha : AV X (e :: es) σ H vs) (hr : ∀ H1 Q, Ex H H1 → (∀ v H2, Ex H1 H2 → Q' H1 v H2 → Q v H2) → r vs H1 Q) [q : RM Q'] (hg : Gl X n := by rfl)
    (hn : n ≠ "__name__" := by decide) (hdb : (n == ("__debug__" : Str)) = false := by decide)
    (he : starEach (e :: es) X.env = (false, eval e X.env) :: starEach es X.env := by rfl) (hpl : (backTo pos (starEach es X.env)).any (·.1) = false := by rfl) : EX X (.Call (.Name n p) (e :: es) [] pos) σ H Q' :=
  PE.weak (pe_callB hc hg hm hv ha hn hdb he hpl) fun σ' H' Q ⟨e1, e2, q'⟩ => ⟨e1, e2, fun H2 x2 => hr H2 Q (e2.trans x2) fun v H3 x3 z => q' v H3 (x2.trans x3) (q.m x2 (Ex.refl _) z)⟩
theorem ex_callBx (hc : CallR X (.builtin id) r) (hm : X.mg n = none) (hv : bootBuiltins n = some (.builtin id)) (ha : AX X (e :: es) σ H Rs) (hr : ∀ H0 vs H1 Q, Ex H H0 → Ex H0 H1 → AllR Rs H0 vs H1 → (∀ v H2, Ex H1 H2 → Q' H0 v H2 → Q v H2) → r vs H1 Q) (hg : Gl X n := by rfl)
    (hn : n ≠ "__name__" := by decide) (hdb : (n == ("__debug__" : Str)) = false := by decide)
    (he : starEach (e :: es) X.env = (false, eval e X.env) :: starEach es X.env := by rfl) (hpl : (backTo pos (starEach es X.env)).any (·.1) = false := by rfl) : EX X (.Call (.Name n p) (e :: es) [] pos) σ H Q' :=
  PE.weak (pe_callB hc hg hm hv ha hn hdb he hpl) fun σ' H' Q ⟨e1, e2, q'⟩ => ⟨e1, e2, fun us H2 x2 hu => hr H' us H2 Q e2 x2 hu fun v H3 x3 z => q' v H3 (x2.trans x3) z⟩
theorem ex_callT (hc : CallR X (.type T) r) (hm : X.mg n = none) (hv : bootBuiltins n = some (.type T)) (ha : AV X (e :: es) σ H vs) (hr : ∀ H1 Q, Ex H H1 → (∀ v H2, Ex H1 H2 → Q' H1 v H2 → Q v H2) → r vs H1 Q) [q : RM Q'] (hg : Gl X n := by rfl)
    (hn : n ≠ "__name__" := by decide) (hdb : (n == ("__debug__" : Str)) = false := by decide)
    (he : starEach (e :: es) X.env = (false, eval e X.env) :: starEach es X.env := by rfl) (hpl : (backTo pos (starEach es X.env)).any (·.1) = false := by rfl) : EX X (.Call (.Name n p) (e :: es) [] pos) σ H Q' :=
  PE.weak (pe_callTy hc hg hm hv ha hn hdb he hpl) fun σ' H' Q ⟨e1, e2, q'⟩ => ⟨e1, e2, fun H2 x2 => hr H2 Q (e2.trans x2) fun v H3 x3 z => q' v H3 (x2.trans x3) (q.m x2 (Ex.refl _) z)⟩
theorem ex_callTx (hc : CallR X (.type T) r) (hm : X.mg n = none) (hv : bootBuiltins n = some (.type T)) (ha : AX X (e :: es) σ H Rs) (hr : ∀ H0 vs H1 Q, Ex H H0 → Ex H0 H1 → AllR Rs H0 vs H1 → (∀ v H2, Ex H1 H2 → Q' H0 v H2 → Q v H2) → r vs H1 Q) (hg : Gl X n := by rfl)
    (hn : n ≠ "__name__" := by decide) (hdb : (n == ("__debug__" : Str)) = false := by decide)
    (he : starEach (e :: es) X.env = (false, eval e X.env) :: starEach es X.env := by rfl) (hpl : (backTo pos (starEach es X.env)).any (·.1) = false := by rfl) : EX X (.Call (.Name n p) (e :: es) [] pos) σ H Q' :=
  PE.weak (pe_callTy hc hg hm hv ha hn hdb he hpl) fun σ' H' Q ⟨e1, e2, q'⟩ => ⟨e1, e2, fun us H2 x2 hu => hr H' us H2 Q e2 x2 hu fun v H3 x3 z => q' v H3 (x2.trans x3) z⟩
end
/-- len -/
theorem ex_len {l : Addr} {xs : List V} {p : Pos} (hm : X.mg "len" = none) (ha : AV X (e :: es) σ H [.ref l]) (h : SqL X.K H l xs) (hg : Gl X "len" := by rfl) (he : starEach (e :: es) X.env = (false, eval e X.env) :: starEach es X.env := by rfl) (hpl : (backTo pos (starEach es X.env)).any (·.1) = false := by rfl) : EX X (.Call (.Name "len" p) (e :: es) [] pos) σ H (Is (.int (xs.length : Int))) :=
  ex_callB call_len_seq hm PySem.boot_len ha (fun H1 Q x q => ⟨l, xs, rfl, .inl (x.l h), q _ H1 (Ex.refl _) rfl⟩) hg (by decide) (by decide) he hpl
theorem ex_lenT {l : Addr} {xs : List V} {p : Pos} (hm : X.mg "len" = none) (ha : AV X (e :: es) σ H [.ref l]) (h : SqT X.K H l xs) (hg : Gl X "len" := by rfl) (he : starEach (e :: es) X.env = (false, eval e X.env) :: starEach es X.env := by rfl) (hpl : (backTo pos (starEach es X.env)).any (·.1) = false := by rfl) : EX X (.Call (.Name "len" p) (e :: es) [] pos) σ H (Is (.int (xs.length : Int))) :=
  ex_callB call_len_seq hm PySem.boot_len ha (fun H1 Q x q => ⟨l, xs, rfl, .inr (x.t h), q _ H1 (Ex.refl _) rfl⟩) hg (by decide) (by decide) he hpl
theorem ex_lenS {z : Str} {p : Pos} (hm : X.mg "len" = none) (ha : AV X (e :: es) σ H [.str z]) (h : z.length ≤ 1000000) (hg : Gl X "len" := by rfl) (he : starEach (e :: es) X.env = (false, eval e X.env) :: starEach es X.env := by rfl) (hpl : (backTo pos (starEach es X.env)).any (·.1) = false := by rfl) : EX X (.Call (.Name "len" p) (e :: es) [] pos) σ H (Is (.int (z.length : Int))) :=
  ex_callB call_len_str hm PySem.boot_len ha (fun H1 Q x q => ⟨z, rfl, sz h, q _ H1 (Ex.refl _) rfl⟩) hg (by decide) (by decide) he hpl
theorem boot_min : bootBuiltins "min" = some (.builtin "min") := by decide +kernel
theorem boot_max : bootBuiltins "max" = some (.builtin "max") := by decide +kernel
theorem boot_list' : bootBuiltins "list" = some (.type "list") := by decide +kernel
/-- min, max of two -/
theorem ex_min {p : Pos} (hm : X.mg "min" = none) (ha : AV X (e :: es) σ H [.int i, .int j]) (hc : X.calm = true := by rfl) (hg : Gl X "min" := by rfl) (he : starEach (e :: es) X.env = (false, eval e X.env) :: starEach es X.env := by rfl) (hpl : (backTo pos (starEach es X.env)).any (·.1) = false := by rfl) : EX X (.Call (.Name "min" p) (e :: es) [] pos) σ H (Is (.int (if j < i then j else i))) :=
  ex_callB (call_min2 hc) hm boot_min ha (fun H1 Q x q => ⟨i, j, rfl, q _ H1 (Ex.refl _) rfl⟩) hg (by decide) (by decide) he hpl
theorem ex_max {p : Pos} (hm : X.mg "max" = none) (ha : AV X (e :: es) σ H [.int i, .int j]) (hc : X.calm = true := by rfl) (hg : Gl X "max" := by rfl) (he : starEach (e :: es) X.env = (false, eval e X.env) :: starEach es X.env := by rfl) (hpl : (backTo pos (starEach es X.env)).any (·.1) = false := by rfl) : EX X (.Call (.Name "max" p) (e :: es) [] pos) σ H (Is (.int (if j > i then j else i))) :=
  ex_callB (call_max2 hc) hm boot_max ha (fun H1 Q x q => ⟨i, j, rfl, q _ H1 (Ex.refl _) rfl⟩) hg (by decide) (by decide) he hpl

/-! items -/
theorem ex_ix {r : R2} {Q' : Rk} (hr : IxR X r) (ha : EX X a σ H (Is x)) (hb : EX X b σ H (Is y)) (h : ∀ H1 Q, Ex H H1 → (∀ v H2, Ex H1 H2 → Q' H1 v H2 → Q v H2) → r x y H1 Q) [q : RM Q'] (hs : PlainIx b := by exact fun _ _ => rfl) : EX X (.Subscript a b pos) σ H Q' :=
  PE.weak (pe_ix hr ha hb hs) fun σ' H' Q ⟨e1, e2, q'⟩ => ⟨e1, e2, fun u H2 x2 hu => ⟨e1, e2.trans x2, fun u' H3 x3 hu' => by
    cases hu
    cases hu'
    exact h H3 Q (e2.trans (x2.trans x3)) fun v H4 x4 z => q' v H4 (x2.trans (x3.trans x4)) (q.m (x2.trans x3) (Ex.refl _) z)⟩⟩
theorem ex_ixL {l : Addr} {xs : List V} (ha : EX X a σ H (Is (.ref l))) (hb : EX X b σ H (Is (.int i))) (h : SqL X.K H l xs) (hi : atI xs i = some v) (hs : PlainIx b := by exact fun _ _ => rfl) : EX X (.Subscript a b pos) σ H (Is v) :=
  ex_ix ix_list ha hb (fun H1 Q x q => ⟨l, xs, i, v, rfl, rfl, x.l h, hi, q _ H1 (Ex.refl _) rfl⟩) hs
theorem ex_ixT {l : Addr} {xs : List V} (ha : EX X a σ H (Is (.ref l))) (hb : EX X b σ H (Is (.int i))) (h : SqT X.K H l xs) (hi : atI xs i = some v) (hs : PlainIx b := by exact fun _ _ => rfl) : EX X (.Subscript a b pos) σ H (Is v) :=
  ex_ix ix_tup ha hb (fun H1 Q x q => ⟨l, xs, i, v, rfl, rfl, x.t h, hi, q _ H1 (Ex.refl _) rfl⟩) hs
theorem ex_ixS {z : Str} {ch : Nat} (ha : EX X a σ H (Is (.str z))) (hb : EX X b σ H (Is (.int i))) (h : z.length ≤ 1000000) (hi : atI z.cps.toList i = some ch) (hs : PlainIx b := by exact fun _ _ => rfl) : EX X (.Subscript a b pos) σ H (Is (.str ⟨#[ch]⟩)) :=
  ex_ix ix_str ha hb (fun H1 Q x q => ⟨z, i, ch, rfl, rfl, sz h, hi, q _ H1 (Ex.refl _) rfl⟩) hs
/-! lists joined, repeated -/
theorem ex_cat {xs ys : List V} (ha : EX X a σ H (NL xs)) (hb : EX X b σ H (NL ys)) (hz : xs.length + ys.length ≤ 1000000) : EX X (.BinOp a .Add b pos) σ H (NL (xs ++ ys)) :=
  PE.weak (pe_op op_cat ha hb) fun σ' H' Q ⟨e1, e2, q'⟩ => ⟨e1, e2, fun u H2 x2 hu => ⟨e1, e2.trans x2, fun u' H3 x3 hu' => by
    obtain ⟨p, rfl, n1, h1⟩ := hu
    obtain ⟨p', rfl, n2, h2⟩ := hu'
    exact ⟨p, p', xs, ys, rfl, rfl, x3 _ _ h1, h2, sz hz, fun t ht => q' _ _ (x2.trans (x3.trans (Ex.new ht))) ⟨t, rfl, (x2.trans x3).fresh ht, upd_same⟩⟩⟩⟩
/-- lists that stand, joined -/
theorem ex_catI {xs ys : List V} {l m : Addr} (ha : EX X a σ H (Is (.ref l))) (hb : EX X b σ H (Is (.ref m))) (hl : H l = some (.lst xs)) (hm : H m = some (.lst ys)) (hz : xs.length + ys.length ≤ 1000000) : EX X (.BinOp a .Add b pos) σ H (NL (xs ++ ys)) :=
  ex_op op_cat ha hb fun H1 Q x q => ⟨l, m, xs, ys, rfl, rfl, x _ _ hl, x _ _ hm, sz hz, fun t ht => q _ _ (Ex.new ht) ⟨t, rfl, ht, upd_same⟩⟩
theorem ex_catR {xs ys : List V} {l : Addr} (ha : EX X a σ H (Is (.ref l))) (hb : EX X b σ H (NL ys)) (hl : H l = some (.lst xs)) (hz : xs.length + ys.length ≤ 1000000) : EX X (.BinOp a .Add b pos) σ H (NL (xs ++ ys)) :=
  PE.weak (pe_op op_cat ha hb) fun σ' H' Q ⟨e1, e2, q'⟩ => ⟨e1, e2, fun u H2 x2 hu => ⟨e1, e2.trans x2, fun u' H3 x3 hu' => by
    cases hu
    obtain ⟨p', rfl, n2, h2⟩ := hu'
    exact ⟨l, p', xs, ys, rfl, rfl, e2.trans (x2.trans x3) _ _ hl, h2, sz hz, fun t ht => q' _ _ (x2.trans (x3.trans (Ex.new ht))) ⟨t, rfl, (x2.trans x3).fresh ht, upd_same⟩⟩⟩⟩
theorem ex_rep1 (ha : EX X a σ H (NL [v])) (hb : EX X b σ H (Is (.int j))) (h0 : 0 ≤ j) (h1 : j ≤ 1000000) : EX X (.BinOp a .Mult b pos) σ H (NL (List.replicate j.toNat v)) :=
  PE.weak (pe_op op_rep ha hb) fun σ' H' Q ⟨e1, e2, q'⟩ => ⟨e1, e2, fun u H2 x2 hu => ⟨e1, e2.trans x2, fun u' H3 x3 hu' => by
    obtain ⟨p, rfl, n1, hp⟩ := hu
    cases hu'
    refine ⟨p, j, [v], rfl, rfl, x3 _ _ hp, by omega, by omega, sz (by rw [List.length_singleton]; omega), fun t ht => ?_⟩
    have e : (List.replicate j.toNat [v]).flatten = List.replicate j.toNat v := by
      induction j.toNat with
      | zero => rfl
      | succ n ih => rw [List.replicate_succ, List.flatten_cons, ih, List.replicate_succ, List.singleton_append]
    rw [e]
    exact q' _ _ (x2.trans (x3.trans (Ex.new ht))) ⟨t, rfl, (x2.trans x3).fresh ht, upd_same⟩⟩⟩
/-- list(x) -/
theorem ex_list {l : Addr} {xs : List V} {p : Pos} (hm : X.mg "list" = none) (ha : AV X (e :: es) σ H [.ref l]) (h : SqL X.K H l xs) (hg : Gl X "list" := by rfl) (he : starEach (e :: es) X.env = (false, eval e X.env) :: starEach es X.env := by rfl) (hpl : (backTo pos (starEach es X.env)).any (·.1) = false := by rfl) : EX X (.Call (.Name "list" p) (e :: es) [] pos) σ H (NL xs) :=
  ex_callT call_list_of hm boot_list' ha (fun H1 Q x q => ⟨l, xs, rfl, .inl (x.l h), fun t ht => q _ _ (Ex.new ht) ⟨t, rfl, ht, upd_same⟩⟩) hg (by decide) (by decide) he hpl
theorem ex_listN {xs : List V} {p : Pos} (hm : X.mg "list" = none) (ha : AX X (e :: es) σ H [NL xs]) (hg : Gl X "list" := by rfl) (he : starEach (e :: es) X.env = (false, eval e X.env) :: starEach es X.env := by rfl) (hpl : (backTo pos (starEach es X.env)).any (·.1) = false := by rfl) : EX X (.Call (.Name "list" p) (e :: es) [] pos) σ H (NL xs) :=
  ex_callTx call_list_of hm boot_list' ha (fun H0 vs H1 Q x0 x1 hvs q => by
    obtain ⟨u, r, rfl, ⟨l, rfl, n1, h1⟩, rfl⟩ := hvs
    exact ⟨l, xs, rfl, .inl (SqL.of h1), fun t ht => q _ _ (Ex.new ht) ⟨t, rfl, x1.fresh ht, upd_same⟩⟩) hg (by decide) (by decide) he hpl
/-! slices of lists -/
theorem ox_none : PO X none (tO σ H none) := ⟨fun pins s σ' H' Q I ⟨e1, e2, q⟩ => (po_none (X := X)).run pins s σ' H' Q I (q H' (Ex.refl _))⟩
theorem ox_some (h : EX X e σ H (Is (.int i))) : PO X (some e) (tO σ H (some i)) := ⟨fun pins s σ' H' Q I ⟨e1, e2, q⟩ => (po_some h).run pins s σ' H' Q I ⟨e1, e2, fun v H2 x2 hv => ⟨i, hv, q H2 x2⟩⟩⟩
theorem ex_slice {l : Addr} {xs : List V} {lo hi : Option Expr} {ol oh : Option Int} {p2 : Pos} (ha : EX X a σ H (Is (.ref l))) (hl : PO X lo (tO σ H ol)) (hh : PO X hi (tO σ H oh)) (h : SqL X.K H l xs) : EX X (.Subscript a (.Slice lo hi none p2) pos) σ H (NL (cutV xs ol oh)) :=
  PE.weak (pe_slice sl_list ha hl hh) fun σ' H' Q ⟨e1, e2, q'⟩ => ⟨e1, e2, fun u H2 x2 hu => ⟨e1, e2.trans x2, fun H3 x3 => ⟨e1, (e2.trans x2).trans x3, fun H4 x4 => by
    cases hu
    have x := (x2.trans x3).trans x4
    exact ⟨l, xs, rfl, (e2.trans x).l h, fun t ht => q' _ _ (x.trans (Ex.new ht)) ⟨t, rfl, x.fresh ht, upd_same⟩⟩⟩⟩⟩
end

/-! ### statements -/
def tS (D : Ends) (σ : L2.St) (H : Hp) : TS := fun D' σ' H' => D' = D ∧ σ' = σ ∧ H' = H
def SX (X : Cx) (sts : List Stmt) (D : Ends) (σ : L2.St) (H : Hp) : Prop := PSs X sts (tS D σ H)
/-- what is shown of a rest is a reading of the rest -/
theorem sx_all (X : Cx) (sts : List Stmt) : PSs X sts (fun D σ H => SX X sts D σ H) := ⟨fun pins s σ H D I h => (show SX X sts D σ H from h).run pins s σ H D I ⟨rfl, rfl, rfl⟩⟩
theorem sx_of {X : Cx} {sts : List Stmt} {t : TS} {D : Ends} {σ : L2.St} {H : Hp} (h : PSs X sts t) (q : t D σ H) : SX X sts D σ H := PSs.weak h fun D' σ' H' ⟨e1, e2, e3⟩ => by
  subst e1 e2 e3
  exact q
/-- a def's body -/
theorem body_of {X : Cx} {sts : List Stmt} {D : Ends} {σ : L2.St} {H : Hp} (h : SX X sts D σ H) : ∃ t, PSs X sts t ∧ t D σ H := ⟨_, h, rfl, rfl, rfl⟩
section
variable {X : Cx} {a b c e : Expr} {st : Stmt} {rest body orelse : List Stmt} {σ : L2.St} {H : Hp} {R : Rk} {D : Ends} {pos : Pos} {v : V}
theorem sx_nil (h : D.nx σ H) : SX X [] D σ H := sx_of pss_nil h
theorem sx_st {t : TS} (h : PS X st t) (q : t { D with nx := fun σ' H' => SX X rest D σ' H' } σ H) : SX X (st :: rest) D σ H := sx_of (pss_cons h (sx_all X rest)) q
theorem sx_asg (i : Nat) {n : Str} {pos' : Pos} (hN : X.N.Nodup) (he : EX X e σ H R) (k : ∀ v H2, Ex H H2 → R H v H2 → SX X rest D (σ.set i (some v)) H2) (hi : X.N[i]? = some n := by rfl) (hx : Loc X.env.scope n := by first | exact Or.inl rfl | exact Or.inr rfl)
    (hs : swapsWith e (some (.Name n pos')) pos.line X.env = pure false := by rfl) (hf : X.fn n = true ∨ X.env.scope.names.lookup n = some .local := by first | exact .inl rfl | exact .inr rfl | assumption) : SX X (.Assign [.Name n pos'] e pos :: rest) D σ H :=
  sx_st (ps_set hN hi hx he hs hf) ⟨rfl, Ex.refl H, k⟩
theorem sx_set (i : Nat) {n : Str} {pos' : Pos} (hN : X.N.Nodup) (he : EX X e σ H (Is v)) (k : ∀ H2, Ex H H2 → SX X rest D (σ.set i (some v)) H2) (hi : X.N[i]? = some n := by rfl) (hx : Loc X.env.scope n := by first | exact Or.inl rfl | exact Or.inr rfl)
    (hs : swapsWith e (some (.Name n pos')) pos.line X.env = pure false := by rfl) (hf : X.fn n = true ∨ X.env.scope.names.lookup n = some .local := by first | exact .inl rfl | exact .inr rfl | assumption) : SX X (.Assign [.Name n pos'] e pos :: rest) D σ H :=
  sx_asg i hN he (fun u H2 x r => by cases r; exact k H2 x) hi hx hs hf
theorem sx_if {k : Bool} (hc : TX X c σ H k) (h1 : k = true → ∀ H2, Ex H H2 → SX X body { D with nx := fun σ' H' => SX X rest D σ' H' } σ H2) (h2 : k = false → ∀ H2, Ex H H2 → SX X orelse { D with nx := fun σ' H' => SX X rest D σ' H' } σ H2) : SX X (.If c body orelse pos :: rest) D σ H :=
  sx_st (ps_if hc (sx_all X body) (sx_all X orelse)) ⟨rfl, Ex.refl H, fun H2 x => by
    cases k with
    | true => exact h1 rfl H2 x
    | false => exact h2 rfl H2 x⟩
/-- an if without else -/
theorem sx_when {k : Bool} (hc : TX X c σ H k) (h1 : k = true → ∀ H2, Ex H H2 → SX X body { D with nx := fun σ' H' => SX X rest D σ' H' } σ H2) (h2 : k = false → ∀ H2, Ex H H2 → SX X rest D σ H2) : SX X (.If c body [] pos :: rest) D σ H :=
  sx_if hc h1 fun q H2 x => sx_nil (D := { D with nx := fun σ' H' => SX X rest D σ' H' }) (h2 q H2 x)
theorem sx_ret (he : EX X e σ H R) (k : ∀ v H2, Ex H H2 → R H v H2 → D.rt v H2) : SX X (.Return (some e) pos :: rest) D σ H :=
  sx_st (ps_ret he) ⟨rfl, Ex.refl H, k⟩
theorem sx_retI (he : EX X e σ H (Is v)) (k : ∀ H2, Ex H H2 → D.rt v H2) : SX X (.Return (some e) pos :: rest) D σ H :=
  sx_ret he fun u H2 x r => by cases r; exact k H2 x
theorem sx_expr (he : EX X e σ H R) (k : ∀ v H2, Ex H H2 → R H v H2 → SX X rest D σ H2) (hs : swapsWith e none pos.line X.env = pure false := by rfl) : SX X (.Expr e pos :: rest) D σ H :=
  sx_st (ps_expr he hs) ⟨rfl, Ex.refl H, k⟩
theorem sx_pass (k : SX X rest D σ H) : SX X (.Pass pos :: rest) D σ H := sx_st ps_pass k
theorem sx_break (k : D.bk σ H) : SX X (.Break pos :: rest) D σ H := sx_st ps_break k
theorem sx_cont (k : D.ct σ H) : SX X (.Continue pos :: rest) D σ H := sx_st ps_continue k
end

/-! ### statements from any heap that bears what is known: H is what is known -/
def SB (X : Cx) (sts : List Stmt) (D : Ends) (σ : L2.St) (H : Hp) : Prop := ∀ H', Ex H H' → SX X sts D σ H'
/-- what holds of something known -/
def Up (W : L2.St → Hp → Prop) : L2.St → Hp → Prop := fun σ H => ∃ H0, Ex H0 H ∧ W σ H0
theorem EX.up {X : Cx} {e : Expr} {σ : L2.St} {H H' : Hp} {R : Rk} (h : EX X e σ H R) (x : Ex H H') : EX X e σ H' R := PE.weak h fun _ _ _ ⟨e1, e2, q⟩ => ⟨e1, x.trans e2, q⟩
theorem TX.up {X : Cx} {e : Expr} {σ : L2.St} {H H' : Hp} {k : Bool} (h : TX X e σ H k) (x : Ex H H') : TX X e σ H' k := PT.weak h fun _ _ _ ⟨e1, e2, q⟩ => ⟨e1, x.trans e2, q⟩
theorem AV.up {X : Cx} {e : List Expr} {σ : L2.St} {H H' : Hp} {k : List V} (h : AV X e σ H k) (x : Ex H H') : AV X e σ H' k := PA.weak h fun _ _ _ ⟨e1, e2, q⟩ => ⟨e1, x.trans e2, q⟩
theorem SB.up {X : Cx} {sts : List Stmt} {D : Ends} {σ : L2.St} {H H' : Hp} (h : SB X sts D σ H) (x : Ex H H') : SB X sts D σ H' := fun H2 y => h H2 (x.trans y)
theorem upd_mono {H H' : Hp} {l : Addr} {o : HO} (x : Ex H H') : Ex (upd H l o) (upd H' l o) := fun b u h => by
  by_cases q : b = l
  · subst q
    rw [upd_same] at h ⊢
    exact h
  · rw [upd_ne q] at h ⊢
    exact x b u h
theorem upd_in {H H' : Hp} {l : Addr} {o : HO} (x : Ex H H') (h : H' l = some o) : Ex (upd H l o) H' := fun b u hb => by
  by_cases q : b = l
  · subst q
    rw [upd_same] at hb
    rw [h]
    exact hb
  · rw [upd_ne q] at hb
    exact x b u hb
section
variable {X : Cx} {a b c e : Expr} {st : Stmt} {rest body orelse : List Stmt} {σ : L2.St} {H : Hp} {R : Rk} {D : Ends} {pos : Pos} {v : V}
theorem sb_body (h : SB X body D σ H) : ∃ t, PSs X body t ∧ t D σ H := body_of (h H (Ex.refl H))
theorem sb_nil (h : ∀ H', Ex H H' → D.nx σ H') : SB X [] D σ H := fun H' x => sx_nil (h H' x)
/-- the turn's end -/
theorem sb_next {W : L2.St → Hp → Prop} {rt : VK} {bk ct : L2.St → Hp → Prop} (h : W σ H) : SB X [] { nx := Up W, rt := rt, bk := bk, ct := ct } σ H := sb_nil fun H' x => ⟨H, x, h⟩
theorem sb_set (i : Nat) {n : Str} {pos' : Pos} (hN : X.N.Nodup) (he : EX X e σ H (Is v)) (k : SB X rest D (σ.set i (some v)) H) (hi : X.N[i]? = some n := by rfl) (hx : Loc X.env.scope n := by first | exact Or.inl rfl | exact Or.inr rfl)
    (hs : swapsWith e (some (.Name n pos')) pos.line X.env = pure false := by rfl) (hf : X.fn n = true ∨ X.env.scope.names.lookup n = some .local := by first | exact .inl rfl | exact .inr rfl | assumption) : SB X (.Assign [.Name n pos'] e pos :: rest) D σ H :=
  fun H' x => sx_set i hN (he.up x) (fun H2 y => k H2 (x.trans y)) hi hx hs hf
theorem sb_asg [q : RM R] (i : Nat) {n : Str} {pos' : Pos} (hN : X.N.Nodup) (he : EX X e σ H R) (k : ∀ v H2, Ex H H2 → R H v H2 → SB X rest D (σ.set i (some v)) H2) (hi : X.N[i]? = some n := by rfl) (hx : Loc X.env.scope n := by first | exact Or.inl rfl | exact Or.inr rfl)
    (hs : swapsWith e (some (.Name n pos')) pos.line X.env = pure false := by rfl) (hf : X.fn n = true ∨ X.env.scope.names.lookup n = some .local := by first | exact .inl rfl | exact .inr rfl | assumption) : SB X (.Assign [.Name n pos'] e pos :: rest) D σ H :=
  fun H' x => sx_asg i hN (he.up x) (fun v H2 y r => k v H2 (x.trans y) (q.m x (Ex.refl _) r) H2 (Ex.refl _)) hi hx hs hf
/-- name = a new list -/
theorem sb_new (i : Nat) {xs : List V} {n : Str} {pos' : Pos} (hN : X.N.Nodup) (he : EX X e σ H (NL xs)) (k : ∀ p, H p = none → SB X rest D (σ.set i (some (.ref p))) (upd H p (.lst xs))) (hi : X.N[i]? = some n := by rfl) (hx : Loc X.env.scope n := by first | exact Or.inl rfl | exact Or.inr rfl)
    (hs : swapsWith e (some (.Name n pos')) pos.line X.env = pure false := by rfl) (hf : X.fn n = true ∨ X.env.scope.names.lookup n = some .local := by first | exact .inl rfl | exact .inr rfl | assumption) : SB X (.Assign [.Name n pos'] e pos :: rest) D σ H :=
  sb_asg i hN he (fun v H2 x ⟨p, e1, e2, e3⟩ => by
    subst e1
    exact (k p e2).up (upd_in x e3)) hi hx hs hf
theorem sb_if {k : Bool} (hc : TX X c σ H k) (h1 : k = true → SB X body { D with nx := fun σ' H' => SX X rest D σ' H' } σ H) (h2 : k = false → SB X orelse { D with nx := fun σ' H' => SX X rest D σ' H' } σ H) : SB X (.If c body orelse pos :: rest) D σ H :=
  fun H' x => sx_if (hc.up x) (fun q H2 y => h1 q H2 (x.trans y)) fun q H2 y => h2 q H2 (x.trans y)
theorem sb_when {k : Bool} (hc : TX X c σ H k) (h1 : k = true → SB X body { D with nx := fun σ' H' => SX X rest D σ' H' } σ H) (h2 : k = false → SB X rest D σ H) : SB X (.If c body [] pos :: rest) D σ H :=
  fun H' x => sx_when (hc.up x) (fun q H2 y => h1 q H2 (x.trans y)) fun q H2 y => h2 q H2 (x.trans y)
theorem sb_ret [q : RM R] (he : EX X e σ H R) (k : ∀ v H2, Ex H H2 → R H v H2 → D.rt v H2) : SB X (.Return (some e) pos :: rest) D σ H :=
  fun H' x => sx_ret (he.up x) fun v H2 y r => k v H2 (x.trans y) (q.m x (Ex.refl _) r)
theorem sb_retI (he : EX X e σ H (Is v)) (k : ∀ H2, Ex H H2 → D.rt v H2) : SB X (.Return (some e) pos :: rest) D σ H :=
  fun H' x => sx_retI (he.up x) fun H2 y => k H2 (x.trans y)
theorem sb_expr [q : RM R] (he : EX X e σ H R) (k : ∀ v H2, Ex H H2 → R H v H2 → SB X rest D σ H2) (hs : swapsWith e none pos.line X.env = pure false := by rfl) : SB X (.Expr e pos :: rest) D σ H :=
  fun H' x => sx_expr (he.up x) (fun v H2 y r => k v H2 (x.trans y) (q.m x (Ex.refl _) r) H2 (Ex.refl _)) hs
theorem sb_pass (k : SB X rest D σ H) : SB X (.Pass pos :: rest) D σ H := fun H' x => sx_pass (k H' x)
theorem sb_break (k : ∀ H', Ex H H' → D.bk σ H') : SB X (.Break pos :: rest) D σ H := fun H' x => sx_break (k H' x)
theorem sb_cont (k : ∀ H', Ex H H' → D.ct σ H') : SB X (.Continue pos :: rest) D σ H := fun H' x => sx_cont (k H' x)
/-- the end of an if's suite: what stands behind the if -/
theorem sb_thru {rt : VK} {bk ct : L2.St → Hp → Prop} (h : SB X rest D σ H) : SB X [] { nx := fun σ' H' => SX X rest D σ' H', rt := rt, bk := bk, ct := ct } σ H := sb_nil fun H' x => h H' x
/-- a weaker end -/
theorem SX.nx {sts : List Stmt} {D : Ends} {σ : L2.St} {H : Hp} {N : L2.St → Hp → Prop} (h : SX X sts D σ H) (w : ∀ σ' H', D.nx σ' H' → N σ' H') : SX X sts { D with nx := N } σ H := ⟨fun pins s σ1 H1 D1 I ⟨e1, e2, e3⟩ => by
  subst e1 e2 e3
  refine thn (h.run pins s _ _ _ I ⟨rfl, rfl, rfl⟩) fun f s1 q => ?_
  cases f with
  | next =>
    obtain ⟨σ', H', I', q⟩ := q
    exact ⟨σ', H', I', w σ' H' q⟩
  | ret v => exact q
  | brk => exact q
  | cont => exact q⟩
/-- an if whose ways meet: J is what holds there -/
theorem sb_join {k : Bool} (J : L2.St → Hp → Prop) (hc : TX X c σ H k) (h1 : k = true → SB X body { D with nx := Up J } σ H) (h2 : k = false → SB X orelse { D with nx := Up J } σ H) (hk : ∀ σ' H', J σ' H' → SB X rest D σ' H') : SB X (.If c body orelse pos :: rest) D σ H :=
  sb_if hc (fun q H' x => (h1 q H' x).nx fun σ' H2 ⟨H0, y, j⟩ => hk σ' H0 j H2 y) fun q H' x => (h2 q H' x).nx fun σ' H2 ⟨H0, y, j⟩ => hk σ' H0 j H2 y
theorem sb_meet {J : L2.St → Hp → Prop} (h : J σ H) (hD : D.nx = Up J := by rfl) : SB X [] D σ H := sb_nil fun H' x => by
  rw [hD]
  exact ⟨H, x, h⟩

/-! loops -/
theorem sb_forL {xs : List V} {l : Addr} {n : Str} {np : Pos} (j : Nat) (hp : PassesOwn (model X.prog X.w) X.A X.env X.xe) (hN : X.N.Nodup) (he : EX X e σ H (Is (.ref l))) (hx : SqL X.K H l xs) (W : Nat → L2.St → Hp → Prop) (h0 : W 0 σ H)
    (hl : ∀ i σ' H', i ≤ xs.length → W i σ' H' → SqL X.K H' l xs) (hs : ∀ i x σ' H', xs[i]? = some x → W i σ' H' → SB X body { nx := Up (W (i + 1)), rt := D.rt, bk := fun σ' H' => SX X rest D σ' H', ct := Up (W (i + 1)) } (σ'.set j (some x)) H')
    (hd : ∀ σ' H', W xs.length σ' H' → SB X rest D σ' H') (hc : X.calm = true := by rfl) (hi : X.N[j]? = some n := by rfl) (hv : Loc X.env.scope n := by first | exact Or.inl rfl | exact Or.inr rfl) (hf : X.fn n = true ∨ X.env.scope.names.lookup n = some .local := by first | exact .inl rfl | exact .inr rfl | assumption)
    (hs' : ∀ x, foldedSetIterable e X.env x = pure x := by intro _; rfl) : SB X (.For (.Name n np) e body [] pos :: rest) D σ H := fun H' x =>
  sx_st (ps_for hp hc (pi_list he) (pg_name hN hi hv hf) (sx_all X body) hs') ⟨rfl, x, fun v H2 y r => by
    cases r
    refine ⟨l, rfl, ⟨xs, (x.trans y).l hx⟩, for_list (xs := xs) (fun i => Up (W i)) ⟨H, x.trans y, h0⟩ (fun i σ' H3 hi ⟨H0, z, w⟩ => z.l (hl i σ' H0 hi w)) (fun i x σ' H3 hi ⟨H0, z, w⟩ => hs i x σ' H0 hi w H3 z) fun σ' H3 ⟨H0, z, w⟩ => hd σ' H0 w H3 z⟩⟩
/-- over a list that is made there -/
theorem sb_forN {xs : List V} {n : Str} {np : Pos} (j : Nat) (hp : PassesOwn (model X.prog X.w) X.A X.env X.xe) (hN : X.N.Nodup) (he : EX X e σ H (NL xs)) (W : Addr → Nat → L2.St → Hp → Prop) (h0 : ∀ l, H l = none → W l 0 σ (upd H l (.lst xs)))
    (hl : ∀ l i σ' H', i ≤ xs.length → W l i σ' H' → SqL X.K H' l xs) (hs : ∀ l i x σ' H', xs[i]? = some x → W l i σ' H' → SB X body { nx := Up (W l (i + 1)), rt := D.rt, bk := fun σ' H' => SX X rest D σ' H', ct := Up (W l (i + 1)) } (σ'.set j (some x)) H')
    (hd : ∀ l σ' H', W l xs.length σ' H' → SB X rest D σ' H') (hc : X.calm = true := by rfl) (hi : X.N[j]? = some n := by rfl) (hv : Loc X.env.scope n := by first | exact Or.inl rfl | exact Or.inr rfl) (hf : X.fn n = true ∨ X.env.scope.names.lookup n = some .local := by first | exact .inl rfl | exact .inr rfl | assumption)
    (hs' : ∀ x, foldedSetIterable e X.env x = pure x := by intro _; rfl) : SB X (.For (.Name n np) e body [] pos :: rest) D σ H := fun H' x =>
  sx_st (ps_for hp hc (pi_list he) (pg_name hN hi hv hf) (sx_all X body) hs') ⟨rfl, x, fun v H2 y ⟨l, e1, e2, e3⟩ => by
    subst e1
    exact ⟨l, rfl, ⟨xs, SqL.of e3⟩, for_list (xs := xs) (fun i => Up (W l i)) ⟨_, upd_in (x.trans y) e3, h0 l (x.fresh e2)⟩ (fun i σ' H3 hi ⟨H0, z, w⟩ => z.l (hl l i σ' H0 hi w)) (fun i x σ' H3 hi ⟨H0, z, w⟩ => hs l i x σ' H0 hi w H3 z) fun σ' H3 ⟨H0, z, w⟩ => hd l σ' H0 w H3 z⟩⟩
/-- over range(..) -/
theorem sb_forR1 {m : Int} {n : Str} {np p p' : Pos} (j : Nat) (hp : PassesOwn (model X.prog X.w) X.A X.env X.xe) (hN : X.N.Nodup) (hm : X.mg "range" = none) (he : AV X [a] σ H [.int m]) (hb : -(2 ^ 62) ≤ m ∧ m < 2 ^ 62) (W : Nat → L2.St → Hp → Prop) (h0 : W 0 σ H)
    (hs : ∀ (i : Nat) σ' H', (i : Int) < m → W i σ' H' → SB X body { nx := Up (W (i + 1)), rt := D.rt, bk := fun σ' H' => SX X rest D σ' H', ct := Up (W (i + 1)) } (σ'.set j (some (.int i))) H')
    (hd : ∀ σ' H', W m.toNat σ' H' → SB X rest D σ' H') (hg : Gl X "range" := by rfl) (hc : X.calm = true := by rfl) (hi : X.N[j]? = some n := by rfl) (hv : Loc X.env.scope n := by first | exact Or.inl rfl | exact Or.inr rfl) (hf : X.fn n = true ∨ X.env.scope.names.lookup n = some .local := by first | exact .inl rfl | exact .inr rfl | assumption)
    (hs1 : starEach [a] X.env = [(false, eval a X.env)] := by rfl) (hs' : ∀ x, foldedSetIterable (.Call (.Name "range" p) [a] [] p') X.env x = pure x := by intro _; rfl) : SB X (.For (.Name n np) (.Call (.Name "range" p) [a] [] p') body [] pos :: rest) D σ H := fun H' x =>
  sx_st (ps_for hp hc (pi_range1 hg hm he hs1) (pg_name hN hi hv hf) (sx_all X body) hs') ⟨rfl, x, fun H2 y => ⟨m, rfl, hb.1, hb.2,
    for_range (lo := 0) (n := m.toNat) (fun i => Up (W i)) ⟨H, x.trans y, h0⟩ (fun i σ' H3 hi ⟨H0, z, w⟩ => by
      rw [Int.zero_add]
      exact hs i σ' H0 (by omega) w H3 z) fun σ' H3 ⟨H0, z, w⟩ => hd σ' H0 w H3 z⟩⟩
theorem sb_forR2 {lo m : Int} {n : Str} {np p p' : Pos} (j : Nat) (hp : PassesOwn (model X.prog X.w) X.A X.env X.xe) (hN : X.N.Nodup) (hm : X.mg "range" = none) (he : AV X [a, b] σ H [.int lo, .int m]) (hb : (-(2 ^ 62) ≤ lo ∧ lo < 2 ^ 62) ∧ -(2 ^ 62) ≤ m ∧ m < 2 ^ 62) (W : Nat → L2.St → Hp → Prop) (h0 : W 0 σ H)
    (hs : ∀ (i : Nat) σ' H', lo + (i : Int) < m → W i σ' H' → SB X body { nx := Up (W (i + 1)), rt := D.rt, bk := fun σ' H' => SX X rest D σ' H', ct := Up (W (i + 1)) } (σ'.set j (some (.int (lo + i)))) H')
    (hd : ∀ σ' H', W (m - lo).toNat σ' H' → SB X rest D σ' H') (hg : Gl X "range" := by rfl) (hc : X.calm = true := by rfl) (hi : X.N[j]? = some n := by rfl) (hv : Loc X.env.scope n := by first | exact Or.inl rfl | exact Or.inr rfl) (hf : X.fn n = true ∨ X.env.scope.names.lookup n = some .local := by first | exact .inl rfl | exact .inr rfl | assumption)
    (hs1 : starEach [a, b] X.env = [(false, eval a X.env), (false, eval b X.env)] := by rfl) (hs2 : starEach [b] X.env = [(false, eval b X.env)] := by rfl) (hs' : ∀ x, foldedSetIterable (.Call (.Name "range" p) [a, b] [] p') X.env x = pure x := by intro _; rfl) : SB X (.For (.Name n np) (.Call (.Name "range" p) [a, b] [] p') body [] pos :: rest) D σ H := fun H' x =>
  sx_st (ps_for hp hc (pi_range2 hg hm he hs1 hs2) (pg_name hN hi hv hf) (sx_all X body) hs') ⟨rfl, x, fun H2 y => ⟨lo, m, rfl, ⟨hb.1.1, hb.1.2, hb.2.1, hb.2.2⟩,
    for_range (lo := lo) (n := (m - lo).toNat) (fun i => Up (W i)) ⟨H, x.trans y, h0⟩ (fun i σ' H3 hi ⟨H0, z, w⟩ => hs i σ' H0 (by omega) w H3 z) fun σ' H3 ⟨H0, z, w⟩ => hd σ' H0 w H3 z⟩⟩

/-! lists changed -/
theorem sb_app [q : RM R] {l : Addr} {xs : List V} {p cpos : Pos} (ha : EX X a σ H (Is (.ref l))) (hl : H l = some (.lst xs)) (hz : xs.length < 1000000) (he : EX X e σ H R) (k : ∀ v H2, Ex H H2 → R H v H2 → SB X rest D σ (upd H2 l (.lst (xs ++ [v]))))
    (hs : swapsWith (.Call (.Attribute a "append" p) [e] [] cpos) none pos.line X.env = pure false := by rfl) (hs1 : starEach [e] X.env = (false, eval e X.env) :: starEach [] X.env := by rfl)
    (hbase : attributeBase a "append" X.env (eval a X.env) = eval a X.env := by rfl)
    (hfew : ((backTo cpos (starEach [e] X.env)).all (fun x => !x.1) && (backToKw cpos (keywordEach [] X.env)).all (fun x => x.1.isSome)
      && decide ([e].length + ([] : List Keyword).length + (if ([] : List Keyword).isEmpty then 0 else 1) < 30)) = true := by rfl)
    (hline : (p.endLine == cpos.line) = true := by rfl) : SB X (.Expr (.Call (.Attribute a "append" p) [e] [] cpos) pos :: rest) D σ H := fun H' x => by
  have h1 : PE X (.Call (.Attribute a "append" p) [e] [] cpos) (tBM X.K "list" rAppend (tE σ H (Is (.ref l))) (tCons (tE σ H R) tNil)) := pe_bm PySem.F.plainAttrs_list PySem.F.slot_list_append PySem.F.type_list_append mt_append ha (pa_cons he pa_nil hs1) hbase hfew hline hs1
  refine sx_st (ps_expr h1 hs) ⟨rfl, x, fun v H2 y r => ?_⟩
  cases r
  refine ⟨.inl ⟨rfl, _, SqL.of ((x.trans y) _ _ hl)⟩, rfl, x.trans y, fun u H3 z r => ?_⟩
  refine ⟨l, xs, u, rfl, rfl, (x.trans (y.trans z)) _ _ hl, sz_lt hz, ?_⟩
  exact k u H3 (x.trans (y.trans z)) (q.m (x.trans y) (Ex.refl _) r) _ (Ex.refl _)
/-- l[i] = e -/
theorem sb_setL {l : Addr} {xs : List V} {i : Int} {j : Nat} {b : Expr} {p : Pos} (he : EX X e σ H (Is v)) (ha : EX X a σ H (Is (.ref l))) (hb : EX X b σ H (Is (.int i))) (hl : H l = some (.lst xs)) (hi : ixN xs.length i = some j) (k : SB X rest D σ (upd H l (.lst (xs.set j v))))
    (hsw : swapsWithSole [.Subscript a b p] e pos.line X.env = pure false := by rfl) (hw : swappedStores [.Subscript a b p] e X.env = pure none := by rfl) (h1 : (assignEach [.Subscript a b p] X.env).map (·.2) = [assign (.Subscript a b p) X.env] := by rfl)
    (hsub : ∀ v, assign (.Subscript a b p) X.env v = (do
      let ov ← holding [v] (eval a X.env)
      let iv ← holding [v, ov] (eval b X.env)
      standAt p
      holding [v, ov, iv] (setItem ov iv v)
      release [v, ov, iv] []) := by intro _; rfl) : SB X (.Assign [.Subscript a b p] e pos :: rest) D σ H := fun H' x =>
  sx_st (ps_asg he (pg_sub ha hb set_list hsub) hsw hw h1) ⟨rfl, x, fun u H2 y r => by
    cases r
    refine ⟨rfl, x.trans y, fun o H3 z r => ?_⟩
    cases r
    refine ⟨rfl, (x.trans y).trans z, fun o H4 t r => ?_⟩
    cases r
    have w := ((x.trans y).trans z).trans t
    exact ⟨l, xs, i, j, rfl, rfl, w _ _ hl, hi, k _ (upd_mono w)⟩⟩
end

/-- a def by its body -/
theorem def_ok {P : Program} {w : World} {K : PySem.W.Frag} {mg : Str → Option Value} {base : Heap} {n : Str} {st : Stmt} {N ps : List Str} {k : Nat} {sp : Sp} (F : Df K mg n st ps) (S : FnScope N ps (defScope st)) (len : ∀ vs H Q E, sp vs H Q E → vs.length = ps.length)
    (hbody : ∀ (f : Addr) (cdv : Value) (A : Around) (outer : List Env) (s : Shared) (H : Hp) (vs : List V) (Q : VK) (E : XK), Room k (A.deeper (envOfC n (defScope st) s.heap.objs.size f cdv)) → sp vs H Q E →
      SB (cxOf (L2.CX P w) P w K mg base N n (defScope st) f cdv A outer s H E) (defBody st) { nx := fun _ H' => Q .non H', rt := Q } (start N vs) H) : Dn P w K mg base n (k + 1) ps sp := by
  obtain ⟨f, fd, F, B, m⟩ := F
  obtain ⟨oc, od, kV, doc, pm, an, cdv, ct, osl, e, lk, hcd⟩ := id F.ex
  exact ⟨f, fd, m, F.kp, B, F.okX S len (fun cdv A outer s H vs Q E hr h => sb_body (hbody f cdv A outer s H vs Q E hr h)), oc, od, osl, lk⟩
/-- a def that calls itself -/
theorem def_rec {P : Program} {w : World} {K : PySem.W.Frag} {mg : Str → Option Value} {base : Heap} {n : Str} {st : Stmt} {N ps : List Str} (k : Nat) {sp : Nat → Sp} (F : Df K mg n st ps) (S : FnScope N ps (defScope st)) (len : ∀ d vs H Q E, sp d vs H Q E → vs.length = ps.length)
    (hbody : ∀ d, (∀ e, d = e + 1 → Dn P w K mg base n (e + k + 1) ps (sp e)) → ∀ (f : Addr) (cdv : Value) (A : Around) (outer : List Env) (s : Shared) (H : Hp) (vs : List V) (Q : VK) (E : XK), Room (d + k) (A.deeper (envOfC n (defScope st) s.heap.objs.size f cdv)) → sp d vs H Q E →
      SB (cxOf (L2.CX P w) P w K mg base N n (defScope st) f cdv A outer s H E) (defBody st) { nx := fun _ H' => Q .non H', rt := Q } (start N vs) H) : ∀ d, Dn P w K mg base n (d + k + 1) ps (sp d)
  | 0 => def_ok F S (len 0) (hbody 0 fun e q => by omega)
  | d + 1 => def_ok F S (len (d + 1)) (hbody (d + 1) fun e q => by
    have h := def_rec (P := P) (w := w) (base := base) k F S len hbody d
    rw [show e = d by omega]
    exact h)

/-! ### names of the top, exceptions -/
/-- a whole number of the top -/
def Gi (mg : Str → Option Value) (n : Str) (i : Int) : Prop := ∃ t, mg n = some (.int i t)
theorem ex_globI {X : Cx} {n : Str} {i : Int} {pos : Pos} {σ : L2.St} {H : Hp} (h : Gi X.mg n i) (hg : Gl X n := by rfl) (hd : (n == ("__debug__" : Str)) = false := by decide) : EX X (.Name n pos) σ H (Is (.int i)) := by
  obtain ⟨t, h⟩ := h
  exact ex_glob hg h ⟨t, rfl⟩ hd
/-- an own class of errors over ValueError -/
structure Ec (K : PySem.W.Frag) (mg : Str → Option Value) (n : Str) (C : Addr) : Prop where
  x : PySem.W.excIn K C [.type "ValueError", .type "Exception", .type "BaseException", .type "object"] "ValueError.__new__" = true
  g : mg n = some (.ref C)
  k : PySem.W.keepIn K (.ref C) = true
  b : PySem.W.subIn K (.ref C) (.type "BaseException") = some true
  t : PySem.W.typeIn K (.ref C) = some (.type "type")
/-- what is wanted of an exception of the class C -/
def Rz (C : Addr) (H : Hp) (E : XK) : Prop := ∀ H2, Ex H H2 → E (.ref C) none H2
theorem Rz.up {C : Addr} {H H' : Hp} {E : XK} (h : Rz C H E) (x : Ex H H') : Rz C H' E := fun H2 y => h H2 (x.trans y)
/-- nothing comes of it -/
def No : Rk := fun _ _ _ => False
instance : RM No := ⟨fun _ _ h => h⟩
theorem sb_raise {X : Cx} {rest : List Stmt} {D : Ends} {σ : L2.St} {H : Hp} {W : WX} {C : Addr} {n m : Str} {j : Nat} {p p2 pos pos' : Pos} (tk : Takes X W) (e : Ec X.K X.mg n C) (k : ∀ H', Ex H H' → W (.ref C) none σ H') (hc : X.calm = true := by rfl) (hg : Gl X n := by rfl) (hdb : (n == ("__debug__" : Str)) = false := by decide) :
    SB X (.Raise (some (.Call (.Name n p) [.Constant (.str m) j p2] [] pos)) none pos' :: rest) D σ H := fun H' x =>
  sx_st (ps_raise hc tk (pmk_own PySem.F.excBase_ValueError e.x e.g e.k (raises_own e.b e.t) hg hdb)) (k H' x)

/-! ### isinstance, great products, list comprehensions -/
theorem boot_int' : bootBuiltins "int" = some (.type "int") := by decide +kernel
theorem boot_bool' : bootBuiltins "bool" = some (.type "bool") := by decide +kernel
theorem boot_str' : bootBuiltins "str" = some (.type "str") := by decide +kernel
theorem boot_tuple' : bootBuiltins "tuple" = some (.type "tuple") := by decide +kernel
theorem boot_isinstance' : bootBuiltins "isinstance" = some (.builtin "isinstance") := by decide +kernel
section
variable {X : Cx} {a b c e : Expr} {es : List Expr} {σ : L2.St} {H : Hp} {pos : Pos} {i j : Int} {x y v : V} {vs : List V}
theorem ex_isi {p : Pos} {t u : String} {k : Bool} (hm : X.mg "isinstance" = none) (ha : AV X (e :: es) σ H [x, .ty u]) (ht : ∀ H1, Ex H H1 → TyX X.K H1 x (.type t)) (hk : kitB t u = some k) (hg : Gl X "isinstance" := by rfl) (he : starEach (e :: es) X.env = (false, eval e X.env) :: starEach es X.env := by rfl) (hpl : (backTo pos (starEach es X.env)).any (·.1) = false := by rfl) : EX X (.Call (.Name "isinstance" p) (e :: es) [] pos) σ H (Is (.bl k)) :=
  ex_callB call_isi hm boot_isinstance' ha (fun H1 Q x q => ⟨_, _, _, _, k, rfl, .ty _, ht H1 x, kit_ty hk, q _ H1 (Ex.refl _) rfl⟩) hg (by decide) (by decide) he hpl
theorem ty_int {K : PySem.W.Frag} {H : Hp} {n : Int} : TyX K H (.int n) (.type "int") := .base (.int n)
theorem ty_bl {K : PySem.W.Frag} {H : Hp} {n : Bool} : TyX K H (.bl n) (.type "bool") := .base (.bl n)
theorem ty_non {K : PySem.W.Frag} {H : Hp} : TyX K H .non (.type "NoneType") := .base .non
theorem ty_str {K : PySem.W.Frag} {H : Hp} {n : Str} : TyX K H (.str n) (.type "str") := .base (.str n)
theorem ty_lst {K : PySem.W.Frag} {H : Hp} {l : Addr} {xs : List V} (h : H l = some (.lst xs)) : TyX K H (.ref l) (.type "list") := .base (.lst h)
theorem ty_tup {K : PySem.W.Frag} {H : Hp} {l : Addr} {xs : List V} (h : H l = some (.tup xs)) : TyX K H (.ref l) (.type "tuple") := .base (.tup h)
theorem ex_mulW (ha : EX X a σ H (Is (.int i))) (hb : EX X b σ H (Is (.int j))) (hc : CMulW i j) : EX X (.BinOp a .Mult b pos) σ H (Is (.int (i * j))) := ex_opC op_mulW ha hb hc

theorem wipe_one (σ : L2.St) (j : Nat) (x : Option V) : wipe ((wipe σ [j]).set j x) [j] = wipe σ [j] := by
  show ((σ.set j none).set j x).set j none = σ.set j none
  rw [List.set_set, List.set_set]
def tElR (σ : L2.St) (H : Hp) (j : Nat) (m : Int) (f : Nat → V) : TE := fun σ' H1 Q => ∃ i : Nat, (i : Int) < m ∧ σ' = (wipe σ [j]).set j (some (.int i)) ∧ Ex H H1 ∧ ∀ H2, Ex H1 H2 → Q (f i) H2
def tElL (σ : L2.St) (H : Hp) (j : Nat) (xs : List V) (f : V → V) : TE := fun σ' H1 Q => ∃ x, x ∈ xs ∧ σ' = (wipe σ [j]).set j (some x) ∧ Ex H H1 ∧ ∀ H2, Ex H1 H2 → Q (f x) H2
def tElT (σ : L2.St) (H : Hp) (j : Nat) (xs : List V) : TT := fun σ' H1 Q => ∃ x, x ∈ xs ∧ σ' = (wipe σ [j]).set j (some x) ∧ Ex H H1 ∧ ∀ H2, Ex H1 H2 → Q false H2
def tNo : TE := fun _ _ _ => False
/-- [elt for x in range(m)] -/
theorem ex_lcR {elt : Expr} {n : Str} {scope : Scope} {m : Int} {np p p' : Pos} (j : Nat) (f : Nat → V) (hN : X.N.Nodup) (hm : X.mg "range" = none) (ha : AV X [a] σ H [.int m]) (hb : 0 ≤ m ∧ m ≤ 1000000) (ok : BlkOk X.N X.env.scope scope [(n, j)])
    (hgn : ∀ (s : Shared) (H : Hp) (C : Addr) (cl : List (Str × Addr)) (fp : List Addr), PG (X.blk s H scope (compEnvC scope cl C X.env) fp) (.Name n np) (gName j))
    (he : ∀ (s : Shared) (H' : Hp) (C : Addr) (cl : List (Str × Addr)) (fp : List Addr) (i : Nat) (H1 : Hp), Ex H H1 → (i : Int) < m → EX (X.blk s H' scope (compEnvC scope cl C X.env) fp) elt ((wipe σ [j]).set j (some (.int i))) H1 (Is (f i)))
    (hc : X.calm = true := by rfl) (hg : Gl X "range" := by rfl) (hs1 : starEach [a] X.env = [(false, eval a X.env)] := by rfl) (hs : ∀ x, foldedSetIterable (.Call (.Name "range" p) [a] [] p') X.env x = pure x := by intro _; rfl) :
    EX X (.ListComp elt [⟨.Name n np, .Call (.Name "range" p) [a] [] p', [], 0⟩] scope pos) σ H (NL ((List.range m.toNat).map f)) := by
  have h1 : ∀ (s : Shared) (H' : Hp) (C : Addr) (cl : List (Str × Addr)) (fp : List Addr), PE (X.blk s H' scope (compEnvC scope cl C X.env) fp) elt (tElR σ H j m f) :=
    fun s H' C cl fp => ⟨fun pins s' σ' H1 Q I ⟨i, hi, e, x, q⟩ => (he s H' C cl fp i H1 x hi).run pins s' σ' H1 Q I ⟨e, Ex.refl _, fun v H2 y r => by cases r; exact q H2 y⟩⟩
  refine PE.weak (pe_lc (own := [(n, j)]) (tt := tYes) hc hN (pi_range1 hg hm ha hs1) ok hgn (fun _ _ _ _ _ => pts_nil) h1 hs) fun σ' H' Q ⟨e1, e2, q⟩ => ?_
  subst e1
  refine ⟨rfl, e2, fun H2 x2 => ⟨m, rfl, by omega, by omega, fun D hD => ?_⟩⟩
  refine lc_range (lo := 0) (n := m.toNat) (g := gName j) (tt := tYes) (te := tElR σ' H j m f) (vs := [j]) (σ := σ') (fun i H3 => Ex H2 H3 ∧ H3 D = some (.lst ((List.range i).map f))) ⟨Ex.new hD, upd_same⟩ (fun i H3 hi ⟨w1, w2⟩ => ?_) (fun H3 ⟨w1, w2⟩ => q _ H3 (x2.trans w1) ⟨D, rfl, x2.fresh hD, w2⟩)
  refine ⟨wipe_one _ _ _, i, by omega, by rw [Int.zero_add], (e2.trans x2).trans w1, fun H4 x4 => ⟨_, x4 _ _ w2, ?_, Ex.mut (w1.trans x4) hD, ?_⟩⟩
  · rw [List.length_map, List.length_range]
    exact sz_lt (by omega)
  · rw [List.range_succ, List.map_append]
    exact upd_same
/-- [elt for x in a list] -/
theorem ex_lcL {elt it : Expr} {n : Str} {scope : Scope} {xs : List V} {l : Addr} {np : Pos} (j : Nat) (f : V → V) (hN : X.N.Nodup) (hit : EX X it σ H (Is (.ref l))) (hl : SqL X.K H l xs) (hz : xs.length ≤ 900000) (ok : BlkOk X.N X.env.scope scope [(n, j)])
    (hgn : ∀ (s : Shared) (H : Hp) (C : Addr) (cl : List (Str × Addr)) (fp : List Addr), PG (X.blk s H scope (compEnvC scope cl C X.env) fp) (.Name n np) (gName j))
    (he : ∀ (s : Shared) (H' : Hp) (C : Addr) (cl : List (Str × Addr)) (fp : List Addr) (x : V) (H1 : Hp), Ex H H1 → x ∈ xs → EX (X.blk s H' scope (compEnvC scope cl C X.env) fp) elt ((wipe σ [j]).set j (some x)) H1 (Is (f x)))
    (hc : X.calm = true := by rfl) (hs : ∀ x, foldedSetIterable it X.env x = pure x := by intro _; rfl) :
    EX X (.ListComp elt [⟨.Name n np, it, [], 0⟩] scope pos) σ H (NL (xs.map f)) := by
  have h1 : ∀ (s : Shared) (H' : Hp) (C : Addr) (cl : List (Str × Addr)) (fp : List Addr), PE (X.blk s H' scope (compEnvC scope cl C X.env) fp) elt (tElL σ H j xs f) :=
    fun s H' C cl fp => ⟨fun pins s' σ' H1 Q I ⟨x, hi, e, z, q⟩ => (he s H' C cl fp x H1 z hi).run pins s' σ' H1 Q I ⟨e, Ex.refl _, fun v H2 y r => by cases r; exact q H2 y⟩⟩
  refine PE.weak (pe_lc (own := [(n, j)]) (tt := tYes) hc hN (pi_list hit) ok hgn (fun _ _ _ _ _ => pts_nil) h1 hs) fun σ' H' Q ⟨e1, e2, q⟩ => ?_
  subst e1
  refine ⟨rfl, e2, fun u H2 x2 r => ?_⟩
  cases r
  refine ⟨l, rfl, ⟨xs, (e2.trans x2).l hl⟩, fun D hD => ?_⟩
  refine lc_list (K := X.K) (xs := xs) (g := gName j) (tt := tYes) (te := tElL σ' H j xs f) (vs := [j]) (σ := σ') (fun i H3 => Ex H2 H3 ∧ H3 D = some (.lst ((xs.take i).map f))) ⟨Ex.new hD, upd_same⟩ (fun i H3 _ w => ((e2.trans x2).trans w.1).l hl) (fun i x H3 hi ⟨w1, w2⟩ => ?_) (fun H3 ⟨w1, w2⟩ => q _ H3 (x2.trans w1) ⟨D, rfl, x2.fresh hD, by rw [w2, List.take_length]⟩)
  refine ⟨wipe_one _ _ _, x, List.mem_of_getElem? hi, rfl, (e2.trans x2).trans w1, fun H4 x4 => ⟨_, x4 _ _ w2, ?_, Ex.mut (w1.trans x4) hD, ?_⟩⟩
  · have := (List.getElem?_eq_some_iff.mp hi).1
    rw [List.length_map, List.length_take]
    exact sz_lt (by omega)
  · rw [List.take_succ, hi, List.map_append]
    exact upd_same
theorem ex_lcN {elt it : Expr} {n : Str} {scope : Scope} {xs : List V} {np : Pos} (j : Nat) (f : V → V) (hN : X.N.Nodup) (hit : EX X it σ H (NL xs)) (hz : xs.length ≤ 900000) (ok : BlkOk X.N X.env.scope scope [(n, j)])
    (hgn : ∀ (s : Shared) (H : Hp) (C : Addr) (cl : List (Str × Addr)) (fp : List Addr), PG (X.blk s H scope (compEnvC scope cl C X.env) fp) (.Name n np) (gName j))
    (he : ∀ (s : Shared) (H' : Hp) (C : Addr) (cl : List (Str × Addr)) (fp : List Addr) (x : V) (H1 : Hp), Ex H H1 → x ∈ xs → EX (X.blk s H' scope (compEnvC scope cl C X.env) fp) elt ((wipe σ [j]).set j (some x)) H1 (Is (f x)))
    (hc : X.calm = true := by rfl) (hs : ∀ x, foldedSetIterable it X.env x = pure x := by intro _; rfl) :
    EX X (.ListComp elt [⟨.Name n np, it, [], 0⟩] scope pos) σ H (NL (xs.map f)) := by
  have h1 : ∀ (s : Shared) (H' : Hp) (C : Addr) (cl : List (Str × Addr)) (fp : List Addr), PE (X.blk s H' scope (compEnvC scope cl C X.env) fp) elt (tElL σ H j xs f) :=
    fun s H' C cl fp => ⟨fun pins s' σ' H1 Q I ⟨x, hi, e, z, q⟩ => (he s H' C cl fp x H1 z hi).run pins s' σ' H1 Q I ⟨e, Ex.refl _, fun v H2 y r => by cases r; exact q H2 y⟩⟩
  refine PE.weak (pe_lc (own := [(n, j)]) (tt := tYes) hc hN (pi_list hit) ok hgn (fun _ _ _ _ _ => pts_nil) h1 hs) fun σ' H' Q ⟨e1, e2, q⟩ => ?_
  subst e1
  refine ⟨rfl, e2, fun u H2 x2 ⟨l, r1, r2, r3⟩ => ?_⟩
  subst r1
  refine ⟨l, rfl, ⟨xs, SqL.of r3⟩, fun D hD => ?_⟩
  refine lc_list (K := X.K) (xs := xs) (g := gName j) (tt := tYes) (te := tElL σ' H j xs f) (vs := [j]) (σ := σ') (fun i H3 => Ex H2 H3 ∧ H3 D = some (.lst ((xs.take i).map f))) ⟨Ex.new hD, upd_same⟩ (fun i H3 _ w => SqL.of (w.1 _ _ r3)) (fun i x H3 hi ⟨w1, w2⟩ => ?_) (fun H3 ⟨w1, w2⟩ => q _ H3 (x2.trans w1) ⟨D, rfl, x2.fresh hD, by rw [w2, List.take_length]⟩)
  refine ⟨wipe_one _ _ _, x, List.mem_of_getElem? hi, rfl, (e2.trans x2).trans w1, fun H4 x4 => ⟨_, x4 _ _ w2, ?_, Ex.mut (w1.trans x4) hD, ?_⟩⟩
  · have := (List.getElem?_eq_some_iff.mp hi).1
    rw [List.length_map, List.length_take]
    exact sz_lt (by omega)
  · rw [List.take_succ, hi, List.map_append]
    exact upd_same
/-- [elt for x in a list if test], the test never true -/
theorem ex_lcF {elt it t : Expr} {n : Str} {scope : Scope} {xs : List V} {l : Addr} {np : Pos} (j : Nat) (hN : X.N.Nodup) (hit : EX X it σ H (Is (.ref l))) (hl : SqL X.K H l xs) (ok : BlkOk X.N X.env.scope scope [(n, j)])
    (hgn : ∀ (s : Shared) (H : Hp) (C : Addr) (cl : List (Str × Addr)) (fp : List Addr), PG (X.blk s H scope (compEnvC scope cl C X.env) fp) (.Name n np) (gName j))
    (ht : ∀ (s : Shared) (H' : Hp) (C : Addr) (cl : List (Str × Addr)) (fp : List Addr) (x : V) (H1 : Hp), Ex H H1 → x ∈ xs → TX (X.blk s H' scope (compEnvC scope cl C X.env) fp) t ((wipe σ [j]).set j (some x)) H1 false)
    (he : ∀ (s : Shared) (H' : Hp) (C : Addr) (cl : List (Str × Addr)) (fp : List Addr), PE (X.blk s H' scope (compEnvC scope cl C X.env) fp) elt tNo)
    (hc : X.calm = true := by rfl) (hs : ∀ x, foldedSetIterable it X.env x = pure x := by intro _; rfl) :
    EX X (.ListComp elt [⟨.Name n np, it, [t], 0⟩] scope pos) σ H (NL []) := by
  have h1 : ∀ (s : Shared) (H' : Hp) (C : Addr) (cl : List (Str × Addr)) (fp : List Addr), PT (X.blk s H' scope (compEnvC scope cl C X.env) fp) t (tElT σ H j xs) :=
    fun s H' C cl fp => ⟨fun pins s' σ' H1 Q I ⟨x, hi, e, z, q⟩ => (ht s H' C cl fp x H1 z hi).run pins s' σ' H1 Q I ⟨e, Ex.refl _, fun H2 y => q H2 y⟩⟩
  refine PE.weak (pe_lc (own := [(n, j)]) hc hN (pi_list hit) ok hgn (fun s H' C cl fp => pts_one (h1 s H' C cl fp)) he hs) fun σ' H' Q ⟨e1, e2, q⟩ => ?_
  subst e1
  refine ⟨rfl, e2, fun u H2 x2 r => ?_⟩
  cases r
  refine ⟨l, rfl, ⟨xs, (e2.trans x2).l hl⟩, fun D hD => ?_⟩
  refine lc_list (K := X.K) (xs := xs) (g := gName j) (tt := tElT σ' H j xs) (te := tNo) (vs := [j]) (σ := σ') (fun i H3 => Ex H2 H3 ∧ H3 D = some (.lst [])) ⟨Ex.new hD, upd_same⟩ (fun i H3 _ w => ((e2.trans x2).trans w.1).l hl) (fun i x H3 hi ⟨w1, w2⟩ => ?_) (fun H3 ⟨w1, w2⟩ => q _ H3 (x2.trans w1) ⟨D, rfl, x2.fresh hD, w2⟩)
  refine ⟨wipe_one _ _ _, x, List.mem_of_getElem? hi, rfl, (e2.trans x2).trans w1, fun H4 x4 => ?_⟩
  show Ex H2 H4 ∧ H4 D = some (.lst [])
  exact ⟨w1.trans x4, x4 _ _ w2⟩
end

/-! ### the end -/
abbrev BdOk (n : Str) (st : Stmt) (ps : List Str) : Prop := ∀ (kV doc pm : Value) (an : Option Addr) (cdv ct : Value) (us : List Value), us.length = ps.length → bindArgs (PySem.W.fnOf n n (defArgs st) (defBody st) (defScope st) .none kV doc pm an cdv ct) ⟨us, []⟩ = pure (ps.zip us)
theorem df_mk {K : PySem.W.Frag} {mg : Str → Option Value} {h : Heap} {n : Str} {st : Stmt} {ps : List Str} {f : Addr} {oc : Value} {od an : Option Addr} {osl : Array (Option Value)} {kV doc pm cdv ct : Value} (X : K.In h) (G : h.Ns mainGlobals mg)
    (hb : BdOk n st ps)
    (a : PySem.W.nsIn K mainGlobals n = some (some (.ref f))) (l : K.lookup f = some ⟨oc, od, .func (PySem.W.fnOf n n (defArgs st) (defBody st) (defScope st) .none kV doc pm an cdv ct), osl⟩)
    (c : PySem.W.codeIn K cdv n = true) (k : PySem.W.keepIn K (.ref f) = true) : Df K mg n st ps := by
  have F := fun_mk (st := st) l c k
  exact ⟨f, _, F, F.binds hb, PySem.W.mg_of X G a⟩
theorem df_use {K : PySem.W.Frag} {mg : Str → Option Value} {h : Heap} {n : Str} {st : Stmt} {ps : List Str} {f : Addr} {oc : Value} {od an : Option Addr} {osl : Array (Option Value)} {kV doc pm cdv ct : Value} {Goal : Prop} (X : K.In h) (G : h.Ns mainGlobals mg)
    (hb : BdOk n st ps) (a : PySem.W.nsIn K mainGlobals n = some (some (.ref f))) (l : K.lookup f = some ⟨oc, od, .func (PySem.W.fnOf n n (defArgs st) (defBody st) (defScope st) .none kV doc pm an cdv ct), osl⟩)
    (c : PySem.W.codeIn K cdv n = true) (k : PySem.W.keepIn K (.ref f) = true) (r : Df K mg n st ps → Goal) : Goal := r (df_mk X G hb a l c k)
theorem gi_mk {K : PySem.W.Frag} {mg : Str → Option Value} {h : Heap} {n : Str} {i : Int} {t : Tok} (X : K.In h) (G : h.Ns mainGlobals mg) (a : PySem.W.nsIn K mainGlobals n = some (some (.int i t))) : Gi mg n i := ⟨t, PySem.W.mg_of X G a⟩
theorem ec_mk {K : PySem.W.Frag} {mg : Str → Option Value} {h : Heap} {n : Str} {C : Addr} (X : K.In h) (G : h.Ns mainGlobals mg) (a : PySem.W.nsIn K mainGlobals n = some (some (.ref C))) (x : PySem.W.excIn K C [.type "ValueError", .type "Exception", .type "BaseException", .type "object"] "ValueError.__new__" = true)
    (k : PySem.W.keepIn K (.ref C) = true) (b : PySem.W.subIn K (.ref C) (.type "BaseException") = some true) (t : PySem.W.typeIn K (.ref C) = some (.type "type")) : Ec K mg n C := ⟨x, PySem.W.mg_of X G a, k, b, t⟩
theorem ec_use {K : PySem.W.Frag} {mg : Str → Option Value} {h : Heap} {n : Str} {C : Addr} {Goal : Prop} (X : K.In h) (G : h.Ns mainGlobals mg) (a : PySem.W.nsIn K mainGlobals n = some (some (.ref C))) (x : PySem.W.excIn K C [.type "ValueError", .type "Exception", .type "BaseException", .type "object"] "ValueError.__new__" = true)
    (k : PySem.W.keepIn K (.ref C) = true) (b : PySem.W.subIn K (.ref C) (.type "BaseException") = some true) (t : PySem.W.typeIn K (.ref C) = some (.type "type")) (r : Ec K mg n C → Goal) : Goal := r (ec_mk X G a x k b t)
/-- what law(script) promises -/
def spLaw (K : PySem.W.Frag) : Sp := fun vs H Q _ => ∃ (a : Addr) (ns : List Int), vs = [.ref a] ∧ SqL K H a (ns.map V.int) ∧ ns.length ≤ 63 ∧ Gives (Is (.bl true)) H Q
theorem walk {l : PySem.W.OpenLaw} {q : Program} {loose : List Str} {XP : (Str → Option Value) → Heap → Prop} {YP : World → Heap → Prop} {d : DefRec} {K : Params → PySem.W.Frag} {st : Stmt} (hn : l.most = some 63) (hdf : d.params.defaults = []) (hname : d.name = ("law" : Str))
    (hb : BdOk "law" st ["_law_script"])
    (hY : ∀ (w : World) (h : Heap), YP w h → (K w.params).In h)
    (F : ∀ (w : World) (mg : Str → Option Value) (h : Heap), (K w.params).In h → h.Ns mainGlobals mg →
      Df (K w.params) mg "law" st ["_law_script"] ∧ ∀ base : Heap, Dn l.prog w (K w.params) mg base "law" 60 ["_law_script"] (spLaw (K w.params))) :
    PySem.W.WalkO q loose XP YP l.row.toRowW d [] (fun f vs => PySem.call f vs) := by
  refine L2.walk_of (n := 63) (k := 60) (x := "_law_script") (CX := fun w => L2.CX l.prog w) (sp := fun w => spLaw (K w.params)) hn (by rw [sizeLine_eq]; decide) hdf ⟨rfl, by decide, by decide⟩ hY (fun w mg fa h X G hfa => ?_)
    (fun w H a ns hl _ hS => ⟨a, ns, rfl, hS, hl, fun _ _ _ r => r⟩) (fun w H s e s' z => ?_)
  · obtain ⟨⟨f, fd, FF, B, m⟩, DN⟩ := F w mg h X G
    have hfa : mg "law" = some (.ref fa) := by rw [← hname]; exact hfa
    have e : f = fa := by
      rw [hfa] at m
      injection m with m
      injection m with m
      exact m.symm
    subst e
    obtain ⟨oc, od, kV, doc, pm, an, cdv, ct, osl, e, lk, hcd⟩ := id FF.ex
    refine ⟨fd, fun s u => ?_, fun base _ _ => ?_⟩
    · subst e
      exact .of_eq (hb _ _ _ _ _ _ [u] rfl)
    · obtain ⟨f', fd', m', _, _, FO, oc', od', osl', lk'⟩ := DN base
      have e : f' = f := by
        rw [m] at m'
        injection m' with m'
        injection m' with m'
        exact m'.symm
      subst e
      rw [lk] at lk'
      injection lk' with lk'
      injection lk' with e1 e2 e3 e4
      injection e3 with e3
      subst e3
      exact FO
  · obtain ⟨_, _, _, _, _, _, _, _, _, _, _, _, z⟩ := z
    exact z.elim
end RB
/-! == of data, lists that are held beside a copy -/
namespace RB
open PySem L2 PyProof.Rows
open Evl (Ex)
theorem lay_ints : ∀ ns : List Int, PyData.canLayAll0 (ns.map PyData.int) = true
  | [] => rfl
  | n :: ns => by
    rw [List.map_cons, PyData.canLayAll0, lay_ints ns]
    rfl
theorem depth_ints : ∀ ns : List Int, PyData.depthAll (ns.map PyData.int) ≤ 1
  | [] => by decide
  | n :: ns => by
    rw [List.map_cons, PyData.depthAll]
    have h := depth_ints ns
    have e : (PyData.int n).depth ≤ 1 := by
      rw [PyData.depth] <;> decide
    omega
theorem shaped_ints (ns : List Int) : SeqAt.shaped (.list (ns.map PyData.int)) = true := by
  unfold SeqAt.shaped
  rw [Bool.and_eq_true]
  refine ⟨lay_ints ns, decide_eq_true ?_⟩
  rw [PyData.depth]
  have := depth_ints ns
  omega
theorem dp_ints {K : PySem.W.Frag} {H : Hp} : ∀ ns : List Int, DpAll K H (ns.map V.int) (ns.map PyData.int)
  | [] => .nil
  | n :: ns => .cons (.int n) (dp_ints ns)
theorem dp_list {K : PySem.W.Frag} {H : Hp} {l : Addr} {ns : List Int} (h : SqL K H l (ns.map V.int)) : Dp K H (.ref l) (.list (ns.map PyData.int)) := .lst h (dp_ints ns)
section
variable {X : Cx} {a b e : Expr} {rest : List Stmt} {D : Ends} {σ : L2.St} {H : Hp} {Ra Rb : Rk} {pos : Pos} {kk : Nat} {v : V}
/-- two things of the same data -/
theorem ex_eqD [qa : RM Ra] (ha : EX X a σ H Ra) (hb : EX X b σ H Rb) (hr : Room kk X.A) (d : PyData) (hs : SeqAt.shaped d = true) (da : ∀ H1 v H2, Ex H H1 → Ex H1 H2 → Ra H1 v H2 → Dp X.K H2 v d) (db : ∀ H1 v H2, Ex H H1 → Ex H1 H2 → Rb H1 v H2 → Dp X.K H2 v d) : EX X (.Compare a [.Eq] [b] pos) σ H (Is (.bl true)) :=
  PE.weak (pe_cmpR (op_eqD hr.units) ha hb (nomark _)) fun σ' H' Q ⟨e1, e2, q⟩ => ⟨e1, e2, fun u H2 x2 hu => ⟨e1, e2.trans x2, fun u' H3 x3 hu' =>
    ⟨d, d, da H' u H3 e2 (x2.trans x3) (qa.m (Ex.refl _) x3 hu), db H2 u' H3 (e2.trans x2) x3 hu', hs, hs, by
      rw [SeqAt.eqv_refl d (SeqAt.canLay_of_shaped hs)]
      exact q _ H3 (x2.trans x3) rfl⟩⟩⟩
theorem tx_neD [qa : RM Ra] (ha : EX X a σ H Ra) (hb : EX X b σ H Rb) (hr : Room kk X.A) (d : PyData) (hs : SeqAt.shaped d = true) (da : ∀ H1 v H2, Ex H H1 → Ex H1 H2 → Ra H1 v H2 → Dp X.K H2 v d) (db : ∀ H1 v H2, Ex H H1 → Ex H1 H2 → Rb H1 v H2 → Dp X.K H2 v d) : TX X (.Compare a [.NotEq] [b] pos) σ H false :=
  PT.weak (pt_cmpR (op_neD hr.units) ha hb (nomark _)) fun σ' H' Q ⟨e1, e2, q⟩ => ⟨e1, e2, fun u H2 x2 hu => ⟨e1, e2.trans x2, fun u' H3 x3 hu' =>
    ⟨d, d, da H' u H3 e2 (x2.trans x3) (qa.m (Ex.refl _) x3 hu), db H2 u' H3 (e2.trans x2) x3 hu', hs, hs, false, by
      rw [SeqAt.eqv_refl d (SeqAt.canLay_of_shaped hs)]
      rfl, q H3 (x2.trans x3)⟩⟩⟩
/-- lists of the same numbers that stand -/
theorem ex_eqL {l m : Addr} {ns : List Int} (ha : EX X a σ H (Is (.ref l))) (hb : EX X b σ H (Is (.ref m))) (hr : Room kk X.A) (hl : SqL X.K H l (ns.map V.int)) (hm : SqL X.K H m (ns.map V.int)) : EX X (.Compare a [.Eq] [b] pos) σ H (Is (.bl true)) :=
  ex_eqD ha hb hr _ (shaped_ints ns) (fun H1 v H2 x y r => by cases r; exact dp_list ((x.trans y).l hl)) (fun H1 v H2 x y r => by cases r; exact dp_list ((x.trans y).l hm))
theorem tx_neL {l m : Addr} {ns : List Int} (ha : EX X a σ H (Is (.ref l))) (hb : EX X b σ H (Is (.ref m))) (hr : Room kk X.A) (hl : SqL X.K H l (ns.map V.int)) (hm : SqL X.K H m (ns.map V.int)) : TX X (.Compare a [.NotEq] [b] pos) σ H false :=
  tx_neD ha hb hr _ (shaped_ints ns) (fun H1 v H2 x y r => by cases r; exact dp_list ((x.trans y).l hl)) (fun H1 v H2 x y r => by cases r; exact dp_list ((x.trans y).l hm))
theorem nl_dp {K : PySem.W.Frag} {H1 H2 : Hp} {u : V} {ns : List Int} (r : NL (ns.map V.int) H1 u H2) : Dp K H2 u (.list (ns.map PyData.int)) := by
  obtain ⟨p, rfl, _, h⟩ := r
  exact dp_list (SqL.of h)
/-- l.append(v), v a value -/
theorem sb_appI {l : Addr} {xs : List V} {p cpos : Pos} (ha : EX X a σ H (Is (.ref l))) (hl : H l = some (.lst xs)) (hz : xs.length < 1000000) (he : EX X e σ H (Is v)) (k : SB X rest D σ (upd H l (.lst (xs ++ [v]))))
    (hs : swapsWith (.Call (.Attribute a "append" p) [e] [] cpos) none pos.line X.env = pure false := by rfl) (hs1 : starEach [e] X.env = (false, eval e X.env) :: starEach [] X.env := by rfl)
    (hbase : attributeBase a "append" X.env (eval a X.env) = eval a X.env := by rfl)
    (hfew : ((backTo cpos (starEach [e] X.env)).all (fun x => !x.1) && (backToKw cpos (keywordEach [] X.env)).all (fun x => x.1.isSome)
      && decide ([e].length + ([] : List Keyword).length + (if ([] : List Keyword).isEmpty then 0 else 1) < 30)) = true := by rfl)
    (hline : (p.endLine == cpos.line) = true := by rfl) : SB X (.Expr (.Call (.Attribute a "append" p) [e] [] cpos) pos :: rest) D σ H :=
  sb_app ha hl hz he (fun u H2 x r => by cases r; exact k.up (upd_mono x)) hs hs1 hbase hfew hline
end
/-- pairs of two lists of the same numbers -/
def HeldB (H : Hp) (ps : List V) : Prop := ∀ v ∈ ps, ∃ (q x y : Addr) (ns : List Int), v = .ref q ∧ H q = some (.tup [.ref x, .ref y]) ∧ H x = some (.lst (ns.map V.int)) ∧ H y = some (.lst (ns.map V.int))
/-- the ledger at h: what stands but it is told by Hb -/
structure Led (Hb H : Hp) (h : Addr) (ps : List V) : Prop where
  ex : Ex Hb H
  no : Hb h = none
  at_ : H h = some (.lst ps)
  all : HeldB Hb ps
theorem HeldB.ex {H H' : Hp} {ps : List V} (h : HeldB H ps) (x : Ex H H') : HeldB H' ps := fun v hv => by
  obtain ⟨q, a, b, ns, e, h1, h2, h3⟩ := h v hv
  exact ⟨q, a, b, ns, e, x _ _ h1, x _ _ h2, x _ _ h3⟩
theorem Led.up {Hb H H' : Hp} {h : Addr} {ps : List V} (L : Led Hb H h ps) (x : Ex H H') : Led Hb H' h ps := ⟨L.ex.trans x, L.no, x _ _ L.at_, L.all⟩
/-- a further pair: a list at p that Hb did not know, and its copy -/
theorem Led.step {Hb H H2 : Hp} {h p : Addr} {ps : List V} {ns : List Int} {v : V} (L : Led Hb H h ps) (hb : Hb p = none) (hp : H p = some (.lst (ns.map V.int))) (hph : p ≠ h) (x : Ex H H2) (r : NTx [Is (.ref p), NL (ns.map V.int)] H v H2) :
    ∃ Hb', Ex Hb Hb' ∧ Led Hb' (upd H2 h (.lst (ps ++ [v]))) h (ps ++ [v]) ∧ Hb' p = some (.lst (ns.map V.int)) := by
  obtain ⟨q, vs, rfl, nq, hq, u, _, rfl, e1, u2, _, rfl, ⟨y, rfl, ny, hy⟩, rfl⟩ := r
  cases e1
  have y1 : y ≠ h := fun e => by rw [e, L.at_] at ny; cases ny
  have q1 : q ≠ h := fun e => by rw [e, L.at_] at nq; cases nq
  have yp : y ≠ p := fun e => by rw [e, hp] at ny; cases ny
  have qp : q ≠ p := fun e => by rw [e, hp] at nq; cases nq
  have qy : q ≠ y := fun e => by rw [e, hy] at hq; cases hq
  have z1 : Ex Hb (upd Hb p (.lst (ns.map V.int))) := Ex.new hb
  have by_ : (upd Hb p (.lst (ns.map V.int))) y = none := by rw [upd_ne yp]; exact L.ex.fresh ny
  have z2 : Ex (upd Hb p (.lst (ns.map V.int))) (upd (upd Hb p (.lst (ns.map V.int))) y (.lst (ns.map V.int))) := Ex.new by_
  have bq : (upd (upd Hb p (.lst (ns.map V.int))) y (.lst (ns.map V.int))) q = none := by rw [upd_ne qy, upd_ne qp]; exact L.ex.fresh nq
  have z3 := Ex.new (o := .tup [.ref p, .ref y]) bq
  refine ⟨_, z1.trans (z2.trans z3), ⟨?_, ?_, upd_same, ?_⟩, ?_⟩
  · refine Ex.mut (upd_in (upd_in (upd_in (L.ex.trans x) (x _ _ hp)) hy) hq) ?_
    rw [upd_ne (Ne.symm q1), upd_ne (Ne.symm y1), upd_ne (Ne.symm hph)]
    exact L.no
  · rw [upd_ne (Ne.symm q1), upd_ne (Ne.symm y1), upd_ne (Ne.symm hph)]
    exact L.no
  · intro w hw
    rcases List.mem_append.mp hw with hw | hw
    · exact (L.all.ex (z1.trans (z2.trans z3))) w hw
    · refine ⟨q, p, y, ns, List.mem_singleton.mp hw, upd_same, ?_, ?_⟩
      · rw [upd_ne (Ne.symm qp), upd_ne (Ne.symm yp)]
        exact upd_same
      · rw [upd_ne (Ne.symm qy)]
        exact upd_same
  · rw [upd_ne (Ne.symm qp), upd_ne (Ne.symm yp)]
    exact upd_same
end RB
namespace RB
open PySem L2 PyProof.Rows
open Evl (Ex)
section
variable {X : Cx} {a b e : Expr} {es : List Expr} {rest : List Stmt} {D : Ends} {σ : L2.St} {H : Hp} {pos : Pos} {kk : Nat} {vs : List V}
/-- try: body / except x: suite, where the body may raise one of the class C -/
theorem sb_try {C Cc : Addr} {x : Str} {body suite : List Stmt} {b₀ : Stmt} {np pos' : Pos} {Wout : WX} (hs : X.stack = X.env :: X.outer) (hf : X.env.frame = some X.env.locals) (hc : Names X x (.ref Cc)) (he : PySem.W.exmOne X.K (.ref C) (.ref Cc) = some true) (tk : Takes X Wout)
    (hb : ∀ (W : WX) (pn : List (Addr × Obj)) (xe : Value → Shared → Prop), Takes (X.tr pn xe) W → PassesOwn (model X.prog X.w) X.A X.env xe → (∀ H1, Ex H H1 → W (.ref C) none σ H1) → SB (X.tr pn xe) body { D with nx := fun σ' H' => SX X rest D σ' H' } σ H)
    (hsu : ∀ (a : Addr) (oe : Obj) (pn : List (Addr × Obj)), Zc (.ref C) none oe → (∃ vs, oe.data = .fields vs) → SB (X.suite a ((a, oe) :: pn)) (b₀ :: suite) { D with nx := fun σ' H' => SX X rest D σ' H' } σ H) :
    SB X (.Try body [.ExceptHandler (some (.Name x np)) none (b₀ :: suite) pos'] [] [] pos :: rest) D σ H := fun H' x' =>
  sx_st (ps_try_only (tb := fun W D' σ' H2 => ∀ (pn : List (Addr × Obj)) (xe : Value → Shared → Prop), Takes (X.tr pn xe) W → PassesOwn (model X.prog X.w) X.A X.env xe → SX (X.tr pn xe) body D' σ' H2)
      (ts := fun a cls d D' σ' H2 => ∀ (oe : Obj) (pn : List (Addr × Obj)), Zc cls d oe → (∃ vs, oe.data = .fields vs) → SX (X.suite a ((a, oe) :: pn)) (b₀ :: suite) D' σ' H2) hs hf hc tk
      (fun W pn xe tk' pw => ⟨fun pins s σ' H2 D' I h => (h pn xe tk' pw).run pins s σ' H2 D' I ⟨rfl, rfl, rfl⟩⟩)
      (fun a oe cls d pn z1 z2 => ⟨fun pins s σ' H2 D' I h => (h oe pn z1 z2).run pins s σ' H2 D' I ⟨rfl, rfl, rfl⟩⟩))
    (fun pn xe tk' pw => hb _ pn xe tk' pw (fun H1 y => ⟨true, he, fun _ a ha oe pn z1 z2 => hsu a oe pn z1 z2 H1 y, fun z => by cases z⟩) H' x')
/-- try: body / except x as n: suite -/
theorem sb_tryAs {C Cc : Addr} {x n : Str} {i : Nat} {body suite : List Stmt} {b₀ : Stmt} {np pos' : Pos} {Wout : WX} (hs : X.stack = X.env :: X.outer) (hf : X.env.frame = some X.env.locals) (hN : X.N.Nodup) (hi : X.N[i]? = some n) (hln : X.env.kindOf n = some .local) (hc : Names X x (.ref Cc)) (he : PySem.W.exmOne X.K (.ref C) (.ref Cc) = some true) (tk : Takes X Wout)
    (hb : ∀ (W : WX) (pn : List (Addr × Obj)) (xe : Value → Shared → Prop), Takes (X.tr pn xe) W → PassesOwn (model X.prog X.w) X.A X.env xe → (∀ H1, Ex H H1 → W (.ref C) none σ H1) → SB (X.tr pn xe) body { D with nx := fun σ' H' => SX X rest D σ' H' } σ H)
    (hsu : ∀ (a : Addr) (oe : Obj) (pn : List (Addr × Obj)), Zc (.ref C) none oe → (∃ vs, oe.data = .fields vs) → SB (X.suite a ((a, oe) :: pn)) (b₀ :: suite) { nx := fun σ' H' => SX X rest D (σ'.set i none) H', rt := D.rt, bk := fun σ' H' => D.bk (σ'.set i none) H', ct := fun σ' H' => D.ct (σ'.set i none) H' } (σ.set i (some (.ref a))) H) :
    SB X (.Try body [.ExceptHandler (some (.Name x np)) (some n) (b₀ :: suite) pos'] [] [] pos :: rest) D σ H := fun H' x' =>
  sx_st (ps_try_as (tb := fun W D' σ' H2 => ∀ (pn : List (Addr × Obj)) (xe : Value → Shared → Prop), Takes (X.tr pn xe) W → PassesOwn (model X.prog X.w) X.A X.env xe → SX (X.tr pn xe) body D' σ' H2)
      (ts := fun a cls d D' σ' H2 => ∀ (oe : Obj) (pn : List (Addr × Obj)), Zc cls d oe → (∃ vs, oe.data = .fields vs) → SX (X.suite a ((a, oe) :: pn)) (b₀ :: suite) D' σ' H2) hs hf hN hi hln hc tk
      (fun W pn xe tk' pw => ⟨fun pins s σ' H2 D' I h => (h pn xe tk' pw).run pins s σ' H2 D' I ⟨rfl, rfl, rfl⟩⟩)
      (fun a oe cls d pn z1 z2 => ⟨fun pins s σ' H2 D' I h => (h oe pn z1 z2).run pins s σ' H2 D' I ⟨rfl, rfl, rfl⟩⟩))
    (fun pn xe tk' pw => hb _ pn xe tk' pw (fun H1 y => ⟨true, he, fun _ a ha oe pn z1 z2 => hsu a oe pn z1 z2 H1 y, fun z => by cases z⟩) H' x')
/-- a call in a try's body: what is raised is wished for by W -/
theorem ex_callT' {k : Nat} {ps : List Str} {sp : Sp} {n : Str} {p : Pos} {Q' : Rk} {W : WX} (tk : Takes X W) (G : Dn X.prog X.w X.K X.mg X.base n k ps sp) (hr : Room kk X.A) (ha : AV X (e :: es) σ H vs) (hsp : ∀ H1 Q, Ex H H1 → Gives Q' H1 Q → sp vs H1 Q (WE W σ)) [q : RM Q'] (hk : k ≤ kk := by omega) (hg : Gl X n := by rfl) (hdb : (n == ("__debug__" : Str)) = false := by decide)
    (he : starEach (e :: es) X.env = (false, eval e X.env) :: starEach es X.env := by rfl) (hpl : (backTo pos (starEach es X.env)).any (·.1) = false := by rfl) : EX X (.Call (.Name n p) (e :: es) [] pos) σ H Q' := by
  obtain ⟨f, fd, hm, hk', hb, F, _⟩ := G
  exact PE.weak (pe_callS F (hr.mono hk) hg hm hk' hb (fun σ => passAt tk σ) ha hdb he hpl) fun σ' H' Q ⟨e1, e2, q'⟩ => by
    subst e1
    exact ⟨rfl, e2, fun H2 x2 => hsp H2 Q (e2.trans x2) fun v H3 x3 z => q' v H3 (x2.trans x3) (q.m x2 (Ex.refl _) z)⟩
end
/-- an item of a row -/
theorem at_row {row : List Int} {k y : Int} (h0 : 0 ≤ k) (hy : row[k.toNat]? = some y) : atI (row.map V.int) k = some (.int y) :=
  at_of (show k = ((k.toNat : Nat) : Int) by omega) (by rw [List.getElem?_map, hy]; rfl)
theorem row_at {row : List Int} {k : Int} (h1 : k < (row.length : Int)) (h0 : 0 ≤ k := by omega) : ∃ y, row[k.toNat]? = some y := ⟨_, List.getElem?_eq_getElem (by omega)⟩
end RB
namespace RB
open PySem L2 PyProof.Rows
open Evl (Ex)
theorem xc_use {K : PySem.W.Frag} {mg : Str → Option Value} {n : Str} {C : Addr} {Goal : Prop} (e : Ec K mg n C) (hg : PySem.W.findIn K (.ref C) "__getattribute__" = some (some (.builtin "BaseException.__getattribute__"))) (hk : PySem.W.findIn K (.ref C) "__getattr__" = some none) (hs : PySem.W.subIn K (.ref C) (.type "BaseException") = some true)
    (hd : PySem.W.hasDictIn K C = true) (ha : PySem.W.findIn K (.ref C) "__class__" = some (some (.builtin "object.__class__"))) (hn : PySem.W.specialIn K (.builtin "object.__class__") "__get__" = some (some (.builtin "getset_descriptor.__get__"))) (ht : PySem.W.takesIn K (.builtin "object.__class__") = some true) (hm : PySem.W.mroIn K C (.type "object") = some true)
    (r : ExcC K C → Goal) : Goal := r ⟨hg, hk, hs, hd, ha, hn, ht, hm⟩
theorem sub_use {K : PySem.W.Frag} {mg mg' : Str → Option Value} {n m : Str} {C D : Addr} {b : Bool} {Goal : Prop} (e : Ec K mg n C) (f : Ec K mg' m D) (h : PySem.W.subIn K (.ref C) (.ref D) = some b) (r : PySem.W.subIn K (.ref C) (.ref D) = some b → Goal) : Goal := r h
theorem kit_use {K : PySem.W.Frag} {mg mg' : Str → Option Value} {n m : Str} {C D : Addr} {b : Bool} {Goal : Prop} (e : Ec K mg n C) (f : Ec K mg' m D) (h : PySem.W.kitOne K (.ref C) (.ref D) = some b) (r : PySem.W.kitOne K (.ref C) (.ref D) = some b → Goal) : Goal := r h
theorem kitv_use {K : PySem.W.Frag} {mg : Str → Option Value} {n : Str} {C : Addr} {Goal : Prop} (e : Ec K mg n C) (h : PySem.W.kitOne K (.ref C) (.type "ValueError") = some true) (r : PySem.W.kitOne K (.ref C) (.type "ValueError") = some true → Goal) : Goal := r h
theorem boot_ValueError' : bootBuiltins "ValueError" = some (.type "ValueError") := by decide +kernel
theorem exm_c {K : PySem.W.Frag} {mg : Str → Option Value} {n : Str} {C D : Addr} {b : Bool} (e : Ec K mg n D) (x : ExcC K D) (s : PySem.W.subIn K (.ref C) (.ref D) = some b) : PySem.W.exmOne K (.ref C) (.ref D) = some b := PySem.W.exm_ref e.b x.hd e.t s
/-- isinstance(e, c) of the exception that the suite holds -/
theorem ex_isE {X : Cx} {a D : Addr} {oe : Obj} {pn : List (Addr × Obj)} {e : Expr} {es : List Expr} {σ : L2.St} {H : Hp} {c : V} {cv : Value} {b : Bool} {p pos : Pos} (hm : X.mg "isinstance" = none) (C : ExcC X.K D) (hz : Zc (.ref D) none oe) (hf : ∃ vs, oe.data = .fields vs) (ha : AV (X.suite a ((a, oe) :: pn)) (e :: es) σ H [.ref a, c]) (hc : ∀ u, RelV c u → u = cv) (hk : PySem.W.kitOne X.K (.ref D) cv = some b)
    (hg : Gl (X.suite a ((a, oe) :: pn)) "isinstance" := by rfl) (he : starEach (e :: es) (X.suite a ((a, oe) :: pn)).env = (false, eval e (X.suite a ((a, oe) :: pn)).env) :: starEach es (X.suite a ((a, oe) :: pn)).env := by rfl) (hpl : (backTo pos (starEach es (X.suite a ((a, oe) :: pn)).env)).any (·.1) = false := by rfl) :
    EX (X.suite a ((a, oe) :: pn)) (.Call (.Name "isinstance" p) (e :: es) [] pos) σ H (Is (.bl b)) :=
  ex_callB (call_isE C hz hf) hm boot_isinstance' ha (fun H1 Q x q => ⟨c, cv, b, rfl, hc, hk, q _ H1 (Ex.refl _) rfl⟩) hg (by decide) (by decide) he hpl
/-- the end of a suite whose context is another one -/
theorem sb_out {X Y : Cx} {rest : List Stmt} {D D' : Ends} {σ σ1 : L2.St} {H : Hp} (h : SB Y rest D σ1 H) (hD : D'.nx σ = fun H' => SX Y rest D σ1 H' := by rfl) : SB X [] D' σ H := sb_nil fun H' x => by
  show D'.nx σ H'
  rw [hD]
  exact h H' x
theorem boot_sum' : bootBuiltins "sum" = some (.builtin "sum") := by decide +kernel
/-- sum of a list that is made there, of one that stands -/
theorem ex_sumN {X : Cx} {e : Expr} {es : List Expr} {σ : L2.St} {H : Hp} {p pos : Pos} {xs : List V} {ns : List Int} (hm : X.mg "sum" = none) (ha : AX X (e :: es) σ H [NL xs]) (hx : xs = ns.map V.int) (hc : X.calm = true := by rfl) (hg : Gl X "sum" := by rfl) (he : starEach (e :: es) X.env = (false, eval e X.env) :: starEach es X.env := by rfl) (hpl : (backTo pos (starEach es X.env)).any (·.1) = false := by rfl) :
    EX X (.Call (.Name "sum" p) (e :: es) [] pos) σ H (Is (.int ns.sum)) :=
  ex_callBx (cr_sum hc) hm boot_sum' ha (fun H0 vs H1 Q x0 x1 hv q => by
    obtain ⟨_, _, rfl, ⟨l, rfl, _, hl⟩, rfl⟩ := hv
    rw [hx] at hl
    exact ⟨l, ns, rfl, SqL.of hl, q _ H1 (Ex.refl _) rfl⟩) hg (by decide) (by decide) he hpl
theorem ex_sumI {X : Cx} {e : Expr} {es : List Expr} {σ : L2.St} {H : Hp} {p pos : Pos} {l : Addr} {ns : List Int} (hm : X.mg "sum" = none) (ha : AV X (e :: es) σ H [.ref l]) (hl : SqL X.K H l (ns.map V.int)) (hc : X.calm = true := by rfl) (hg : Gl X "sum" := by rfl) (he : starEach (e :: es) X.env = (false, eval e X.env) :: starEach es X.env := by rfl) (hpl : (backTo pos (starEach es X.env)).any (·.1) = false := by rfl) :
    EX X (.Call (.Name "sum" p) (e :: es) [] pos) σ H (Is (.int ns.sum)) :=
  ex_callB (cr_sum hc) hm boot_sum' ha (fun H1 Q x q => ⟨l, ns, rfl, x.l hl, q _ H1 (Ex.refl _) rfl⟩) hg (by decide) (by decide) he hpl
/-- for x in range(lo, m, c), a step forward -/
theorem rgC {lo m c : Int} (h0 : 0 ≤ lo) (h1 : lo ≤ 1000) (m0 : -1000 ≤ m) (m1 : m ≤ 1000) (c0 : 1 ≤ c) (c1 : c ≤ 1000) : RgC lo m c (Builtin.Range.rangeSize lo m c).toNat ∧ ∀ i : Nat, i < (Builtin.Range.rangeSize lo m c).toNat → lo + (i : Int) * c < m := by
  have e : Builtin.Range.rangeSize lo m c = if lo < m then (m - lo - 1) / c + 1 else 0 := by
    unfold Builtin.Range.rangeSize
    rw [if_pos (show c > 0 by omega)]
  have nn : 0 ≤ (m - lo - 1) / c ∨ ¬ lo < m := by
    by_cases h : lo < m
    · exact .inl (Int.ediv_nonneg (by omega) (by omega))
    · exact .inr h
  have up : lo < m → (m - lo - 1) / c ≤ m - lo - 1 := fun h => Int.ediv_le_self _ (by omega)
  have z0 : 0 ≤ Builtin.Range.rangeSize lo m c ∧ Builtin.Range.rangeSize lo m c ≤ 2001 := by
    rw [e]
    split
    · have := up (by assumption)
      rcases nn with nn | nn
      · omega
      · contradiction
    · omega
  refine ⟨⟨by omega, by omega, ?_, ?_⟩, fun i hi => ?_⟩
  · unfold Builtin.Range.small
    generalize Builtin.Range.rangeSize lo m c = z at z0 ⊢
    simp only [Builtin.Range.rangeFitsLong, Bool.and_eq_true, Bool.or_eq_true, decide_eq_true_eq, beq_iff_eq, if_pos (show c > 0 by omega)]
    omega
  · rw [e]
    split
    · rcases nn with nn | nn
      · omega
      · contradiction
    · rfl
  · rw [e] at hi
    by_cases h : lo < m
    · rw [if_pos h] at hi
      rcases nn with nn | nn
      · have h2 : (i : Int) * c ≤ (m - lo - 1) / c * c := Int.mul_le_mul_of_nonneg_right (by omega) (by omega)
        have := Int.ediv_mul_le (m - lo - 1) (show c ≠ 0 by omega)
        omega
      · exact absurd h nn
    · rw [if_neg h] at hi
      exact absurd hi (by simp)
end RB
namespace RB
open PySem L2 PyProof.Rows
open Evl (Ex)
theorem sb_forR3 {X : Cx} {a b c : Expr} {rest body : List Stmt} {D : Ends} {σ : L2.St} {H : Hp} {pos : Pos} {lo m st : Int} {n : Str} {np p p' : Pos} (j : Nat) (hp : PassesOwn (model X.prog X.w) X.A X.env X.xe) (hN : X.N.Nodup) (hm : X.mg "range" = none) (he : AV X [a, b, c] σ H [.int lo, .int m, .int st]) (hb : (0 ≤ lo ∧ lo ≤ 1000) ∧ (-1000 ≤ m ∧ m ≤ 1000) ∧ 1 ≤ st ∧ st ≤ 1000) (W : Nat → L2.St → Hp → Prop) (h0 : W 0 σ H)
    (hs : ∀ (i : Nat) σ' H', lo + (i : Int) * st < m → W i σ' H' → SB X body { nx := Up (W (i + 1)), rt := D.rt, bk := fun σ' H' => SX X rest D σ' H', ct := Up (W (i + 1)) } (σ'.set j (some (.int (lo + (i : Int) * st)))) H')
    (hd : ∀ (i : Nat) σ' H', W i σ' H' → SB X rest D σ' H') (hg : Gl X "range" := by rfl) (hc : X.calm = true := by rfl) (hi : X.N[j]? = some n := by rfl) (hv : Loc X.env.scope n := by first | exact Or.inl rfl | exact Or.inr rfl) (hf : X.fn n = true ∨ X.env.scope.names.lookup n = some .local := by first | exact .inl rfl | exact .inr rfl | assumption)
    (hs1 : starEach [a, b, c] X.env = (false, eval a X.env) :: starEach [b, c] X.env := by rfl) (hpl : (backTo p' (starEach [b, c] X.env)).any (·.1) = false := by rfl) (hs' : ∀ x, foldedSetIterable (.Call (.Name "range" p) [a, b, c] [] p') X.env x = pure x := by intro _; rfl) : SB X (.For (.Name n np) (.Call (.Name "range" p) [a, b, c] [] p') body [] pos :: rest) D σ H := fun H' x =>
  have r := rgC (lo := lo) (m := m) (c := st) hb.1.1 hb.1.2 hb.2.1.1 hb.2.1.2 hb.2.2.1 hb.2.2.2
  sx_st (ps_for hp hc (pi_range3 hg hm he hs1 hpl) (pg_name hN hi hv hf) (sx_all X body) hs') ⟨rfl, x, fun H2 y => ⟨lo, m, st, _, rfl, r.1,
    for_rangeC (lo := lo) (c := st) (fun i => Up (W i)) ⟨H, x.trans y, h0⟩ (fun i σ' H3 hi ⟨H0, z, w⟩ => hs i σ' H0 (r.2 i hi) w H3 z) fun σ' H3 ⟨H0, z, w⟩ => hd _ σ' H0 w H3 z⟩⟩
/-- an item of a list that is made there -/
theorem ex_ixN {X : Cx} {a b : Expr} {σ : L2.St} {H : Hp} {pos : Pos} {xs : List V} {i : Int} {v : V} (ha : EX X a σ H (NL xs)) (hb : EX X b σ H (Is (.int i))) (hi : atI xs i = some v) (hs : PlainIx b := by exact fun _ _ => rfl) : EX X (.Subscript a b pos) σ H (Is v) :=
  PE.weak (pe_ix ix_list ha hb hs) fun σ' H' Q ⟨e1, e2, q'⟩ => ⟨e1, e2, fun u H2 x2 hu => ⟨e1, e2.trans x2, fun u' H3 x3 hu' => by
    obtain ⟨l, rfl, _, hl⟩ := hu
    cases hu'
    exact ⟨l, xs, i, v, rfl, rfl, SqL.of (x3 _ _ hl), hi, q' _ H3 (x2.trans x3) rfl⟩⟩⟩
/-- int(a truth value) -/
theorem ex_intB {X : Cx} {e : Expr} {es : List Expr} {σ : L2.St} {H : Hp} {p pos : Pos} {k : Bool} (hm : X.mg "int" = none) (ha : AV X (e :: es) σ H [.bl k]) (hg : Gl X "int" := by rfl) (he : starEach (e :: es) X.env = (false, eval e X.env) :: starEach es X.env := by rfl) (hpl : (backTo pos (starEach es X.env)).any (·.1) = false := by rfl) :
    EX X (.Call (.Name "int" p) (e :: es) [] pos) σ H (Is (.int (if k then 1 else 0))) :=
  ex_callT call_int1 hm boot_int' ha (fun H1 Q x q => .inr ⟨k, rfl, q _ H1 (Ex.refl _) rfl⟩) hg (by decide) (by decide) he hpl
/-- the heap without what stands at h -/
def del (H : Hp) (h : Addr) : Hp := fun x => if x = h then none else H x
theorem del_same {H : Hp} {h : Addr} : del H h h = none := by unfold del; rw [if_pos rfl]
theorem del_ne {H : Hp} {h x : Addr} (n : x ≠ h) : del H h x = H x := by unfold del; rw [if_neg n]
theorem del_ex {H : Hp} {h : Addr} : Ex (del H h) H := fun a o e => by
  by_cases q : a = h
  · rw [q, del_same] at e; cases e
  · rw [del_ne q] at e; exact e
theorem del_in {Hb H : Hp} {h : Addr} (x : Ex Hb H) (n : Hb h = none) : Ex Hb (del H h) := fun a o e => by
  have q : a ≠ h := fun q => by rw [q, n] at e; cases e
  rw [del_ne q]
  exact x a o e
theorem Led.renew {Hb H : Hp} {h : Addr} {ps : List V} (L : Led Hb H h ps) : Led (del H h) H h ps := ⟨del_ex, del_same, L.at_, L.all.ex (del_in L.ex L.no)⟩
end RB
namespace RB
open PySem L2 PyProof.Rows
open Evl (Ex)
/-- for over what an expression gives, which is known of it when it is there -/
theorem sb_forP {X : Cx} {e : Expr} {rest body : List Stmt} {D : Ends} {σ : L2.St} {H : Hp} {pos : Pos} {R : Rk} [q : RM R] {n : Str} {np : Pos} (j : Nat) (hp : PassesOwn (model X.prog X.w) X.A X.env X.xe) (hN : X.N.Nodup) (he : EX X e σ H R)
    (k : ∀ u H1, Ex H H1 → R H u H1 → ∃ (l : Addr) (xs : List V) (W : Nat → L2.St → Hp → Prop), u = .ref l ∧ W 0 σ H1 ∧ (∀ i σ' H', i ≤ xs.length → W i σ' H' → SqL X.K H' l xs) ∧
      (∀ i x σ' H', xs[i]? = some x → W i σ' H' → SB X body { nx := Up (W (i + 1)), rt := D.rt, bk := fun σ' H' => SX X rest D σ' H', ct := Up (W (i + 1)) } (σ'.set j (some x)) H') ∧ (∀ σ' H', W xs.length σ' H' → SB X rest D σ' H'))
    (hc : X.calm = true := by rfl) (hi : X.N[j]? = some n := by rfl) (hv : Loc X.env.scope n := by first | exact Or.inl rfl | exact Or.inr rfl) (hf : X.fn n = true ∨ X.env.scope.names.lookup n = some .local := by first | exact .inl rfl | exact .inr rfl | assumption)
    (hs' : ∀ x, foldedSetIterable e X.env x = pure x := by intro _; rfl) : SB X (.For (.Name n np) e body [] pos :: rest) D σ H := fun H' x =>
  sx_st (ps_for hp hc (pi_list he) (pg_name hN hi hv hf) (sx_all X body) hs') ⟨rfl, x, fun v H2 y r => by
    obtain ⟨l, xs, W, e1, h0, hl, hs, hd⟩ := k v H2 (x.trans y) (q.m x (Ex.refl _) r)
    subst e1
    exact ⟨l, rfl, ⟨xs, hl 0 _ _ (Nat.zero_le _) h0⟩, for_list (xs := xs) (fun i => Up (W i)) ⟨H2, Ex.refl _, h0⟩ (fun i σ' H3 hi ⟨H0, z, w⟩ => z.l (hl i σ' H0 hi w)) (fun i x σ' H3 hi ⟨H0, z, w⟩ => hs i x σ' H0 hi w H3 z) fun σ' H3 ⟨H0, z, w⟩ => hd σ' H0 w H3 z⟩⟩
def tElI (σ : L2.St) (H : Hp) (j : Nat) (xs ys : List V) : TE := fun σ' H1 Q => ∃ (i : Nat) (x y : V), xs[i]? = some x ∧ ys[i]? = some y ∧ σ' = (wipe σ [j]).set j (some x) ∧ Ex H H1 ∧ ∀ H2, Ex H1 H2 → Q y H2
/-- [elt for x in a list], the values told by place -/
theorem ex_lcY {X : Cx} {σ : L2.St} {H : Hp} {pos : Pos} {elt it : Expr} {n : Str} {scope : Scope} {xs : List V} {l : Addr} {np : Pos} (j : Nat) (ys : List V) (hN : X.N.Nodup) (hit : EX X it σ H (Is (.ref l))) (hl : SqL X.K H l xs) (hz : xs.length ≤ 900000) (hy : ys.length = xs.length) (ok : BlkOk X.N X.env.scope scope [(n, j)])
    (hgn : ∀ (s : Shared) (H : Hp) (C : Addr) (cl : List (Str × Addr)) (fp : List Addr), PG (X.blk s H scope (compEnvC scope cl C X.env) fp) (.Name n np) (gName j))
    (he : ∀ (s : Shared) (H' : Hp) (C : Addr) (cl : List (Str × Addr)) (fp : List Addr) (i : Nat) (x y : V) (H1 : Hp), Ex H H1 → xs[i]? = some x → ys[i]? = some y → EX (X.blk s H' scope (compEnvC scope cl C X.env) fp) elt ((wipe σ [j]).set j (some x)) H1 (Is y))
    (hc : X.calm = true := by rfl) (hs : ∀ x, foldedSetIterable it X.env x = pure x := by intro _; rfl) :
    EX X (.ListComp elt [⟨.Name n np, it, [], 0⟩] scope pos) σ H (NL ys) := by
  have h1 : ∀ (s : Shared) (H' : Hp) (C : Addr) (cl : List (Str × Addr)) (fp : List Addr), PE (X.blk s H' scope (compEnvC scope cl C X.env) fp) elt (tElI σ H j xs ys) :=
    fun s H' C cl fp => ⟨fun pins s' σ' H1 Q I ⟨i, x, y, hi, hyi, e, z, q⟩ => (he s H' C cl fp i x y H1 z hi hyi).run pins s' σ' H1 Q I ⟨e, Ex.refl _, fun v H2 y r => by cases r; exact q H2 y⟩⟩
  refine PE.weak (pe_lc (own := [(n, j)]) (tt := tYes) hc hN (pi_list hit) ok hgn (fun _ _ _ _ _ => pts_nil) h1 hs) fun σ' H' Q ⟨e1, e2, q⟩ => ?_
  subst e1
  refine ⟨rfl, e2, fun u H2 x2 r => ?_⟩
  cases r
  refine ⟨l, rfl, ⟨xs, (e2.trans x2).l hl⟩, fun D hD => ?_⟩
  refine lc_list (K := X.K) (xs := xs) (g := gName j) (tt := tYes) (te := tElI σ' H j xs ys) (vs := [j]) (σ := σ') (fun i H3 => Ex H2 H3 ∧ H3 D = some (.lst (ys.take i))) ⟨Ex.new hD, upd_same⟩ (fun i H3 _ w => ((e2.trans x2).trans w.1).l hl) (fun i x H3 hi ⟨w1, w2⟩ => ?_) (fun H3 ⟨w1, w2⟩ => q _ H3 (x2.trans w1) ⟨D, rfl, x2.fresh hD, by rw [w2, ← hy, List.take_length]⟩)
  have hlt := (List.getElem?_eq_some_iff.mp hi).1
  obtain ⟨y, hyi⟩ : ∃ y, ys[i]? = some y := ⟨_, List.getElem?_eq_getElem (by omega)⟩
  refine ⟨wipe_one _ _ _, i, x, y, hi, hyi, rfl, (e2.trans x2).trans w1, fun H4 x4 => ⟨_, x4 _ _ w2, ?_, Ex.mut (w1.trans x4) hD, ?_⟩⟩
  · rw [List.length_take]
    exact sz_lt (by omega)
  · rw [List.take_succ, hyi]
    exact upd_same
end RB
namespace RB
open PySem L2 PyProof.Rows
open Evl (Ex)
/-- a call of fresh things that may raise -/
theorem ex_callXx {X : Cx} {e : Expr} {es : List Expr} {σ : L2.St} {H : Hp} {pos : Pos} {Rs : List Rk} {k kk : Nat} {ps : List Str} {sp : Sp} {n : Str} {p : Pos} {Q' : Rk} {E : XK} (hx : Passes (L2.CX X.prog X.w) X E) (G : Dn X.prog X.w X.K X.mg X.base n k ps sp) (hr : Room kk X.A) (ha : AX X (e :: es) σ H Rs) (hsp : ∀ vs H1 Q, Ex H H1 → AllR Rs H vs H1 → Gives Q' H1 Q → sp vs H1 Q E) [q0 : RMs Rs] [q : RM Q'] (hk : k ≤ kk := by omega) (hg : Gl X n := by rfl) (hdb : (n == ("__debug__" : Str)) = false := by decide)
    (he : starEach (e :: es) X.env = (false, eval e X.env) :: starEach es X.env := by rfl) (hpl : (backTo pos (starEach es X.env)).any (·.1) = false := by rfl) : EX X (.Call (.Name n p) (e :: es) [] pos) σ H Q' := by
  obtain ⟨f, fd, hm, hk', hb, F, _⟩ := G
  exact PE.weak (pe_call F (hr.mono hk) hg hm hk' hb .nil hx ha hdb he hpl) fun σ' H' Q ⟨e1, e2, q'⟩ => ⟨e1, e2, fun us H2 x2 hu => by
    show sp (_ ++ []) _ _ _
    rw [List.append_nil]
    exact hsp us H2 Q (e2.trans x2) (q0.m e2 (Ex.refl _) hu) fun v H3 x3 z => q' v H3 (x2.trans x3) (q.m x2 (Ex.refl _) z)⟩
end RB
namespace RB
open PySem L2 PyProof.Rows
open Evl (Ex)
section
variable {X : Cx} {a b e : Expr} {es : List Expr} {rest : List Stmt} {D : Ends} {σ : L2.St} {H : Hp} {pos : Pos}
/-- try: body / except x as n: suite, where the body raises nothing -/
theorem sb_tryAs0 {Cc : Addr} {x n : Str} {i : Nat} {body suite : List Stmt} {b₀ : Stmt} {np pos' : Pos} {Wout : WX} (hs : X.stack = X.env :: X.outer) (hf : X.env.frame = some X.env.locals) (hN : X.N.Nodup) (hi : X.N[i]? = some n) (hln : X.env.kindOf n = some .local) (hc : Names X x (.ref Cc)) (tk : Takes X Wout)
    (hb : ∀ (W : WX) (pn : List (Addr × Obj)) (xe : Value → Shared → Prop), Takes (X.tr pn xe) W → PassesOwn (model X.prog X.w) X.A X.env xe → SB (X.tr pn xe) body { D with nx := fun σ' H' => SX X rest D σ' H' } σ H) :
    SB X (.Try body [.ExceptHandler (some (.Name x np)) (some n) (b₀ :: suite) pos'] [] [] pos :: rest) D σ H := fun H' x' =>
  sx_st (ps_try_as (tb := fun W D' σ' H2 => ∀ (pn : List (Addr × Obj)) (xe : Value → Shared → Prop), Takes (X.tr pn xe) W → PassesOwn (model X.prog X.w) X.A X.env xe → SX (X.tr pn xe) body D' σ' H2)
      (ts := fun a cls d D' σ' H2 => ∀ (oe : Obj) (pn : List (Addr × Obj)), Zc cls d oe → (∃ vs, oe.data = .fields vs) → SX (X.suite a ((a, oe) :: pn)) (b₀ :: suite) D' σ' H2) hs hf hN hi hln hc tk
      (fun W pn xe tk' pw => ⟨fun pins s σ' H2 D' I h => (h pn xe tk' pw).run pins s σ' H2 D' I ⟨rfl, rfl, rfl⟩⟩)
      (fun a oe cls d pn z1 z2 => ⟨fun pins s σ' H2 D' I h => (h oe pn z1 z2).run pins s σ' H2 D' I ⟨rfl, rfl, rfl⟩⟩))
    (fun pn xe tk' pw => hb _ pn xe tk' pw H' x')
end
end RB
namespace RB
open PySem L2 PyProof.Rows
open Evl (Ex)
/-! ### what changes the heap: all that is known behind it stands in R -/
abbrev Rm := V → Hp → Prop
def tM (σ : L2.St) (H : Hp) (R : Rm) : TE := fun σ' H' Q => σ' = σ ∧ Ex H H' ∧ ∀ v H2, R v H2 → Q v H2
def tMT (σ : L2.St) (H : Hp) (b : Bool) (R : Hp → Prop) : TT := fun σ' H' Q => σ' = σ ∧ Ex H H' ∧ ∀ H2, R H2 → Q b H2
def EXm (X : Cx) (e : Expr) (σ : L2.St) (H : Hp) (R : Rm) : Prop := PE X e (tM σ H R)
def TXm (X : Cx) (e : Expr) (σ : L2.St) (H : Hp) (b : Bool) (R : Hp → Prop) : Prop := PT X e (tMT σ H b R)
def WXm (X : Cx) (e : Expr) (σ : L2.St) (H : Hp) (b : Bool) (R : Hp → Prop) : Prop := PW X e (tMT σ H b R)
/-- it ends with all of R -/
def GivesM (R : Rm) (Q : VK) : Prop := ∀ v H2, R v H2 → Q v H2
section
variable {X : Cx} {a b c e : Expr} {es : List Expr} {rest body orelse : List Stmt} {D : Ends} {σ : L2.St} {H : Hp} {pos : Pos} {vs : List V} {R : Rm} {T : Hp → Prop} {k : Bool}
theorem ex_callM {j kk : Nat} {ps : List Str} {sp : Sp} {n : Str} {p : Pos} (G : Dn X.prog X.w X.K X.mg X.base n j ps sp) (hr : Room kk X.A) (ha : AV X (e :: es) σ H vs) (hsp : ∀ H1 Q, Ex H H1 → GivesM R Q → sp vs H1 Q E0) (hk : j ≤ kk := by omega) (hg : Gl X n := by rfl) (hdb : (n == ("__debug__" : Str)) = false := by decide)
    (he : starEach (e :: es) X.env = (false, eval e X.env) :: starEach es X.env := by rfl) (hpl : (backTo pos (starEach es X.env)).any (·.1) = false := by rfl) : EXm X (.Call (.Name n p) (e :: es) [] pos) σ H R := by
  obtain ⟨f, fd, hm, hk', hb, F, _⟩ := G
  exact PE.weak (pe_call F (hr.mono hk) hg hm hk' hb .nil passL ha hdb he hpl) fun σ' H' Q ⟨e1, e2, q'⟩ => ⟨e1, e2, fun H2 x2 => by
    show sp (_ ++ []) _ _ _
    rw [List.append_nil]
    exact hsp H2 Q (e2.trans x2) q'⟩
theorem EXm.mono {R' : Rm} (h : EXm X e σ H R) (w : ∀ v H2, R v H2 → R' v H2) : EXm X e σ H R' := PE.weak h fun σ' H' Q ⟨e1, e2, q⟩ => ⟨e1, e2, fun v H2 r => q v H2 (w v H2 r)⟩
theorem txm_val (h : EXm X e σ H (fun v H2 => v = .bl k ∧ T H2)) (he : ∀ whole, isTrue e X.env whole = (do let v ← whole; standAt e.pos; holding [v] (truthy v)) := by intro _; rfl) : TXm X e σ H k T :=
  PT.weak (pt_val h he) fun σ' H' Q ⟨e1, e2, q⟩ => ⟨e1, e2, fun v H2 ⟨hv, r⟩ => ⟨k, hv, q H2 r⟩⟩
theorem txm_not (h : TXm X a σ H k T) : TXm X (.UnaryOp .Not a pos) σ H (!k) T :=
  PT.weak (pt_not h) fun σ' H' Q ⟨e1, e2, q⟩ => ⟨e1, e2, fun H2 r => q H2 r⟩
theorem wxm_and1 {k : Bool} (h : TXm X a σ H k T) : WXm X (.BoolOp .And [a] pos) σ H k T := pw_and1 h
theorem wxm_and {k m : Bool} {rest : List Expr} (h : TX X a σ H k) (hk : k = true) (h2 : WXm X (.BoolOp .And (b :: rest) pos) σ H m T) : WXm X (.BoolOp .And (a :: b :: rest) pos) σ H m T := by
  subst hk
  exact PW.weak (pw_and h h2) fun σ' H' Q ⟨e1, e2, q⟩ => ⟨e1, e2, fun H2 x2 => ⟨e1, e2.trans x2, fun H3 r => q H3 r⟩⟩
theorem txm_w (h : WXm X e σ H k T) : TXm X e σ H k T := PW.pt h
theorem txm_and2 {k m : Bool} (h : TX X a σ H k) (hk : k = true) (h2 : TXm X b σ H m T) : TXm X (.BoolOp .And [a, b] pos) σ H m T := txm_w (wxm_and h hk (wxm_and1 h2))
theorem TXm.is {k' : Bool} (h : TXm X e σ H k T) (w : k = k') : TXm X e σ H k' T := w ▸ h
theorem sb_whenM (hc : TXm X c σ H k T) (h1 : k = true → ∀ H2, T H2 → SB X body { D with nx := fun σ' H' => SX X rest D σ' H' } σ H2) (h2 : k = false → ∀ H2, T H2 → SB X rest D σ H2) : SB X (.If c body [] pos :: rest) D σ H := fun H' x =>
  sx_st (ps_if hc (sx_all X body) (sx_all X [])) ⟨rfl, x, fun H2 r => by
    cases k with
    | true => exact h1 rfl H2 r H2 (Ex.refl _)
    | false => exact sx_nil (D := { D with nx := fun σ' H' => SX X rest D σ' H' }) (h2 rfl H2 r H2 (Ex.refl _))⟩
theorem sb_exprM (he : EXm X e σ H R) (k : ∀ v H2, R v H2 → SB X rest D σ H2) (hs : swapsWith e none pos.line X.env = pure false := by rfl) : SB X (.Expr e pos :: rest) D σ H := fun H' x =>
  sx_st (ps_expr he hs) ⟨rfl, x, fun v H2 r => k v H2 r H2 (Ex.refl _)⟩
theorem sb_retM (he : EXm X e σ H R) (k : ∀ v H2, R v H2 → D.rt v H2) : SB X (.Return (some e) pos :: rest) D σ H := fun H' x =>
  sx_st (ps_ret he) ⟨rfl, x, fun v H2 r => k v H2 r⟩
theorem sb_asgM (i : Nat) {n : Str} {pos' : Pos} (hN : X.N.Nodup) (he : EXm X e σ H R) (k : ∀ v H2, R v H2 → SB X rest D (σ.set i (some v)) H2) (hi : X.N[i]? = some n := by rfl) (hx : Loc X.env.scope n := by first | exact Or.inl rfl | exact Or.inr rfl)
    (hs : swapsWith e (some (.Name n pos')) pos.line X.env = pure false := by rfl) (hf : X.fn n = true ∨ X.env.scope.names.lookup n = some .local := by first | exact .inl rfl | exact .inr rfl | assumption) : SB X (.Assign [.Name n pos'] e pos :: rest) D σ H := fun H' x =>
  sx_st (ps_set hN hi hx he hs hf) ⟨rfl, x, fun v H2 r => k v H2 r H2 (Ex.refl _)⟩
end
/-- min of a list that is made there -/
theorem ex_minN {X : Cx} {e : Expr} {es : List Expr} {σ : L2.St} {H : Hp} {p pos : Pos} {xs : List V} {ns : List Int} {m : Int} (hm : X.mg "min" = none) (ha : AX X (e :: es) σ H [NL xs]) (hx : xs = ns.map V.int) (h : IsMin m ns) (hc : X.calm = true := by rfl) (hg : Gl X "min" := by rfl) (he : starEach (e :: es) X.env = (false, eval e X.env) :: starEach es X.env := by rfl) (hpl : (backTo pos (starEach es X.env)).any (·.1) = false := by rfl) :
    EX X (.Call (.Name "min" p) (e :: es) [] pos) σ H (Is (.int m)) :=
  ex_callBx (cr_min hc) hm boot_min ha (fun H0 vs H1 Q x0 x1 hv q => by
    obtain ⟨_, _, rfl, ⟨l, rfl, _, hl⟩, rfl⟩ := hv
    rw [hx] at hl
    exact ⟨l, ns, rfl, SqL.of hl, List.length_pos_of_mem h.1, fun m' h1 h2 => by
      have e : m' = m := isMin_unique ⟨h1, h2⟩ h
      rw [e]
      exact q _ H1 (Ex.refl _) rfl⟩) hg (by decide) (by decide) he hpl
/-- list.index of a list that is made there -/
theorem ex_indexN {X : Cx} {a e : Expr} {σ : L2.St} {H : Hp} {p cpos : Pos} {xs : List V} {ns : List Int} {j : Nat} {m : Int} (ha : EX X a σ H (NL xs)) (hx : xs = ns.map V.int) (he : EX X e σ H (Is (.int m))) (h1 : ns[j]? = some m) (h2 : ∀ (k : Nat) y, k < j → ns[k]? = some y → y ≠ m)
    (hs1 : starEach [e] X.env = (false, eval e X.env) :: starEach [] X.env := by rfl) (hbase : attributeBase a "index" X.env (eval a X.env) = eval a X.env := by rfl)
    (hfew : ((backTo cpos (starEach [e] X.env)).all (fun x => !x.1) && (backToKw cpos (keywordEach [] X.env)).all (fun x => x.1.isSome)
      && decide ([e].length + ([] : List Keyword).length + (if ([] : List Keyword).isEmpty then 0 else 1) < 30)) = true := by rfl)
    (hline : (p.endLine == cpos.line) = true := by rfl) : EX X (.Call (.Attribute a "index" p) [e] [] cpos) σ H (Is (.int (j : Int))) := by
  have h3 : PE X (.Call (.Attribute a "index" p) [e] [] cpos) (tBM X.K "list" (rIndex X.K) (tE σ H (NL xs)) (tCons (tE σ H (Is (.int m))) tNil)) := pe_bm PySem.F.plainAttrs_list PySem.F.slot_list_index PySem.F.type_list_index mt_index ha (pa_cons he pa_nil hs1) hbase hfew hline hs1
  refine PE.weak h3 fun σ' H' Q ⟨e1, e2, q⟩ => ⟨e1, e2, fun u H2 x2 r => ?_⟩
  obtain ⟨l, rfl, n1, hl⟩ := r
  refine ⟨.inl ⟨rfl, _, SqL.of hl⟩, e1, e2.trans x2, fun u H3 x3 r => ?_⟩
  cases r
  subst hx
  refine ⟨l, ns.map V.int, .int m, j, .int m, rfl, rfl, SqL.of (x3 _ _ hl), rfl, ?_, ?_, ?_, ?_, q _ H3 (x2.trans x3) rfl⟩
  · rw [List.all_map]
    exact List.all_eq_true.mpr fun _ _ => rfl
  · rw [List.getElem?_map, h1]
    rfl
  · show decide (m = m) = true
    simp
  · intro k z hk hz
    rw [List.getElem?_map] at hz
    cases hy : ns[k]? with
    | none => rw [hy] at hz; cases hz
    | some y =>
      rw [hy] at hz
      cases hz
      show decide (y = m) = false
      exact decide_eq_false (h2 k y hk hy)
/-- a list whose items are told by place -/
def NLo (P : Nat → Hp → V → Prop) (n : Nat) : Rk := fun H1 u H2 => ∃ p xs, u = .ref p ∧ H1 p = none ∧ H2 p = some (.lst xs) ∧ xs.length = n ∧ ∀ (i : Nat) x, xs[i]? = some x → P i H2 x
/-- told by tuples alone -/
class TM (P : Hp → V → Prop) : Prop where
  m : ∀ {H H' : Hp} {v : V}, (∀ a xs, H a = some (.tup xs) → H' a = some (.tup xs)) → P H v → P H' v
instance (P : Hp → V → Prop) [q : TM P] : PM P := ⟨fun x h => q.m (fun a xs e => x a _ e) h⟩
instance (P : Nat → Hp → V → Prop) (n : Nat) [q : ∀ i, TM (P i)] : RM (NLo P n) := ⟨fun e0 e2 ⟨p, xs, h1, h2, h3, h4, h5⟩ => ⟨p, xs, h1, e0.fresh h2, e2 _ _ h3, h4, fun i x hx => (q i).m (fun a xs e => e2 a _ e) (h5 i x hx)⟩⟩
def tElP (σ : L2.St) (H : Hp) (j : Nat) (m : Int) (P : Nat → Hp → V → Prop) : TE := fun σ' H1 Q => ∃ i : Nat, (i : Int) < m ∧ σ' = (wipe σ [j]).set j (some (.int i)) ∧ Ex H H1 ∧ ∀ v H2, Ex H1 H2 → P i H2 v → Q v H2
/-- [elt for x in range(m)], what is told of the items -/
theorem ex_lcRP {X : Cx} {a elt : Expr} {n : Str} {scope : Scope} {m : Int} {np p p' pos : Pos} {σ : L2.St} {H : Hp} (j : Nat) (P : Nat → Hp → V → Prop) [qp : ∀ i, TM (P i)] (hN : X.N.Nodup) (hm : X.mg "range" = none) (ha : AV X [a] σ H [.int m]) (hb : 0 ≤ m ∧ m ≤ 1000000) (ok : BlkOk X.N X.env.scope scope [(n, j)])
    (hgn : ∀ (s : Shared) (H : Hp) (C : Addr) (cl : List (Str × Addr)) (fp : List Addr), PG (X.blk s H scope (compEnvC scope cl C X.env) fp) (.Name n np) (gName j))
    (he : ∀ (s : Shared) (H' : Hp) (C : Addr) (cl : List (Str × Addr)) (fp : List Addr) (i : Nat) (H1 : Hp), Ex H H1 → (i : Int) < m → EX (X.blk s H' scope (compEnvC scope cl C X.env) fp) elt ((wipe σ [j]).set j (some (.int i))) H1 (Of (P i)))
    (hc : X.calm = true := by rfl) (hg : Gl X "range" := by rfl) (hs1 : starEach [a] X.env = [(false, eval a X.env)] := by rfl) (hs : ∀ x, foldedSetIterable (.Call (.Name "range" p) [a] [] p') X.env x = pure x := by intro _; rfl) :
    EX X (.ListComp elt [⟨.Name n np, .Call (.Name "range" p) [a] [] p', [], 0⟩] scope pos) σ H (NLo P m.toNat) := by
  have h1 : ∀ (s : Shared) (H' : Hp) (C : Addr) (cl : List (Str × Addr)) (fp : List Addr), PE (X.blk s H' scope (compEnvC scope cl C X.env) fp) elt (tElP σ H j m P) :=
    fun s H' C cl fp => ⟨fun pins s' σ' H1 Q I ⟨i, hi, e, x, q⟩ => (he s H' C cl fp i H1 x hi).run pins s' σ' H1 Q I ⟨e, Ex.refl _, fun v H2 y r => q v H2 y r⟩⟩
  refine PE.weak (pe_lc (own := [(n, j)]) (tt := tYes) hc hN (pi_range1 hg hm ha hs1) ok hgn (fun _ _ _ _ _ => pts_nil) h1 hs) fun σ' H' Q ⟨e1, e2, q⟩ => ?_
  subst e1
  refine ⟨rfl, e2, fun H2 x2 => ⟨m, rfl, by omega, by omega, fun D hD => ?_⟩⟩
  refine lc_range (lo := 0) (n := m.toNat) (g := gName j) (tt := tYes) (te := tElP σ' H j m P) (vs := [j]) (σ := σ') (fun i H3 => Ex H2 H3 ∧ ∃ xs, H3 D = some (.lst xs) ∧ xs.length = i ∧ ∀ (k : Nat) x, xs[k]? = some x → P k H3 x) ⟨Ex.new hD, [], upd_same, rfl, fun k x hk => by simp at hk⟩ (fun i H3 hi ⟨w1, xs, w2, w3, w4⟩ => ?_) (fun H3 ⟨w1, xs, w2, w3, w4⟩ => q _ H3 (x2.trans w1) ⟨D, xs, rfl, x2.fresh hD, w2, w3, w4⟩)
  refine ⟨wipe_one _ _ _, i, by omega, by rw [Int.zero_add], (e2.trans x2).trans w1, fun v H4 x4 pv => ⟨xs, x4 _ _ w2, ?_, Ex.mut (w1.trans x4) hD, xs ++ [v], upd_same, by rw [List.length_append, w3]; rfl, fun k x hk => ?_⟩⟩
  · rw [w3]
    exact sz_lt (by omega)
  have dd : ∀ (a : Addr) (zs : List V), H4 a = some (.tup zs) → (upd H4 D (.lst (xs ++ [v]))) a = some (.tup zs) := fun a zs e => by
    rw [upd_ne (ne_of e (x4 _ _ w2) (by intro z; cases z))]
    exact e
  by_cases c : k < xs.length
  · rw [List.getElem?_append_left c] at hk
    exact (qp k).m dd ((qp k).m (fun a zs e => x4 a _ e) (w4 k x hk))
  · have e : k = xs.length := by
      have := (List.getElem?_eq_some_iff.mp hk).1
      rw [List.length_append, List.length_singleton] at this
      omega
    subst e
    rw [List.getElem?_concat_length] at hk
    cases hk
    rw [w3]
    exact (qp i).m dd pv
/-- a further pair: a list that was made behind Hb, beside one that stands -/
theorem Led.pair {Hb H H2 : Hp} {h p y : Addr} {ps : List V} {ns : List Int} {v : V} (L : Led Hb H h ps) (hb : Hb p = none) (hp : H p = some (.lst (ns.map V.int))) (hph : p ≠ h) (hy : Hb y = some (.lst (ns.map V.int))) (x : Ex H H2) (r : NT [.ref p, .ref y] H v H2) :
    ∃ Hb', Ex Hb Hb' ∧ Led Hb' (upd H2 h (.lst (ps ++ [v]))) h (ps ++ [v]) := by
  obtain ⟨q, rfl, nq, hq⟩ := r
  have q1 : q ≠ h := fun e => by rw [e, L.at_] at nq; cases nq
  have qp : q ≠ p := fun e => by rw [e, hp] at nq; cases nq
  have z1 : Ex Hb (upd Hb p (.lst (ns.map V.int))) := Ex.new hb
  have bq : (upd Hb p (.lst (ns.map V.int))) q = none := by rw [upd_ne qp]; exact L.ex.fresh nq
  have z3 := Ex.new (o := .tup [.ref p, .ref y]) bq
  refine ⟨_, z1.trans z3, ⟨?_, ?_, upd_same, ?_⟩⟩
  · refine Ex.mut (upd_in (upd_in (L.ex.trans x) (x _ _ hp)) hq) ?_
    rw [upd_ne (Ne.symm q1), upd_ne (Ne.symm hph)]
    exact L.no
  · rw [upd_ne (Ne.symm q1), upd_ne (Ne.symm hph)]
    exact L.no
  · intro w hw
    rcases List.mem_append.mp hw with hw | hw
    · exact (L.all.ex (z1.trans z3)) w hw
    · refine ⟨q, p, y, ns, List.mem_singleton.mp hw, upd_same, ?_, ?_⟩
      · rw [upd_ne (Ne.symm qp)]
        exact upd_same
      · exact (z1.trans z3) _ _ hy
end RB
namespace RB
open PySem L2 PyProof.Rows
open Evl (Ex)
/-- if a and not b: .., b a call that changes the heap and is true -/
theorem sb_andM {X : Cx} {a b : Expr} {rest body : List Stmt} {D : Ends} {σ : L2.St} {H : Hp} {p p2 pos : Pos} {T : Hp → Prop} {k : Bool} (h : TX X a σ H k) (h2 : k = true → EXm X b σ H (fun v H2 => v = .bl true ∧ T H2)) (h0 : T H) (kk : ∀ H2, T H2 → SB X rest D σ H2)
    (he : ∀ whole, isTrue b X.env whole = (do let v ← whole; standAt b.pos; holding [v] (truthy v)) := by intro _; rfl) : SB X (.If (.BoolOp .And [a, .UnaryOp .Not b p] p2) body [] pos :: rest) D σ H := by
  cases k with
  | true => exact sb_whenM (k := false) (txm_and2 h rfl (txm_not (k := true) (txm_val (h2 rfl) he))) (fun c => by cases c) (fun _ H2 t => kk H2 t)
  | false => exact sb_when (k := false) (tx_w (wx_and (m := true) h (fun c => by cases c))) (fun c => by cases c) (fun _ => kk H h0)
theorem sb_notM {X : Cx} {b : Expr} {rest body : List Stmt} {D : Ends} {σ : L2.St} {H : Hp} {p pos : Pos} {T : Hp → Prop} (h2 : EXm X b σ H (fun v H2 => v = .bl true ∧ T H2)) (kk : ∀ H2, T H2 → SB X rest D σ H2)
    (he : ∀ whole, isTrue b X.env whole = (do let v ← whole; standAt b.pos; holding [v] (truthy v)) := by intro _; rfl) : SB X (.If (.UnaryOp .Not b p) body [] pos :: rest) D σ H :=
  sb_whenM (k := false) (txm_not (k := true) (txm_val h2 he)) (fun c => by cases c) (fun _ H2 t => kk H2 t)
end RB
namespace RB
open PySem L2 PyProof.Rows
open Evl (Ex)
/-- name = [elt for x in range(m)] on one line -/
theorem sb_lcRP {X : Cx} {a elt : Expr} {n y : Str} {scope : Scope} {m : Int} {np py p p' pos spos : Pos} {rest : List Stmt} {D : Ends} {σ : L2.St} {H : Hp} (i j : Nat) (P : Nat → Hp → V → Prop) [qp : ∀ i, TM (P i)] (hN : X.N.Nodup) (hm : X.mg "range" = none) (ha : AV X [a] σ H [.int m]) (hb : 0 ≤ m ∧ m ≤ 1000000) (ok : BlkOk X.N X.env.scope scope [(n, j)])
    (hgn : ∀ (s : Shared) (H : Hp) (C : Addr) (cl : List (Str × Addr)) (fp : List Addr), PG (X.blk s H scope (compEnvC scope cl C X.env) fp) (.Name n np) (gName j))
    (he : ∀ (s : Shared) (H' : Hp) (C : Addr) (cl : List (Str × Addr)) (fp : List Addr) (i : Nat) (H1 : Hp), Ex H H1 → (i : Int) < m → EX (X.blk s H' scope (compEnvC scope cl C X.env) fp) elt ((wipe σ [j]).set j (some (.int i))) H1 (Of (P i)))
    (k : ∀ v H2, Ex H H2 → NLo P m.toNat H v H2 → SB X rest D (σ.set i (some v)) H2)
    (hi : X.N[i]? = some y := by rfl) (hyl : X.env.scope.names.lookup y = some .local := by rfl) (hk : X.env.scope.kind = .function := by rfl) (hl : (py.line == pos.line) = true := by rfl) (hany : (scope.names.any fun (n, k) => n == y && (k == .local || k == .cell)) = false := by decide +kernel)
    (hc : X.calm = true := by rfl) (hg : Gl X "range" := by rfl) (hs1 : starEach [a] X.env = [(false, eval a X.env)] := by rfl) (hs : ∀ x, foldedSetIterable (.Call (.Name "range" p) [a] [] p') X.env x = pure x := by intro _; rfl) :
    SB X (.Assign [.Name y py] (.ListComp elt [⟨.Name n np, .Call (.Name "range" p) [a] [] p', [], 0⟩] scope pos) spos :: rest) D σ H := fun H0 e2 => by
  have h1 : ∀ (s : Shared) (H' : Hp) (C : Addr) (cl : List (Str × Addr)) (fp : List Addr), PE (X.blk s H' scope (compEnvC scope cl C X.env) fp) elt (tElP σ H j m P) :=
    fun s H' C cl fp => ⟨fun pins s' σ' H1 Q I ⟨i, hi, e, x, q⟩ => (he s H' C cl fp i H1 x hi).run pins s' σ' H1 Q I ⟨e, Ex.refl _, fun v H2 y r => q v H2 y r⟩⟩
  refine sx_st (ps_setLc (own := [(n, j)]) (tt := tYes) hc hN hi hyl (sw_true hk hyl hl hany) (pi_range1 hg hm ha hs1) ok hgn (fun _ _ _ _ _ => pts_nil) h1 hs) ?_
  refine ⟨rfl, e2, fun H2 x2 => ⟨m, rfl, by omega, by omega, fun L hD => ?_⟩⟩
  refine lc_range (lo := 0) (n := m.toNat) (g := gName j) (tt := tYes) (te := tElP σ H j m P) (vs := [j]) (σ := σ) (fun i H3 => Ex H2 H3 ∧ ∃ xs, H3 L = some (.lst xs) ∧ xs.length = i ∧ ∀ (k : Nat) x, xs[k]? = some x → P k H3 x) ⟨Ex.new hD, [], upd_same, rfl, fun k x hk => by simp at hk⟩ (fun i H3 hi ⟨w1, xs, w2, w3, w4⟩ => ?_) (fun H3 ⟨w1, xs, w2, w3, w4⟩ => k _ H3 (e2.trans (x2.trans w1)) ⟨L, xs, rfl, (e2.trans x2).fresh hD, w2, w3, w4⟩ H3 (Ex.refl _))
  refine ⟨wipe_one _ _ _, i, by omega, by rw [Int.zero_add], (e2.trans x2).trans w1, fun v H4 x4 pv => ⟨xs, x4 _ _ w2, ?_, Ex.mut (w1.trans x4) hD, xs ++ [v], upd_same, by rw [List.length_append, w3]; rfl, fun k x hk => ?_⟩⟩
  · rw [w3]
    exact sz_lt (by omega)
  have dd : ∀ (a : Addr) (zs : List V), H4 a = some (.tup zs) → (upd H4 L (.lst (xs ++ [v]))) a = some (.tup zs) := fun a zs e => by
    rw [upd_ne (ne_of e (x4 _ _ w2) (by intro z; cases z))]
    exact e
  by_cases c : k < xs.length
  · rw [List.getElem?_append_left c] at hk
    exact (qp k).m dd ((qp k).m (fun a zs e => x4 a _ e) (w4 k x hk))
  · have e : k = xs.length := by
      have := (List.getElem?_eq_some_iff.mp hk).1
      rw [List.length_append, List.length_singleton] at this
      omega
    subst e
    rw [List.getElem?_concat_length] at hk
    cases hk
    rw [w3]
    exact (qp i).m dd pv
end RB
namespace RB
open PySem L2 PyProof.Rows
open Evl (Ex)
section
variable {X : Cx} {a b c e : Expr} {es : List Expr} {rest body : List Stmt} {D : Ends} {σ : L2.St} {H : Hp} {pos : Pos} {vs : List V} {R : Rm}
/-- l.pop() -/
theorem sb_pop {l : Addr} {xs : List V} {y : V} {p cpos : Pos} (ha : EX X a σ H (Is (.ref l))) (hl : H l = some (.lst xs)) (hy : xs[xs.length - 1]? = some y) (k : SB X rest D σ (upd H l (.lst xs.dropLast)))
    (hs : swapsWith (.Call (.Attribute a "pop" p) [] [] cpos) none pos.line X.env = pure false := by rfl)
    (hbase : attributeBase a "pop" X.env (eval a X.env) = eval a X.env := by rfl) (hline : (p.endLine == cpos.line) = true := by rfl) : SB X (.Expr (.Call (.Attribute a "pop" p) [] [] cpos) pos :: rest) D σ H := fun H' x => by
  have h1 : PE X (.Call (.Attribute a "pop" p) [] [] cpos) (tBM0 X.K "list" rPop (tE σ H (Is (.ref l)))) := pe_bm0 PySem.F.plainAttrs_list PySem.F.slot_list_pop PySem.F.type_list_pop mt_pop ha hbase hline
  refine sx_st (ps_expr h1 hs) ⟨rfl, x, fun v H2 y' r => ?_⟩
  cases r
  refine ⟨.inl ⟨rfl, _, SqL.of ((x.trans y') _ _ hl)⟩, l, xs, y, rfl, rfl, (x.trans y') _ _ hl, hy, ?_⟩
  exact k _ (upd_mono (x.trans y'))
/-- l.append(e), e a call that changes the heap -/
theorem sb_appM {l : Addr} {ys : List V} {p cpos : Pos} (ha : EX X a σ H (Is (.ref l))) (hl : H l = some (.lst ys)) (he : EXm X e σ H R) (k : ∀ v H2, R v H2 → ∃ xs, H2 l = some (.lst xs) ∧ xs.length < 1000000 ∧ SB X rest D σ (upd H2 l (.lst (xs ++ [v]))))
    (hs : swapsWith (.Call (.Attribute a "append" p) [e] [] cpos) none pos.line X.env = pure false := by rfl) (hs1 : starEach [e] X.env = (false, eval e X.env) :: starEach [] X.env := by rfl)
    (hbase : attributeBase a "append" X.env (eval a X.env) = eval a X.env := by rfl)
    (hfew : ((backTo cpos (starEach [e] X.env)).all (fun x => !x.1) && (backToKw cpos (keywordEach [] X.env)).all (fun x => x.1.isSome)
      && decide ([e].length + ([] : List Keyword).length + (if ([] : List Keyword).isEmpty then 0 else 1) < 30)) = true := by rfl)
    (hline : (p.endLine == cpos.line) = true := by rfl) : SB X (.Expr (.Call (.Attribute a "append" p) [e] [] cpos) pos :: rest) D σ H := fun H' x => by
  have h1 : PE X (.Call (.Attribute a "append" p) [e] [] cpos) (tBM X.K "list" rAppend (tE σ H (Is (.ref l))) (tCons (tM σ H R) tNil)) := pe_bm PySem.F.plainAttrs_list PySem.F.slot_list_append PySem.F.type_list_append mt_append ha (pa_cons he pa_nil hs1) hbase hfew hline hs1
  refine sx_st (ps_expr h1 hs) ⟨rfl, x, fun v H2 y r => ?_⟩
  cases r
  refine ⟨.inl ⟨rfl, _, SqL.of ((x.trans y) _ _ hl)⟩, rfl, x.trans y, fun u H3 r => ?_⟩
  obtain ⟨xs, h2, h3, h4⟩ := k u H3 r
  exact ⟨l, xs, u, rfl, rfl, h2, sz_lt h3, h4 _ (Ex.refl _)⟩
/-- such a call in a try's body: what is raised is wished for by W -/
theorem ex_callMT' {k kk : Nat} {ps : List Str} {sp : Sp} {n : Str} {p : Pos} {W : WX} (tk : Takes X W) (G : Dn X.prog X.w X.K X.mg X.base n k ps sp) (hr : Room kk X.A) (ha : AV X (e :: es) σ H vs) (hsp : ∀ H1 Q, Ex H H1 → GivesM R Q → sp vs H1 Q (WE W σ)) (hk : k ≤ kk := by omega) (hg : Gl X n := by rfl) (hdb : (n == ("__debug__" : Str)) = false := by decide)
    (he : starEach (e :: es) X.env = (false, eval e X.env) :: starEach es X.env := by rfl) (hpl : (backTo pos (starEach es X.env)).any (·.1) = false := by rfl) : EXm X (.Call (.Name n p) (e :: es) [] pos) σ H R := by
  obtain ⟨f, fd, hm, hk', hb, F, _⟩ := G
  exact PE.weak (pe_callS F (hr.mono hk) hg hm hk' hb (fun σ => passAt tk σ) ha hdb he hpl) fun σ' H' Q ⟨e1, e2, q'⟩ => by
    subst e1
    exact ⟨rfl, e2, fun H2 x2 => hsp H2 Q (e2.trans x2) q'⟩
end
end RB
namespace RB
open PySem L2 PyProof.Rows
open Evl (Ex)
/-- what a suite comes to -/
abbrev tsS (X : Cx) (sts : List Stmt) : Addr → Value → Option Addr → TS := fun a cls d D' σ' H2 => ∀ (oe : Obj) (pn : List (Addr × Obj)), Zc cls d oe → (∃ vs, oe.data = .fields vs) → SX (X.suite a ((a, oe) :: pn)) sts D' σ' H2
/-- try: body / except x1: .. / except x2: .. / except x3: .. -/
theorem sb_try3 {X : Cx} {rest body : List Stmt} {D : Ends} {σ : L2.St} {H : Hp} {pos : Pos} {C1 C2 C3 : Addr} {x1 x2 x3 : Str} {s1 s2 s3 : List Stmt} {b1 b2 b3 : Stmt} {n1 n2 n3 p1 p2 p3 : Pos} {Wout : WX} (Q1 Q2 Q3 : Prop) (hs : X.stack = X.env :: X.outer) (hf : X.env.frame = some X.env.locals)
    (hc1 : Names X x1 (.ref C1)) (hc2 : Names X x2 (.ref C2)) (hc3 : Names X x3 (.ref C3)) (e11 : PySem.W.exmOne X.K (.ref C1) (.ref C1) = some true) (e21 : PySem.W.exmOne X.K (.ref C2) (.ref C1) = some false) (e22 : PySem.W.exmOne X.K (.ref C2) (.ref C2) = some true)
    (e31 : PySem.W.exmOne X.K (.ref C3) (.ref C1) = some false) (e32 : PySem.W.exmOne X.K (.ref C3) (.ref C2) = some false) (e33 : PySem.W.exmOne X.K (.ref C3) (.ref C3) = some true) (tk : Takes X Wout)
    (hsu1 : Q1 → ∀ (a : Addr) (oe : Obj) (pn : List (Addr × Obj)), Zc (.ref C1) none oe → (∃ vs, oe.data = .fields vs) → SB (X.suite a ((a, oe) :: pn)) (b1 :: s1) { D with nx := fun σ' H' => SX X rest D σ' H' } σ H)
    (hsu2 : Q2 → ∀ (a : Addr) (oe : Obj) (pn : List (Addr × Obj)), Zc (.ref C2) none oe → (∃ vs, oe.data = .fields vs) → SB (X.suite a ((a, oe) :: pn)) (b2 :: s2) { D with nx := fun σ' H' => SX X rest D σ' H' } σ H)
    (hsu3 : Q3 → ∀ (a : Addr) (oe : Obj) (pn : List (Addr × Obj)), Zc (.ref C3) none oe → (∃ vs, oe.data = .fields vs) → SB (X.suite a ((a, oe) :: pn)) (b3 :: s3) { D with nx := fun σ' H' => SX X rest D σ' H' } σ H)
    (hb : ∀ (W : WX) (pn : List (Addr × Obj)) (xe : Value → Shared → Prop), Takes (X.tr pn xe) W → PassesOwn (model X.prog X.w) X.A X.env xe → (∀ C, (C = C1 ∧ Q1) ∨ (C = C2 ∧ Q2) ∨ (C = C3 ∧ Q3) → ∀ H1, Ex H H1 → W (.ref C) none σ H1) → SB (X.tr pn xe) body { D with nx := fun σ' H' => SX X rest D σ' H' } σ H) :
    SB X (.Try body [.ExceptHandler (some (.Name x1 n1)) none (b1 :: s1) p1, .ExceptHandler (some (.Name x2 n2)) none (b2 :: s2) p2, .ExceptHandler (some (.Name x3 n3)) none (b3 :: s3) p3] [] [] pos :: rest) D σ H := fun H' x' => by
  have run : ∀ (sts : List Stmt) (a : Addr) (oe : Obj) (cls : Value) (d : Option Addr) (pn : List (Addr × Obj)), Zc cls d oe → (∃ vs, oe.data = .fields vs) → PSs (X.suite a ((a, oe) :: pn)) sts (tsS X sts a cls d) :=
    fun sts a oe cls d pn z1 z2 => ⟨fun pins s σ' H2 D' I h => (h oe pn z1 z2).run pins s σ' H2 D' I ⟨rfl, rfl, rfl⟩⟩
  refine sx_st (ps_try_many (l := [(.ref C1, tsS X (b1 :: s1)), (.ref C2, tsS X (b2 :: s2)), (.ref C3, tsS X (b3 :: s3))]) (tb := fun W D' σ' H2 => ∀ (pn : List (Addr × Obj)) (xe : Value → Shared → Prop), Takes (X.tr pn xe) W → PassesOwn (model X.prog X.w) X.A X.env xe → SX (X.tr pn xe) body D' σ' H2) hs hf tk
      (fun W pn xe tk' pw => ⟨fun pins s σ' H2 D' I h => (h pn xe tk' pw).run pins s σ' H2 D' I ⟨rfl, rfl, rfl⟩⟩)
      (.cons hc1 (run _) (.cons hc2 (run _) (.cons hc3 (run _) .nil)))) ?_
  refine fun pn xe tk' pw => hb _ pn xe tk' pw (fun C hC H1 y => ?_) H' x'
  rcases hC with ⟨rfl, hQ⟩ | ⟨rfl, hQ⟩ | ⟨rfl, hQ⟩
  · exact ⟨true, e11, fun _ a ha oe pn z1 z2 => hsu1 hQ a oe pn z1 z2 H1 y, fun z => by cases z⟩
  · exact ⟨false, e21, (fun z => by cases z), fun _ => ⟨true, e22, fun _ a ha oe pn z1 z2 => hsu2 hQ a oe pn z1 z2 H1 y, fun z => by cases z⟩⟩
  · exact ⟨false, e31, (fun z => by cases z), fun _ => ⟨false, e32, (fun z => by cases z), fun _ => ⟨true, e33, fun _ a ha oe pn z1 z2 => hsu3 hQ a oe pn z1 z2 H1 y, fun z => by cases z⟩⟩⟩
end RB
namespace RB
open PySem L2 PyProof.Rows
open Evl (Ex)
/-- a call of fresh things that changes the heap -/
theorem ex_callMx {X : Cx} {e : Expr} {es : List Expr} {σ : L2.St} {H : Hp} {pos : Pos} {Rs : List Rk} {R : Rm} {j kk : Nat} {ps : List Str} {sp : Sp} {n : Str} {p : Pos} (G : Dn X.prog X.w X.K X.mg X.base n j ps sp) (hr : Room kk X.A) (ha : AX X (e :: es) σ H Rs) (hsp : ∀ vs H0 H1 Q, Ex H H0 → Ex H0 H1 → AllR Rs H0 vs H1 → GivesM R Q → sp vs H1 Q E0) (hk : j ≤ kk := by omega) (hg : Gl X n := by rfl) (hdb : (n == ("__debug__" : Str)) = false := by decide)
    (he : starEach (e :: es) X.env = (false, eval e X.env) :: starEach es X.env := by rfl) (hpl : (backTo pos (starEach es X.env)).any (·.1) = false := by rfl) : EXm X (.Call (.Name n p) (e :: es) [] pos) σ H R := by
  obtain ⟨f, fd, hm, hk', hb, F, _⟩ := G
  exact PE.weak (pe_call F (hr.mono hk) hg hm hk' hb .nil passL ha hdb he hpl) fun σ' H' Q ⟨e1, e2, q'⟩ => ⟨e1, e2, fun us H2 x2 hu => by
    show sp (_ ++ []) _ _ _
    rw [List.append_nil]
    exact hsp us H' H2 Q e2 x2 hu q'⟩
/-! pairs of two things of the same data -/
mutual
theorem Dp.up {K : PySem.W.Frag} {H H' : Hp} (x : Ex H H') : ∀ (d : PyData) (v : V), Dp K H v d → Dp K H' v d
  | .none, _, h => by cases h; exact .non
  | .bool _, _, h => by cases h; exact .bl _
  | .int _, _, h => by cases h; exact .int _
  | .str _, _, h => by cases h; exact .str _
  | .list ds, _, h => by
    cases h with
    | lst hs ha => exact .lst (x.l hs) (Dp.upAll x ds _ ha)
  | .tuple ds, _, h => by
    cases h with
    | tup hs ha => exact .tup (x.t hs) (Dp.upAll x ds _ ha)
  | .dict _, _, h => by cases h
theorem Dp.upAll {K : PySem.W.Frag} {H H' : Hp} (x : Ex H H') : ∀ (ds : List PyData) (vs : List V), DpAll K H vs ds → DpAll K H' vs ds
  | [], _, h => by cases h; exact .nil
  | d :: ds, _, h => by
    cases h with
    | cons h1 h2 => exact .cons (Dp.up x d _ h1) (Dp.upAll x ds _ h2)
end
theorem dpAll_at {K : PySem.W.Frag} {H : Hp} : ∀ {vs : List V} {ds : List PyData}, vs.length = ds.length → (∀ (i : Nat) d, ds[i]? = some d → ∃ v, vs[i]? = some v ∧ Dp K H v d) → DpAll K H vs ds
  | [], [], _, _ => .nil
  | [], d :: ds, h, _ => by cases h
  | v :: vs, [], h, _ => by cases h
  | v :: vs, d :: ds, h, f => by
    obtain ⟨u, e, hu⟩ := f 0 d rfl
    cases e
    exact .cons hu (dpAll_at (Nat.succ.inj h) fun i d' hd => f (i + 1) d' hd)
def HeldG (K : PySem.W.Frag) (H : Hp) (ps : List V) : Prop := ∀ v ∈ ps, ∃ (q x y : Addr) (d : PyData), v = .ref q ∧ H q = some (.tup [.ref x, .ref y]) ∧ SeqAt.shaped d = true ∧ Dp K H (.ref x) d ∧ Dp K H (.ref y) d
theorem HeldG.ex {K : PySem.W.Frag} {H H' : Hp} {ps : List V} (h : HeldG K H ps) (x : Ex H H') : HeldG K H' ps := fun v hv => by
  obtain ⟨q, a, b, d, e, h1, h2, h3, h4⟩ := h v hv
  exact ⟨q, a, b, d, e, x _ _ h1, h2, Dp.up x d _ h3, Dp.up x d _ h4⟩
theorem heldTXg {X : Cx} {σ : L2.St} {H : Hp} {kk : Nat} {Hb : Hp} {ps : List V} {x : V} {e1 e2 i0 i1 : Expr} {p0 p1 pc : Pos} (hr : Room kk X.A) (hb : HeldG X.K Hb ps) (ex : Ex Hb H) (hx : x ∈ ps) (ha : EX X e1 σ H (Is x)) (hc : EX X e2 σ H (Is x)) (h0 : EX X i0 σ H (Is (.int 0))) (h1 : EX X i1 σ H (Is (.int 1)))
    (hs0 : PlainIx i0) (hs1 : PlainIx i1) : TX X (.Compare (.Subscript e1 i0 p0) [.NotEq] [.Subscript e2 i1 p1] pc) σ H false := by
  obtain ⟨q, a, b, d, rfl, k1, k2, k3, k4⟩ := hb x hx
  exact tx_neD (ex_ixT ha h0 (SqT.of (ex _ _ k1)) rfl hs0) (ex_ixT hc h1 (SqT.of (ex _ _ k1)) rfl hs1) hr d k2 (fun H1 v H2 y z r => by cases r; exact Dp.up (ex.trans (y.trans z)) d _ k3) (fun H1 v H2 y z r => by cases r; exact Dp.up (ex.trans (y.trans z)) d _ k4)
/-- the heap without some places -/
def dels (H : Hp) (S : List Addr) : Hp := fun x => if x ∈ S then none else H x
theorem dels_in {H : Hp} {S : List Addr} {x : Addr} (n : x ∈ S) : dels H S x = none := by unfold dels; rw [if_pos n]
theorem dels_ne {H : Hp} {S : List Addr} {x : Addr} (n : x ∉ S) : dels H S x = H x := by unfold dels; rw [if_neg n]
theorem dels_ex {H : Hp} {S : List Addr} : Ex (dels H S) H := fun a o e => by
  by_cases q : a ∈ S
  · rw [dels_in q] at e; cases e
  · rw [dels_ne q] at e; exact e
theorem dels_mono {H H' : Hp} {S : List Addr} (x : Ex H H') : Ex (dels H S) (dels H' S) := fun a o e => by
  by_cases q : a ∈ S
  · rw [dels_in q] at e; cases e
  · rw [dels_ne q] at e ⊢; exact x a o e
theorem dels_upd {H : Hp} {S : List Addr} {a : Addr} {o : HO} (n : a ∈ S) : dels (upd H a o) S = dels H S := by
  funext x
  by_cases q : x ∈ S
  · rw [dels_in q, dels_in q]
  · rw [dels_ne q, dels_ne q, upd_ne (fun e => q (by rw [e]; exact n))]
theorem dels_of {Hb H : Hp} {S : List Addr} (x : Ex Hb H) (n : ∀ a ∈ S, Hb a = none) : Ex Hb (dels H S) := fun a o e => by
  have q : a ∉ S := fun q => by rw [n a q] at e; cases e
  rw [dels_ne q]
  exact x a o e
theorem dels_sub {H : Hp} {S S' : List Addr} (s : ∀ a ∈ S', a ∈ S) : Ex (dels H S) (dels H S') := fun a o e => by
  have q : a ∉ S := fun q => by rw [dels_in q] at e; cases e
  rw [dels_ne q] at e
  rw [dels_ne (fun z => q (s a z))]
  exact e
end RB
namespace RB
open PySem L2 PyProof.Rows
open Evl (Ex)
instance tm_eq {f : Nat → V} (i : Nat) : TM (fun (_ : Hp) u => u = f i) := ⟨fun _ h => h⟩
theorem nlo_map {f : Nat → V} {n : Nat} {H1 H2 : Hp} {u : V} (h : NLo (fun i _ u => u = f i) n H1 u H2) : NL ((List.range n).map f) H1 u H2 := by
  obtain ⟨p, xs, h1, h2, h3, h4, h5⟩ := h
  have e : xs = (List.range n).map f := by
    apply List.ext_getElem?
    intro i
    rw [List.getElem?_map]
    by_cases c : i < n
    · have hx := List.getElem?_eq_getElem (l := xs) (i := i) (by omega)
      rw [hx, List.getElem?_range c, h5 i _ hx]
      rfl
    · rw [List.getElem?_eq_none (by omega), List.getElem?_eq_none (by rw [List.length_range]; omega)]
      rfl
  rw [e] at h3
  exact ⟨p, h1, h2, h3⟩
end RB
namespace RB
open PySem L2 PyProof.Rows
open Evl (Ex)
def topS (i : Nat) : Stmt := PySem.Challenge.pw_rangebook_k14_whole_deeds_answered.main.body.getD i (.Pass ⟨0, 0, 0, 0⟩)
/-! trees as they stand in the heap -/
def IsT (H : Hp) : Addr → T → Prop
  | a, .leaf n v => H a = some (.tup [.int n, .int (n * v), .int v, .int 0, .non, .non])
  | a, .node l r b => ∃ p q, H a = some (.tup [.int (l.many + r.many), .int (l.total + r.total + (l.many + r.many) * b), .int ((if r.least < l.least then r.least else l.least) + b), .int b, .ref p, .ref q]) ∧ IsT H p l ∧ IsT H q r
/-- tuples stay -/
def Tx (H H' : Hp) : Prop := ∀ a xs, H a = some (.tup xs) → H' a = some (.tup xs)
theorem _root_.Evl.Ex.tx {H H' : Hp} (e : Ex H H') : Tx H H' := fun a xs h => e a _ h
theorem Tx.trans {H H1 H2 : Hp} (a : Tx H H1) (b : Tx H1 H2) : Tx H H2 := fun x xs h => b x xs (a x xs h)
theorem Tx.lst {H : Hp} {l : Addr} {xs ys : List V} (h : H l = some (.lst xs)) : Tx H (upd H l (.lst ys)) := fun a zs e => by
  rw [upd_ne (ne_of e h (by intro z; cases z))]
  exact e
theorem Tx.new {H : Hp} {l : Addr} {o : HO} (h : H l = none) : Tx H (upd H l o) := (Ex.new h).tx
theorem IsT.tx {H H' : Hp} (e : Tx H H') : ∀ {t : T} {a : Addr}, IsT H a t → IsT H' a t
  | .leaf _ _, _, h => e _ _ h
  | .node _ _ _, _, ⟨p, q, h1, h2, h3⟩ => ⟨p, q, e _ _ h1, IsT.tx e h2, IsT.tx e h3⟩
theorem IsT.ex {H H' : Hp} (e : Ex H H') {t : T} {a : Addr} (h : IsT H a t) : IsT H' a t := h.tx e.tx
theorem IsT.tup {H : Hp} : ∀ {t : T} {a : Addr}, IsT H a t → ∃ b x y, H a = some (.tup [.int t.many, .int t.total, .int t.least, b, x, y])
  | .leaf _ _, _, h => ⟨_, _, _, h⟩
  | .node _ _ _, _, ⟨p, q, h1, h2, h3⟩ => ⟨_, _, _, h1⟩
def Tr (t : T) : Hp → V → Prop := fun H u => ∃ a, u = .ref a ∧ IsT H a t
instance (t : T) : PM (Tr t) := ⟨fun e ⟨a, h1, h2⟩ => ⟨a, h1, h2.ex e⟩⟩
/-- some tree of that row, not deeper than d -/
def TrR (d : Nat) (xs : List Int) : Hp → V → Prop := fun H u => ∃ t, Tr t H u ∧ t.Ok d ∧ t.row = xs
instance (d : Nat) (xs : List Int) : PM (TrR d xs) := ⟨fun e ⟨t, h1, h2⟩ => ⟨t, PM.m e h1, h2⟩⟩
/-- a number or None -/
def optV : Option Int → V
  | some k => .int k
  | none => .non

def spEvenNode : Sp := fun vs H Q _ => ∃ n v : Int, vs = [.int n, .int v] ∧ (-(2 ^ 64) < n ∧ n < 2 ^ 64) ∧ Gives (Of (Tr (.leaf n v))) H Q
def spNodeOf : Sp := fun vs H Q _ => ∃ (p q : Addr) (l r : T) (b : Int), vs = [.ref p, .ref q, .int b] ∧ IsT H p l ∧ IsT H q r ∧ (-(2 ^ 64) < l.many + r.many ∧ l.many + r.many < 2 ^ 64) ∧ Gives (Of (Tr (.node l r b))) H Q
def spParted : Sp := fun vs H Q _ => ∃ (a : Addr) (t : T), vs = [.ref a] ∧ IsT H a t ∧ (-(2 ^ 64) < t.many ∧ t.many < 2 ^ 64) ∧ (∀ l r b, t = .node l r b → Gives (Of (Tr t)) H Q) ∧ ∀ n v, t = .leaf n v → 0 ≤ n ∧ Gives (Of (Tr (.node (.leaf (n / 2) v) (.leaf (n - n / 2) v) 0))) H Q
def spRaised : Sp := fun vs H Q _ => ∃ (a : Addr) (t : T) (d : Nat) (by_ : Int), vs = [.ref a, .int by_] ∧ IsT H a t ∧ t.Ok d ∧ d ≤ 60 ∧ Gives (Of (TrR d (t.row.map fun x => x + by_))) H Q
def spTotalIn (d : Nat) : Sp := fun vs H Q _ => ∃ (a : Addr) (t : T) (lo hi : Int), vs = [.ref a, .int lo, .int hi] ∧ IsT H a t ∧ t.Ok d ∧ d ≤ 60 ∧ 0 ≤ lo ∧ hi ≤ t.many ∧ Gives (Is (.int (cut t.row lo hi).sum)) H Q
def spLeastIn (d : Nat) : Sp := fun vs H Q _ => ∃ (a : Addr) (t : T) (lo hi : Int), vs = [.ref a, .int lo, .int hi] ∧ IsT H a t ∧ t.Ok d ∧ 0 ≤ lo ∧ lo < hi ∧ hi ≤ t.many ∧ ∀ m, IsMin m (cut t.row lo hi) → Gives (Is (.int m)) H Q
def spFirstIn (d : Nat) : Sp := fun vs H Q _ => ∃ (a : Addr) (t : T) (lo bd : Int), vs = [.ref a, .int lo, .int bd] ∧ IsT H a t ∧ t.Ok d ∧ 0 ≤ lo ∧ Gives (Is (optV (fst t.row lo bd))) H Q
def spListedIn (d : Nat) : Sp := fun vs H Q _ => ∃ (a : Addr) (t : T) (lo hi by_ : Int), vs = [.ref a, .int lo, .int hi, .int by_] ∧ IsT H a t ∧ t.Ok d ∧ 0 ≤ lo ∧ hi ≤ t.many ∧ hi - lo ≤ 1000 ∧ Gives (NL ((cut t.row lo hi).map fun x => .int (x + by_))) H Q
def spAddedIn (d : Nat) : Sp := fun vs H Q _ => ∃ (a : Addr) (t : T) (lo hi by_ : Int), vs = [.ref a, .int lo, .int hi, .int by_] ∧ IsT H a t ∧ t.Ok d ∧ d ≤ 60 ∧ Gives (Of (TrR d (chg (fun x => x + by_) t.row lo hi))) H Q
def spFilledIn (d : Nat) : Sp := fun vs H Q _ => ∃ (a : Addr) (t : T) (lo hi v : Int), vs = [.ref a, .int lo, .int hi, .int v] ∧ IsT H a t ∧ t.Ok d ∧ d ≤ 60 ∧ Gives (Of (TrR d (chg (fun _ => v) t.row lo hi))) H Q
theorem pow60 {d : Nat} (h : d ≤ 60) : (2 : Int) ^ d < 2 ^ 64 := by
  have h1 : (2 : Nat) ^ d ≤ 2 ^ 60 := Nat.pow_le_pow_right (by decide) h
  have h2 : ((2 ^ d : Nat) : Int) ≤ ((2 ^ 60 : Nat) : Int) := Int.ofNat_le.mpr h1
  rw [Int.natCast_pow] at h2
  exact Int.lt_of_le_of_lt h2 (by decide)
theorem T.Ok.room {t : T} {d : Nat} (h : t.Ok d) (h2 : d ≤ 60) : -(2 ^ 64) < t.many ∧ t.many < 2 ^ 64 := by
  have h3 := h.many0
  have h4 := h.many_le
  have h5 := pow60 h2
  constructor
  · have : (0 : Int) < 2 ^ 64 := by decide
    omega
  · omega
theorem minI (i j : Int) : (if j < i then j else i) = min i j := by
  split <;> omega
theorem maxI (i j : Int) : (if j > i then j else i) = max i j := by
  split <;> omega
/-- facts of what is built in -/
structure Bt (mg : Str → Option Value) : Prop where
  len : mg "len" = none
  min : mg "min" = none
  max : mg "max" = none
  list : mg "list" = none
  range : mg "range" = none
  isinstance : mg "isinstance" = none
  int : mg "int" = none
  bool : mg "bool" = none
  ValueError : mg "ValueError" = none
  str : mg "str" = none
  tuple : mg "tuple" = none
  sum : mg "sum" = none
  sorted : mg "sorted" = none
  abs : mg "abs" = none
section
variable {P : Program} {w : World} {K : PySem.W.Frag} {mg : Str → Option Value} {base : Heap}

abbrev s_even_node : Stmt := topS 7
theorem sc_even_node : FnScope ["many", "number"] ["many", "number"] (defScope s_even_node) := ⟨rfl, rfl, rfl, by decide +kernel, rfl, by decide +kernel, by decide +kernel⟩
theorem ok_even_node (F : Df K mg "even_node" s_even_node ["many", "number"]) : Dn P w K mg base "even_node" 1 ["many", "number"] spEvenNode :=
  def_ok F sc_even_node (fun vs H Q E ⟨_, _, e, _⟩ => by rw [e] <;> rfl) fun f cdv A outer s H vs Q E hr h => by
    obtain ⟨n, v, rfl, hb, q⟩ := h
    exact sb_ret (ex_tup (av_cons (ex_var 0) (av_cons (ex_mulL (ex_var 0) (ex_var 1) hb) (av_cons (ex_var 1) (av_cons ex_i (av_cons ex_n (av_cons ex_n av_nil)))))) (by exact Nat.le_of_ble_eq_true rfl)) fun u H2 x ⟨p, e, _, e2⟩ => q u H2 x ⟨p, e, e2⟩

abbrev s_node_of : Stmt := topS 8
theorem sc_node_of : FnScope ["left", "right", "by", "many"] ["left", "right", "by"] (defScope s_node_of) := ⟨rfl, rfl, rfl, by decide +kernel, rfl, by decide +kernel, by decide +kernel⟩

theorem ok_node_of (B : Bt mg) (F : Df K mg "node_of" s_node_of ["left", "right", "by"]) : Dn P w K mg base "node_of" 1 ["left", "right", "by"] spNodeOf :=
  def_ok F sc_node_of (fun vs H Q E ⟨_, _, _, _, _, e, _⟩ => by rw [e] <;> rfl) fun f cdv A outer s H vs Q E hr h => by
    obtain ⟨p, q, l, r, b, rfl, hL, hR, hb, k⟩ := h
    obtain ⟨_, _, _, hl⟩ := hL.tup
    obtain ⟨_, _, _, hq⟩ := hR.tup
    refine sb_set 3 sc_node_of.nd (ex_add (ex_ixT (ex_var 0) ex_i (SqT.of hl) rfl) (ex_ixT (ex_var 1) ex_i (SqT.of hq) rfl)) ?_
    exact sb_ret (ex_tup (av_cons (ex_var 3) (av_cons (ex_add (ex_add (ex_ixT (ex_var 0) ex_i (SqT.of hl) rfl) (ex_ixT (ex_var 1) ex_i (SqT.of hq) rfl)) (ex_mulL (ex_var 3) (ex_var 2) hb)) (av_cons (ex_add (ex_min B.min (av_cons (ex_ixT (ex_var 0) ex_i (SqT.of hl) rfl) (av_cons (ex_ixT (ex_var 1) ex_i (SqT.of hq) rfl) av_nil))) (ex_var 2)) (av_cons (ex_var 2) (av_cons (ex_var 0) (av_cons (ex_var 1) av_nil)))))) (by exact Nat.le_of_ble_eq_true rfl)) fun u H2 x ⟨a, e, _, e2⟩ => k u H2 x ⟨a, e, p, q, e2, hL.ex x, hR.ex x⟩

abbrev s_parted : Stmt := topS 10
theorem sc_parted : FnScope ["node", "half"] ["node"] (defScope s_parted) := ⟨rfl, rfl, rfl, by decide +kernel, rfl, by decide +kernel, by decide +kernel⟩
theorem ok_parted (F : Df K mg "parted" s_parted ["node"]) (G_even_node : Dn P w K mg base "even_node" 1 ["many", "number"] spEvenNode) (G_node_of : Dn P w K mg base "node_of" 1 ["left", "right", "by"] spNodeOf) : Dn P w K mg base "parted" 2 ["node"] spParted :=
  def_ok F sc_parted (fun vs H Q E ⟨_, _, e, _⟩ => by rw [e] <;> rfl) fun f cdv A outer s H vs Q E hr h => by
    obtain ⟨a, t, rfl, hT, hb, q1, q2⟩ := h
    cases t with
    | node l r b =>
      obtain ⟨p, q, hn, hl, hr'⟩ := hT

      exact sb_when (tx_notN (ex_ixT (ex_var 0) ex_i (SqT.of hn) rfl) ex_n) (fun _ => sb_retI (ex_var 0) fun H2 x => q1 _ _ _ rfl _ _ x ⟨a, rfl, p, q, x _ _ hn, hl.ex x, hr'.ex x⟩) (fun c => (by simp at c))
    | leaf n v =>

      obtain ⟨h0, q3⟩ := q2 n v rfl
      have hb1 : -(2 ^ 64) < n := hb.1
      have hb2 : n < 2 ^ 64 := hb.2
      refine sb_when (tx_notN (ex_ixT (ex_var 0) ex_i (SqT.of hT) rfl) ex_n) (fun c => (by simp at c)) (fun _ => ?_)
      refine sb_set 1 sc_parted.nd (ex_fdiv (ex_ixT (ex_var 0) ex_i (SqT.of hT) rfl) ex_i ⟨by decide, by decide⟩) ?_
      refine sb_ret (R := Of (Tr (.node (.leaf (n / 2) v) (.leaf (n - n / 2) v) 0))) (ex_callx G_node_of hr (ax_cons (ex_call G_even_node hr (av_cons (ex_var 1) (av_cons (ex_ixT (ex_var 0) ex_i (SqT.of hT) rfl) av_nil)) (fun H1 Q x q => ⟨_, _, rfl, by omega, q⟩)) (ax_cons (ex_call G_even_node hr (av_cons (ex_sub (ex_ixT (ex_var 0) ex_i (SqT.of hT) rfl) (ex_var 1)) (av_cons (ex_ixT (ex_var 0) ex_i (SqT.of hT) rfl) av_nil)) (fun H1 Q x q => ⟨_, _, rfl, by omega, q⟩)) (ax_cons ex_i ax_nil))) ?_) q3
      intro vs H1 Q x hv q
      obtain ⟨u, _, rfl, ⟨p1, rfl, h1⟩, u2, _, rfl, ⟨p2, rfl, h2⟩, u3, _, rfl, rfl, rfl⟩ := hv
      exact ⟨p1, p2, _, _, _, rfl, h1, h2, by show -(2 ^ 64) < n / 2 + (n - n / 2) ∧ n / 2 + (n - n / 2) < 2 ^ 64; omega, q⟩

abbrev s_raised : Stmt := topS 11
theorem sc_raised : FnScope ["node", "by"] ["node", "by"] (defScope s_raised) := ⟨rfl, rfl, rfl, by decide +kernel, rfl, by decide +kernel, by decide +kernel⟩
theorem ok_raised (F : Df K mg "raised" s_raised ["node", "by"]) (G_even_node : Dn P w K mg base "even_node" 1 ["many", "number"] spEvenNode) (G_node_of : Dn P w K mg base "node_of" 1 ["left", "right", "by"] spNodeOf) : Dn P w K mg base "raised" 2 ["node", "by"] spRaised :=
  def_ok F sc_raised (fun vs H Q E ⟨_, _, _, _, e, _⟩ => by rw [e] <;> rfl) fun f cdv A outer s H vs Q E hr h => by
    obtain ⟨a, t, d, by_, rfl, hT, hok, hd, q⟩ := h
    have hb := hok.room hd
    cases t with
    | leaf n v =>

      exact sb_when (tx_isN (ex_ixT (ex_var 0) ex_i (SqT.of hT) rfl) ex_n) (fun _ => sb_ret (R := Of (Tr (.leaf n (v + by_)))) (ex_call G_even_node hr (av_cons (ex_ixT (ex_var 0) ex_i (SqT.of hT) rfl) (av_cons (ex_add (ex_ixT (ex_var 0) ex_i (SqT.of hT) rfl) (ex_var 1)) av_nil)) (fun H1 Q x q => ⟨_, _, rfl, hb, q⟩)) fun u H2 x r => q u H2 x ⟨_, r, T.ok_leaf.mpr (T.ok_leaf.mp hok), row_leaf_raised⟩) (fun c => (by simp at c))
    | node l r b =>
      obtain ⟨p, p', hn, hl, hr'⟩ := hT

      refine sb_when (tx_isN (ex_ixT (ex_var 0) ex_i (SqT.of hn) rfl) ex_n) (fun c => (by simp at c)) (fun _ => ?_)
      exact sb_ret (R := Of (Tr (.node l r (b + by_)))) (ex_call G_node_of hr (av_cons (ex_ixT (ex_var 0) ex_i (SqT.of hn) rfl) (av_cons (ex_ixT (ex_var 0) ex_i (SqT.of hn) rfl) (av_cons (ex_add (ex_ixT (ex_var 0) ex_i (SqT.of hn) rfl) (ex_var 1)) av_nil))) (fun H1 Q x q => ⟨_, _, _, _, _, rfl, hl.ex x, hr'.ex x, hb, q⟩)) fun u H2 x z => q u H2 x ⟨_, z, (by cases d with | zero => exact hok.elim | succ d => exact hok), row_raised⟩


abbrev s_total_in : Stmt := topS 12
theorem sc_total_in : FnScope ["node", "low", "high", "half", "left", "right"] ["node", "low", "high"] (defScope s_total_in) := ⟨rfl, rfl, rfl, by decide +kernel, rfl, by decide +kernel, by decide +kernel⟩
theorem ok_total_in (B : Bt mg) (F : Df K mg "total_in" s_total_in ["node", "low", "high"]) : ∀ d, Dn P w K mg base "total_in" (d + 0 + 1) ["node", "low", "high"] (spTotalIn d) :=
  def_rec 0 F sc_total_in (fun d vs H Q E ⟨_, _, _, _, e, _⟩ => by rw [e] <;> rfl) fun d ih f cdv A outer s H vs Q E hr h => by
    obtain ⟨a, t, lo, hi, rfl, hT, hok, hd, h0, hh, q⟩ := h
    have hb := hok.room hd
    obtain ⟨xb, x4, x5, hn⟩ := hT.tup

    refine sb_when (tx_ge (ex_var 1) (ex_var 2)) (fun c => ?_) (fun c => ?_)
    · have c := of_decide_eq_true c
      rw [cut_nil c] at q
      exact sb_ret ex_i q
    have c := of_decide_eq_false c
    refine sb_when (tx_w (wx_and (tx_eqI (ex_var 1) ex_i) (fun z1 => (wx_and1 (tx_eqI (ex_var 2) (ex_ixT (ex_var 0) ex_i (SqT.of hn) rfl)))))) (fun c => ?_) (fun c => ?_)
    · rw [Bool.and_eq_true] at c
      have c1 := of_decide_eq_true c.1
      have c2 := of_decide_eq_true c.2
      rw [cut_all (by omega) (by rw [hok.length]; omega), hok.sum] at q
      exact sb_ret (ex_ixT (ex_var 0) ex_i (SqT.of hn) rfl) q
    cases t with
    | leaf n v =>
      have hT : H a = some (.tup [.int n, .int (n * v), .int v, .int 0, .non, .non]) := hT

      refine sb_when (tx_isN (ex_ixT (ex_var 0) ex_i (SqT.of hT) rfl) ex_n) (fun _ => ?_) (fun c => (by simp at c))
      have hh' : hi ≤ n := hh
      have hb1 : n < 2 ^ 64 := hb.2
      have e : (cut (T.leaf n v).row lo hi).sum = v * (hi - lo) := by
        show (cut (List.replicate n.toNat v) lo hi).sum = _
        rw [cut_replicate (by omega), sum_replicate, Int.mul_comm, show ((hi.toNat - lo.toNat : Nat) : Int) = hi - lo by omega]
      rw [e] at q
      exact sb_ret (ex_mulR (ex_ixT (ex_var 0) ex_i (SqT.of hT) rfl) (ex_sub (ex_var 2) (ex_var 1)) (by omega)) q
    | node l r b =>
      obtain ⟨p, p', hn, hL, hR⟩ := hT
      obtain ⟨_, _, _, hl⟩ := hL.tup
      cases d with
      | zero => exact hok.elim
      | succ d =>
      have G_total_in := ih d rfl
      have hm := hok.many_le
      have l0 := hok.1.many0
      have r0 := hok.2.1.many0
      have hh' : hi ≤ l.many + r.many := hh

      refine sb_when (tx_isN (ex_ixT (ex_var 0) ex_i (SqT.of hn) rfl) ex_n) (fun c => (by simp at c)) (fun _ => ?_)
      refine sb_set 3 sc_total_in.nd (ex_ixT (ex_ixT (ex_var 0) ex_i (SqT.of hn) rfl) ex_i (SqT.of hl) rfl) ?_
      refine sb_set 4 sc_total_in.nd (v := .int (cut l.row lo (min hi l.many)).sum) (ex_call G_total_in hr (av_cons (ex_ixT (ex_var 0) ex_i (SqT.of hn) rfl) (av_cons (ex_var 1) (av_cons (ex_min B.min (av_cons (ex_var 2) (av_cons (ex_var 3) av_nil))) av_nil))) (fun H1 Q x q => ⟨_, l, lo, _, rfl, hL.ex x, hok.1, by omega, h0, by omega, by rw [minI]; exact q⟩)) ?_
      refine sb_set 5 sc_total_in.nd (v := .int (cut r.row (max lo l.many - l.many) (hi - l.many)).sum) (ex_call G_total_in hr (av_cons (ex_ixT (ex_var 0) ex_i (SqT.of hn) rfl) (av_cons (ex_sub (ex_max B.max (av_cons (ex_var 1) (av_cons (ex_var 3) av_nil))) (ex_var 3)) (av_cons (ex_sub (ex_var 2) (ex_var 3)) av_nil))) (fun H1 Q x q => ⟨_, r, _, _, rfl, hR.ex x, hok.2.1, by omega, by omega, by omega, by rw [maxI]; exact q⟩)) ?_
      rw [sum_node hok h0 (by omega) hh'] at q
      exact sb_ret (ex_add (ex_add (ex_var 4) (ex_var 5)) (ex_mulR (ex_ixT (ex_var 0) ex_i (SqT.of hn) rfl) (ex_sub (ex_var 2) (ex_var 1)) (by have := hb.1; have := hb.2; have : (T.node l r b).many = l.many + r.many := rfl; omega))) q

abbrev s_least_in : Stmt := topS 13
theorem sc_least_in : FnScope ["node", "low", "high", "half"] ["node", "low", "high"] (defScope s_least_in) := ⟨rfl, rfl, rfl, by decide +kernel, rfl, by decide +kernel, by decide +kernel⟩
theorem ok_least_in (B : Bt mg) (F : Df K mg "least_in" s_least_in ["node", "low", "high"]) : ∀ d, Dn P w K mg base "least_in" (d + 0 + 1) ["node", "low", "high"] (spLeastIn d) :=
  def_rec 0 F sc_least_in (fun d vs H Q E ⟨_, _, _, _, e, _⟩ => by rw [e] <;> rfl) fun d ih f cdv A outer s H vs Q E hr h => by
    obtain ⟨a, t, lo, hi, rfl, hT, hok, h0, hlt, hh, q⟩ := h
    have hfull : lo = 0 → hi = t.many → Gives (Is (.int t.least)) H Q := fun e1 e2 => q _ (by
      rw [cut_all (by omega) (by rw [hok.length]; omega)]
      exact hok.isMin (by omega))
    cases t with
    | leaf n v =>
      have hT : H a = some (.tup [.int n, .int (n * v), .int v, .int 0, .non, .non]) := hT

      refine sb_when (tx_w (wx_or (tx_isN (ex_ixT (ex_var 0) ex_i (SqT.of hT) rfl) ex_n) (fun z1 => (wx_or1 (tx_w (wx_and (tx_eqI (ex_var 1) ex_i) (fun z2 => (wx_and1 (tx_eqI (ex_var 2) (ex_ixT (ex_var 0) ex_i (SqT.of hT) rfl)))))))))) (fun _ => ?_) (fun c => (by simp at c))
      exact sb_ret (ex_ixT (ex_var 0) ex_i (SqT.of hT) rfl) (q v (by
        have hh' : hi ≤ n := hh
        show IsMin v (cut (List.replicate n.toNat v) lo hi)
        rw [cut_replicate (by omega)]
        exact isMin_replicate (by omega)))
    | node l r b =>
      obtain ⟨p, p', hn, hL, hR⟩ := hT
      obtain ⟨_, _, _, hl⟩ := hL.tup
      cases d with
      | zero => exact hok.elim
      | succ d =>
      have G_least_in := ih d rfl
      have l0 := hok.1.many0
      have hh' : hi ≤ l.many + r.many := hh

      refine sb_when (tx_w (wx_or (tx_isN (ex_ixT (ex_var 0) ex_i (SqT.of hn) rfl) ex_n) (fun z1 => (wx_or1 (tx_w (wx_and (tx_eqI (ex_var 1) ex_i) (fun z2 => (wx_and1 (tx_eqI (ex_var 2) (ex_ixT (ex_var 0) ex_i (SqT.of hn) rfl)))))))))) (fun c => ?_) (fun c => ?_)
      · have c : (lo = 0 ∧ hi = l.many + r.many) := by simpa using c
        exact sb_ret (ex_ixT (ex_var 0) ex_i (SqT.of hn) rfl) (hfull c.1 c.2)
      have c : ¬ (lo = 0 ∧ hi = l.many + r.many) := by simpa using c
      refine sb_set 3 sc_least_in.nd (ex_ixT (ex_ixT (ex_var 0) ex_i (SqT.of hn) rfl) ex_i (SqT.of hl) rfl) ?_
      refine sb_when (tx_le (ex_var 2) (ex_var 3)) (fun c => ?_) (fun c => ?_)
      · have c := of_decide_eq_true c
        rw [cut_node_left hok h0 c] at q
        obtain ⟨m, hm⟩ : ∃ m, IsMin m (cut l.row lo hi) := isMin_ex (cut_ne h0 hlt (by rw [hok.1.length]; exact c))
        exact sb_ret (ex_add (ex_call G_least_in hr (av_cons (ex_ixT (ex_var 0) ex_i (SqT.of hn) rfl) (av_cons (ex_var 1) (av_cons (ex_var 2) av_nil))) (fun H1 Q x q => ⟨_, l, lo, hi, rfl, hL.ex x, hok.1, h0, hlt, c, fun m' hm' => by rw [isMin_unique hm' hm]; exact q⟩)) (ex_ixT (ex_var 0) ex_i (SqT.of hn) rfl)) (q (m + b) (isMin_map hm))
      have c := of_decide_eq_false c
      refine sb_when (tx_ge (ex_var 1) (ex_var 3)) (fun c => ?_) (fun c => ?_)
      · have c := of_decide_eq_true c
        rw [cut_node_right hok h0 c] at q
        obtain ⟨m, hm⟩ : ∃ m, IsMin m (cut r.row (lo - l.many) (hi - l.many)) := isMin_ex (cut_ne (by omega) (by omega) (by rw [hok.2.1.length]; omega))
        exact sb_ret (ex_add (ex_call G_least_in hr (av_cons (ex_ixT (ex_var 0) ex_i (SqT.of hn) rfl) (av_cons (ex_sub (ex_var 1) (ex_var 3)) (av_cons (ex_sub (ex_var 2) (ex_var 3)) av_nil))) (fun H1 Q x q => ⟨_, r, _, _, rfl, hR.ex x, hok.2.1, by omega, by omega, by omega, fun m' hm' => by rw [isMin_unique hm' hm]; exact q⟩)) (ex_ixT (ex_var 0) ex_i (SqT.of hn) rfl)) (q (m + b) (isMin_map hm))
      have c' := of_decide_eq_false c
      rw [cut_node hok h0, Int.min_eq_right (by omega), Int.max_eq_right (by omega), Int.sub_self] at q
      obtain ⟨m, hm⟩ : ∃ m, IsMin m (cut l.row lo l.many) := isMin_ex (cut_ne h0 (by omega) (by rw [hok.1.length]; omega))
      obtain ⟨k, hk⟩ : ∃ k, IsMin k (cut r.row 0 (hi - l.many)) := isMin_ex (cut_ne (by omega) (by omega) (by rw [hok.2.1.length]; omega))
      exact sb_ret (ex_add (ex_min B.min (av_cons (ex_call G_least_in hr (av_cons (ex_ixT (ex_var 0) ex_i (SqT.of hn) rfl) (av_cons (ex_var 1) (av_cons (ex_var 3) av_nil))) (fun H1 Q x q => ⟨_, l, _, _, rfl, hL.ex x, hok.1, h0, by omega, by omega, fun m' hm' => by rw [isMin_unique hm' hm]; exact q⟩)) (av_cons (ex_call G_least_in hr (av_cons (ex_ixT (ex_var 0) ex_i (SqT.of hn) rfl) (av_cons ex_i (av_cons (ex_sub (ex_var 2) (ex_var 3)) av_nil))) (fun H1 Q x q => ⟨_, r, _, _, rfl, hR.ex x, hok.2.1, by omega, by omega, by omega, fun m' hm' => by rw [isMin_unique hm' hk]; exact q⟩)) av_nil))) (ex_ixT (ex_var 0) ex_i (SqT.of hn) rfl)) (q _ (isMin_map (isMin_append hm hk)))

abbrev s_first_in : Stmt := topS 14
theorem sc_first_in : FnScope ["node", "low", "bound", "half", "found"] ["node", "low", "bound"] (defScope s_first_in) := ⟨rfl, rfl, rfl, by decide +kernel, rfl, by decide +kernel, by decide +kernel⟩
theorem ok_first_in (B : Bt mg) (F : Df K mg "first_in" s_first_in ["node", "low", "bound"]) : ∀ d, Dn P w K mg base "first_in" (d + 0 + 1) ["node", "low", "bound"] (spFirstIn d) :=
  def_rec 0 F sc_first_in (fun d vs H Q E ⟨_, _, _, _, e, _⟩ => by rw [e] <;> rfl) fun d ih f cdv A outer s H vs Q E hr h => by
    obtain ⟨a, t, lo, bd, rfl, hT, hok, h0, q⟩ := h
    obtain ⟨xb, x4, x5, hn⟩ := hT.tup

    refine sb_when (tx_w (wx_or (tx_ge (ex_var 1) (ex_ixT (ex_var 0) ex_i (SqT.of hn) rfl)) (fun z1 => (wx_or1 (tx_gt (ex_ixT (ex_var 0) ex_i (SqT.of hn) rfl) (ex_var 2)))))) (fun c => ?_) (fun c => ?_)
    · have c : t.many ≤ lo ∨ bd < t.least := by simpa using c
      have e : fst t.row lo bd = none := by
        rcases c with c | c
        · exact fst_none_le (by rw [hok.length]; exact c)
        · by_cases h1 : 1 ≤ t.many
          · exact fst_none_gt fun x hx => Int.lt_of_lt_of_le c ((hok.isMin h1).2 x hx)
          · exact fst_none_le (by rw [hok.length]; omega)
      rw [e] at q
      exact sb_ret ex_n q
    have c : lo < t.many ∧ t.least ≤ bd := by simpa using c
    cases t with
    | leaf n v =>
      have hT : H a = some (.tup [.int n, .int (n * v), .int v, .int 0, .non, .non]) := hT

      refine sb_when (tx_isN (ex_ixT (ex_var 0) ex_i (SqT.of hT) rfl) ex_n) (fun _ => ?_) (fun c => (by simp at c))
      have c1 : lo < n := c.1
      have c2 : v ≤ bd := c.2
      rw [show fst (T.leaf n v).row lo bd = some lo from fst_replicate h0 (by omega) c2] at q
      exact sb_ret (ex_var 1) q
    | node l r b =>
      obtain ⟨p, p', hn, hL, hR⟩ := hT
      obtain ⟨_, _, _, hl⟩ := hL.tup
      cases d with
      | zero => exact hok.elim
      | succ d =>
      have G_first_in := ih d rfl
      have l0 := hok.1.many0

      refine sb_when (tx_isN (ex_ixT (ex_var 0) ex_i (SqT.of hn) rfl) ex_n) (fun c => (by simp at c)) (fun _ => ?_)
      refine sb_set 3 sc_first_in.nd (ex_ixT (ex_ixT (ex_var 0) ex_i (SqT.of hn) rfl) ex_i (SqT.of hl) rfl) ?_
      rw [fst_node hok h0] at q
      refine sb_join (fun σ' H' => ∃ v4 : Option V, H' = H ∧ fst l.row lo (bd - b) = none ∧ σ' = [some (.ref a), some (.int lo), some (.int bd), some (.int l.many), v4]) (tx_lt (ex_var 1) (ex_var 3)) (fun c => ?_) (fun c => ?_) ?_
      · refine sb_set 4 sc_first_in.nd (v := optV (fst l.row lo (bd - b))) (ex_call G_first_in hr (av_cons (ex_ixT (ex_var 0) ex_i (SqT.of hn) rfl) (av_cons (ex_var 1) (av_cons (ex_sub (ex_var 2) (ex_ixT (ex_var 0) ex_i (SqT.of hn) rfl)) av_nil))) (fun H1 Q x q => ⟨_, l, _, _, rfl, hL.ex x, hok.1, h0, q⟩)) ?_
        cases e2 : fst l.row lo (bd - b) with
        | none =>

          exact sb_when (tx_notN (ex_var 4) ex_n) (fun c => (by simp [optV] at c)) (fun _ => sb_next (by exact ⟨_, rfl, by first | exact e2 | rfl, rfl⟩))
        | some k =>
          rw [e2] at q
          exact sb_when (tx_notN (ex_var 4) ex_n) (fun c => sb_ret (ex_var 4) q) (fun c => (by simp [optV] at c))
      · have c := of_decide_eq_false c
        exact sb_next (by exact ⟨_, rfl, fst_none_le (by rw [hok.1.length]; omega), rfl⟩)
      intro σ' H' ⟨v4, eH, e, eσ⟩
      subst eH eσ
      rw [e] at q
      refine sb_set 4 sc_first_in.nd (v := optV (fst r.row (max lo l.many - l.many) (bd - b))) (ex_call G_first_in hr (av_cons (ex_ixT (ex_var 0) ex_i (SqT.of hn) rfl) (av_cons (ex_sub (ex_max B.max (av_cons (ex_var 1) (av_cons (ex_var 3) av_nil))) (ex_var 3)) (av_cons (ex_sub (ex_var 2) (ex_ixT (ex_var 0) ex_i (SqT.of hn) rfl)) av_nil))) (fun H1 Q x q => ⟨_, r, _, _, rfl, hR.ex x, hok.2.1, by omega, by rw [maxI]; exact q⟩)) ?_
      cases e2 : fst r.row (max lo l.many - l.many) (bd - b) with
      | none =>
        rw [e2] at q

        exact sb_when (tx_isN (ex_var 4) ex_n) (fun _ => sb_ret ex_n q) (fun c => (by simp [optV] at c))
      | some k =>
        rw [e2] at q

        exact sb_when (tx_isN (ex_var 4) ex_n) (fun c => (by simp [optV] at c)) (fun _ => sb_ret (ex_add (ex_var 3) (ex_var 4)) q)

abbrev s_listed_in : Stmt := topS 15
theorem sc_listed_in : FnScope ["node", "low", "high", "by", "half", "left"] ["node", "low", "high", "by"] (defScope s_listed_in) := ⟨rfl, rfl, rfl, by decide +kernel, rfl, by decide +kernel, by decide +kernel⟩
theorem ok_listed_in (B : Bt mg) (F : Df K mg "listed_in" s_listed_in ["node", "low", "high", "by"]) : ∀ d, Dn P w K mg base "listed_in" (d + 0 + 1) ["node", "low", "high", "by"] (spListedIn d) :=
  def_rec 0 F sc_listed_in (fun d vs H Q E ⟨_, _, _, _, _, e, _⟩ => by rw [e] <;> rfl) fun d ih f cdv A outer s H vs Q E hr h => by
    obtain ⟨a, t, lo, hi, by_, rfl, hT, hok, h0, hh, hz, q⟩ := h
    refine sb_when (tx_ge (ex_var 1) (ex_var 2)) (fun c => ?_) (fun c => ?_)
    · have c := of_decide_eq_true c
      rw [cut_nil c] at q
      exact sb_ret (ex_lst av_nil (by exact Nat.le_of_ble_eq_true rfl)) q
    have c := of_decide_eq_false c
    cases t with
    | leaf n v =>
      have hT : H a = some (.tup [.int n, .int (n * v), .int v, .int 0, .non, .non]) := hT

      refine sb_when (tx_isN (ex_ixT (ex_var 0) ex_i (SqT.of hT) rfl) ex_n) (fun _ => ?_) (fun c => (by simp at c))
      have hh' : hi ≤ n := hh
      have e : ((cut (T.leaf n v).row lo hi).map fun x => V.int (x + by_)) = List.replicate (hi - lo).toNat (V.int (v + by_)) := by
        show (cut (List.replicate n.toNat v) lo hi).map _ = _
        rw [cut_replicate (by omega), List.map_replicate, show hi.toNat - lo.toNat = (hi - lo).toNat by omega]
      rw [e] at q
      exact sb_ret (ex_rep1 (ex_lst (av_cons (ex_add (ex_ixT (ex_var 0) ex_i (SqT.of hT) rfl) (ex_var 3)) av_nil) (by exact Nat.le_of_ble_eq_true rfl)) (ex_sub (ex_var 2) (ex_var 1)) (by omega) (by omega)) q
    | node l r b =>
      obtain ⟨p, p', hn, hL, hR⟩ := hT
      obtain ⟨_, _, _, hl⟩ := hL.tup
      cases d with
      | zero => exact hok.elim
      | succ d =>
      have G_listed_in := ih d rfl
      have l0 := hok.1.many0
      have r0 := hok.2.1.many0
      have hh' : hi ≤ l.many + r.many := hh

      refine sb_when (tx_isN (ex_ixT (ex_var 0) ex_i (SqT.of hn) rfl) ex_n) (fun c => (by simp at c)) (fun _ => ?_)
      refine sb_set 4 sc_listed_in.nd (ex_ixT (ex_ixT (ex_var 0) ex_i (SqT.of hn) rfl) ex_i (SqT.of hl) rfl) ?_
      refine sb_asg (R := NL ((cut l.row lo (min hi l.many)).map fun x => .int (x + (by_ + b)))) 5 sc_listed_in.nd (ex_call G_listed_in hr (av_cons (ex_ixT (ex_var 0) ex_i (SqT.of hn) rfl) (av_cons (ex_var 1) (av_cons (ex_min B.min (av_cons (ex_var 2) (av_cons (ex_var 4) av_nil))) (av_cons (ex_add (ex_var 3) (ex_ixT (ex_var 0) ex_i (SqT.of hn) rfl)) av_nil)))) (fun H1 Q x q => ⟨_, l, lo, _, _, rfl, hL.ex x, hok.1, h0, by omega, by omega, by rw [minI]; exact q⟩)) fun v H2 x2 z => ?_
      obtain ⟨pl, rfl, _, hpl⟩ := z
      have hl2 := hl
      have e : ((cut (T.node l r b).row lo hi).map fun x => V.int (x + by_)) = ((cut l.row lo (min hi l.many)).map fun x => V.int (x + (by_ + b))) ++ ((cut r.row (max lo l.many - l.many) (hi - l.many)).map fun x => V.int (x + (by_ + b))) := by
        rw [cut_node hok h0, List.map_map, List.map_append]
        have g : ((fun x => V.int (x + by_)) ∘ fun x => x + b) = fun x => V.int (x + (by_ + b)) := by
          funext x
          simp only [Function.comp]
          rw [show x + b + by_ = x + (by_ + b) by omega]
        rw [g]
      have ez := congrArg List.length e
      have z1 := cut_length (xs := (T.node l r b).row) (lo := lo) (hi := hi) h0 (by omega) (by rw [hok.length]; exact hh)
      rw [List.length_map, List.length_append] at ez
      rw [e] at q

      exact sb_ret (ex_catR (ex_var 5) (ex_call G_listed_in hr (av_cons (ex_ixT (ex_var 0) ex_i (SqT.of (x2 _ _ hn)) rfl) (av_cons (ex_sub (ex_max B.max (av_cons (ex_var 1) (av_cons (ex_var 4) av_nil))) (ex_var 4)) (av_cons (ex_sub (ex_var 2) (ex_var 4)) (av_cons (ex_add (ex_var 3) (ex_ixT (ex_var 0) ex_i (SqT.of (x2 _ _ hn)) rfl)) av_nil)))) (fun H1 Q x q => ⟨_, r, _, _, _, rfl, hR.ex (x2.trans x), hok.2.1, by omega, by omega, by omega, by rw [maxI]; exact q⟩)) hpl (by omega)) (q.up x2)


abbrev s_added_in : Stmt := topS 16
theorem sc_added_in : FnScope ["node", "low", "high", "by", "half"] ["node", "low", "high", "by"] (defScope s_added_in) := ⟨rfl, rfl, rfl, by decide +kernel, rfl, by decide +kernel, by decide +kernel⟩
theorem ok_added_in (F : Df K mg "added_in" s_added_in ["node", "low", "high", "by"]) (G_raised : Dn P w K mg base "raised" 2 ["node", "by"] spRaised) (G_parted : Dn P w K mg base "parted" 2 ["node"] spParted) (G_node_of : Dn P w K mg base "node_of" 1 ["left", "right", "by"] spNodeOf) :
    ∀ d, Dn P w K mg base "added_in" (d + 2 + 1) ["node", "low", "high", "by"] (spAddedIn d) :=
  def_rec 2 F sc_added_in (fun d vs H Q E ⟨_, _, _, _, _, e, _⟩ => by rw [e] <;> rfl) fun d ih f cdv A outer s H vs Q E hr h => by
    obtain ⟨a, t, lo, hi, by_, rfl, hT, hok, hd, q⟩ := h
    have hb := hok.room hd
    have hlen := hok.length
    obtain ⟨xb, x4, x5, hn⟩ := hT.tup

    refine sb_when (tx_w (wx_or (tx_ge (ex_var 1) (ex_var 2)) (fun z1 => wx_or (tx_le (ex_var 2) ex_i) (fun z2 => (wx_or1 (tx_ge (ex_var 1) (ex_ixT (ex_var 0) ex_i (SqT.of hn) rfl))))))) (fun c => ?_) (fun c => ?_)
    · have c : hi ≤ lo ∨ hi ≤ 0 ∨ t.many ≤ lo := by simpa using c
      refine sb_retI (ex_var 0) fun H2 x => q _ _ x ⟨t, ⟨a, rfl, hT.ex x⟩, hok, ?_⟩
      rw [chg_none _ _ _ (by omega)]
    have c : ¬ (hi ≤ lo ∨ hi ≤ 0 ∨ t.many ≤ lo) := by simpa using c
    refine sb_when (tx_w (wx_and (tx_le (ex_var 1) ex_i) (fun z1 => (wx_and1 (tx_ge (ex_var 2) (ex_ixT (ex_var 0) ex_i (SqT.of hn) rfl)))))) (fun c2 => ?_) (fun c2 => ?_)
    · have c2 : lo ≤ 0 ∧ t.many ≤ hi := by simpa using c2
      rw [chg_all _ _ _ c2.1 (by omega)] at q
      exact sb_ret (ex_call G_raised hr (av_cons (ex_var 0) (av_cons (ex_var 3) av_nil)) (fun H1 Q x q => ⟨_, t, d, by_, rfl, hT.ex x, hok, hd, q⟩)) q
    have c2 : ¬ (lo ≤ 0 ∧ t.many ≤ hi) := by simpa using c2
    -- a node with parts that bears the same row
    have go : ∀ (l r : T) (b : Int) (H2 : Hp) (a2 : Addr), Ex H H2 → IsT H2 a2 (.node l r b) → (T.node l r b).Ok d → (T.node l r b).row = t.row →
        SB (cxOf (L2.CX P w) P w K mg base ["node", "low", "high", "by", "half"] "added_in" (defScope s_added_in) f cdv A outer s H E) ((defBody s_added_in).drop 3) { nx := fun _ H' => Q .non H', rt := Q } [some (.ref a2), some (.int lo), some (.int hi), some (.int by_), none] H2 := by
      intro l r b H2 a2 x2 hT2 hok2 hrow
      obtain ⟨p, p', hn, hL, hR⟩ := hT2
      obtain ⟨_, _, _, hl⟩ := hL.tup
      cases d with
      | zero => exact hok2.elim
      | succ d =>
      have G_added_in := ih d rfl
      have hb2 := hok2.room hd

      refine sb_set 4 sc_added_in.nd (ex_ixT (ex_ixT (ex_var 0) ex_i (SqT.of hn) rfl) ex_i (SqT.of hl) rfl) ?_
      rw [← hrow, chg_node (g := fun x => x + by_) (fun x => by omega) hok2] at q
      refine sb_ret (R := Of (TrR (d + 1) ((chg (fun x => x + by_) l.row lo hi ++ chg (fun x => x + by_) r.row (lo - l.many) (hi - l.many)).map fun x => x + b))) (ex_callx G_node_of hr (ax_cons (ex_call G_added_in hr (av_cons (ex_ixT (ex_var 0) ex_i (SqT.of hn) rfl) (av_cons (ex_var 1) (av_cons (ex_var 2) (av_cons (ex_var 3) av_nil)))) (fun H1 Q x q => ⟨_, l, lo, hi, by_, rfl, hL.ex x, hok2.1, by omega, q⟩)) (ax_cons (ex_call G_added_in hr (av_cons (ex_ixT (ex_var 0) ex_i (SqT.of hn) rfl) (av_cons (ex_sub (ex_var 1) (ex_var 4)) (av_cons (ex_sub (ex_var 2) (ex_var 4)) (av_cons (ex_var 3) av_nil)))) (fun H1 Q x q => ⟨_, r, _, _, by_, rfl, hR.ex x, hok2.2.1, by omega, q⟩)) (ax_cons (ex_ixT (ex_var 0) ex_i (SqT.of hn) rfl) ax_nil))) ?_) (q.up x2)
      intro vs H1 Q x hv q
      obtain ⟨u, _, rfl, ⟨t1, ⟨p1, rfl, h1⟩, k1, w1⟩, u2, _, rfl, ⟨t2, ⟨p2, rfl, h2⟩, k2, w2⟩, u3, _, rfl, rfl, rfl⟩ := hv
      have m1 : t1.many = l.many := by rw [← k1.length, w1, chg_length, hok2.1.length]
      have m2 : t2.many = r.many := by rw [← k2.length, w2, chg_length, hok2.2.1.length]
      exact ⟨p1, p2, t1, t2, b, rfl, h1, h2, by rw [m1, m2]; exact hb2, fun u H3 y z => q u H3 y ⟨_, z, ⟨k1, k2, by rw [m1]; exact hok2.2.2.1, by rw [m2]; exact hok2.2.2.2⟩, by
        show (t1.row ++ t2.row).map (fun x => x + b) = _
        rw [w1, w2]⟩⟩
    cases t with
    | leaf n v =>
      have hk := T.ok_leaf.mp hok
      have e1 : (T.leaf n v).many = n := rfl
      obtain ⟨d', ed, hk2⟩ := parted_ok hok (by omega)
      refine sb_asg (R := Of (Tr (.node (.leaf (n / 2) v) (.leaf (n - n / 2) v) 0))) 0 sc_added_in.nd (ex_call G_parted hr (av_cons (ex_var 0) av_nil) (fun H1 Q x q => ⟨_, .leaf n v, rfl, hT.ex x, hb, fun _ _ _ z => (by cases z), fun n' v' z => by injection z with z1 z2; subst z1 z2; exact ⟨by omega, q⟩⟩)) fun u H2 x z => ?_
      obtain ⟨a2, rfl, hT2⟩ := z
      exact go _ _ _ H2 a2 x hT2 (by rw [ed]; exact hk2) (row_parted hk.1)
    | node l r b =>
      refine sb_asg (R := Of (Tr (.node l r b))) 0 sc_added_in.nd (ex_call G_parted hr (av_cons (ex_var 0) av_nil) (fun H1 Q x q => ⟨_, .node l r b, rfl, hT.ex x, hb, fun _ _ _ z => q, fun n' v' z => by cases z⟩)) fun u H2 x z => ?_
      obtain ⟨a2, rfl, hT2⟩ := z
      exact go l r b H2 a2 x hT2 hok rfl

abbrev s_filled_in : Stmt := topS 17
theorem sc_filled_in : FnScope ["node", "low", "high", "number", "half"] ["node", "low", "high", "number"] (defScope s_filled_in) := ⟨rfl, rfl, rfl, by decide +kernel, rfl, by decide +kernel, by decide +kernel⟩
theorem ok_filled_in (F : Df K mg "filled_in" s_filled_in ["node", "low", "high", "number"]) (G_even_node : Dn P w K mg base "even_node" 1 ["many", "number"] spEvenNode) (G_parted : Dn P w K mg base "parted" 2 ["node"] spParted) (G_node_of : Dn P w K mg base "node_of" 1 ["left", "right", "by"] spNodeOf) :
    ∀ d, Dn P w K mg base "filled_in" (d + 2 + 1) ["node", "low", "high", "number"] (spFilledIn d) :=
  def_rec 2 F sc_filled_in (fun d vs H Q E ⟨_, _, _, _, _, e, _⟩ => by rw [e] <;> rfl) fun d ih f cdv A outer s H vs Q E hr h => by
    obtain ⟨a, t, lo, hi, by_, rfl, hT, hok, hd, q⟩ := h
    have hb := hok.room hd
    have hlen := hok.length
    obtain ⟨xb, x4, x5, hn⟩ := hT.tup

    refine sb_when (tx_w (wx_or (tx_ge (ex_var 1) (ex_var 2)) (fun z1 => wx_or (tx_le (ex_var 2) ex_i) (fun z2 => (wx_or1 (tx_ge (ex_var 1) (ex_ixT (ex_var 0) ex_i (SqT.of hn) rfl))))))) (fun c => ?_) (fun c => ?_)
    · have c : hi ≤ lo ∨ hi ≤ 0 ∨ t.many ≤ lo := by simpa using c
      refine sb_retI (ex_var 0) fun H2 x => q _ _ x ⟨t, ⟨a, rfl, hT.ex x⟩, hok, ?_⟩
      rw [chg_none _ _ _ (by omega)]
    have c : ¬ (hi ≤ lo ∨ hi ≤ 0 ∨ t.many ≤ lo) := by simpa using c
    refine sb_when (tx_w (wx_and (tx_le (ex_var 1) ex_i) (fun z1 => (wx_and1 (tx_ge (ex_var 2) (ex_ixT (ex_var 0) ex_i (SqT.of hn) rfl)))))) (fun c2 => ?_) (fun c2 => ?_)
    · have c2 : lo ≤ 0 ∧ t.many ≤ hi := by simpa using c2
      rw [chg_all _ _ _ c2.1 (by omega)] at q
      exact sb_ret (R := Of (Tr (.leaf t.many by_))) (ex_call G_even_node hr (av_cons (ex_ixT (ex_var 0) ex_i (SqT.of hn) rfl) (av_cons (ex_var 3) av_nil)) (fun H1 Q x q => ⟨_, _, rfl, hb, q⟩)) fun u H2 x r => q u H2 x ⟨_, r, T.ok_leaf.mpr ⟨hok.many0, hok.many_le⟩, row_leaf_filled hlen⟩
    have c2 : ¬ (lo ≤ 0 ∧ t.many ≤ hi) := by simpa using c2
    -- a node with parts that bears the same row
    have go : ∀ (l r : T) (b : Int) (H2 : Hp) (a2 : Addr), Ex H H2 → IsT H2 a2 (.node l r b) → (T.node l r b).Ok d → (T.node l r b).row = t.row →
        SB (cxOf (L2.CX P w) P w K mg base ["node", "low", "high", "number", "half"] "filled_in" (defScope s_filled_in) f cdv A outer s H E) ((defBody s_filled_in).drop 3) { nx := fun _ H' => Q .non H', rt := Q } [some (.ref a2), some (.int lo), some (.int hi), some (.int by_), none] H2 := by
      intro l r b H2 a2 x2 hT2 hok2 hrow
      obtain ⟨p, p', hn, hL, hR⟩ := hT2
      obtain ⟨_, _, _, hl⟩ := hL.tup
      cases d with
      | zero => exact hok2.elim
      | succ d =>
      have G_filled_in := ih d rfl
      have hb2 := hok2.room hd

      refine sb_set 4 sc_filled_in.nd (ex_ixT (ex_ixT (ex_var 0) ex_i (SqT.of hn) rfl) ex_i (SqT.of hl) rfl) ?_
      refine sb_set 3 sc_filled_in.nd (ex_sub (ex_var 3) (ex_ixT (ex_var 0) ex_i (SqT.of hn) rfl)) ?_
      rw [← hrow, chg_node (g := fun _ => by_ - b) (fun x => by omega) hok2] at q
      refine sb_ret (R := Of (TrR (d + 1) ((chg (fun _ => by_ - b) l.row lo hi ++ chg (fun _ => by_ - b) r.row (lo - l.many) (hi - l.many)).map fun x => x + b))) (ex_callx G_node_of hr (ax_cons (ex_call G_filled_in hr (av_cons (ex_ixT (ex_var 0) ex_i (SqT.of hn) rfl) (av_cons (ex_var 1) (av_cons (ex_var 2) (av_cons (ex_var 3) av_nil)))) (fun H1 Q x q => ⟨_, l, lo, hi, _, rfl, hL.ex x, hok2.1, by omega, q⟩)) (ax_cons (ex_call G_filled_in hr (av_cons (ex_ixT (ex_var 0) ex_i (SqT.of hn) rfl) (av_cons (ex_sub (ex_var 1) (ex_var 4)) (av_cons (ex_sub (ex_var 2) (ex_var 4)) (av_cons (ex_var 3) av_nil)))) (fun H1 Q x q => ⟨_, r, _, _, _, rfl, hR.ex x, hok2.2.1, by omega, q⟩)) (ax_cons (ex_ixT (ex_var 0) ex_i (SqT.of hn) rfl) ax_nil))) ?_) (q.up x2)
      intro vs H1 Q x hv q
      obtain ⟨u, _, rfl, ⟨t1, ⟨p1, rfl, h1⟩, k1, w1⟩, u2, _, rfl, ⟨t2, ⟨p2, rfl, h2⟩, k2, w2⟩, u3, _, rfl, rfl, rfl⟩ := hv
      have m1 : t1.many = l.many := by rw [← k1.length, w1, chg_length, hok2.1.length]
      have m2 : t2.many = r.many := by rw [← k2.length, w2, chg_length, hok2.2.1.length]
      exact ⟨p1, p2, t1, t2, b, rfl, h1, h2, by rw [m1, m2]; exact hb2, fun u H3 y z => q u H3 y ⟨_, z, ⟨k1, k2, by rw [m1]; exact hok2.2.2.1, by rw [m2]; exact hok2.2.2.2⟩, by
        show (t1.row ++ t2.row).map (fun x => x + b) = _
        rw [w1, w2]⟩⟩
    cases t with
    | leaf n v =>
      have hk := T.ok_leaf.mp hok
      have e1 : (T.leaf n v).many = n := rfl
      obtain ⟨d', ed, hk2⟩ := parted_ok hok (by omega)
      refine sb_asg (R := Of (Tr (.node (.leaf (n / 2) v) (.leaf (n - n / 2) v) 0))) 0 sc_filled_in.nd (ex_call G_parted hr (av_cons (ex_var 0) av_nil) (fun H1 Q x q => ⟨_, .leaf n v, rfl, hT.ex x, hb, fun _ _ _ z => (by cases z), fun n' v' z => by injection z with z1 z2; subst z1 z2; exact ⟨by omega, q⟩⟩)) fun u H2 x z => ?_
      obtain ⟨a2, rfl, hT2⟩ := z
      exact go _ _ _ H2 a2 x hT2 (by rw [ed]; exact hk2) (row_parted hk.1)
    | node l r b =>
      refine sb_asg (R := Of (Tr (.node l r b))) 0 sc_filled_in.nd (ex_call G_parted hr (av_cons (ex_var 0) av_nil) (fun H1 Q x q => ⟨_, .node l r b, rfl, hT.ex x, hb, fun _ _ _ z => q, fun n' v' z => by cases z⟩)) fun u H2 x z => ?_
      obtain ⟨a2, rfl, hT2⟩ := z
      exact go l r b H2 a2 x hT2 hok rfl
def spNodeOfRow (K : PySem.W.Frag) (d : Nat) : Sp := fun vs H Q _ => ∃ (a : Addr) (xs : List Int), vs = [.ref a] ∧ SqL K H a (xs.map V.int) ∧ 1 ≤ xs.length ∧ xs.length ≤ 2 ^ d ∧ d ≤ 60 ∧ Gives (Of (TrR d xs)) H Q
theorem cutV_lo {xs : List Int} {k : Int} (h0 : 0 ≤ k) (h : k ≤ (xs.length : Int)) : cutV (xs.map V.int) none (some k) = (xs.take k.toNat).map V.int := by
  unfold cutV
  rw [HT.sIx_none, show k = ((k.toNat : Nat) : Int) by omega, HT.sIx_nat, List.drop_zero, List.length_map, Nat.min_eq_left (by omega), Nat.sub_zero, List.map_take]
  rfl
theorem cutV_hi {xs : List Int} {k : Int} (h0 : 0 ≤ k) (h : k ≤ (xs.length : Int)) : cutV (xs.map V.int) (some k) none = (xs.drop k.toNat).map V.int := by
  unfold cutV
  rw [HT.sIx_none, show k = ((k.toNat : Nat) : Int) by omega, HT.sIx_nat, List.length_map, Nat.min_eq_left (by omega), ← List.map_drop, List.take_of_length_le (by rw [List.length_map, List.length_drop]; exact Nat.le_refl _)]
  rfl
theorem cutV_cut {xs : List Int} {lo hi : Int} (h0 : 0 ≤ lo) (h1 : lo ≤ hi) (h2 : hi ≤ (xs.length : Int)) : cutV (xs.map V.int) (some lo) (some hi) = (cut xs lo hi).map V.int := by
  unfold cutV cut
  rw [show lo = ((lo.toNat : Nat) : Int) by omega, show hi = ((hi.toNat : Nat) : Int) by omega, HT.sIx_nat, HT.sIx_nat, List.length_map, Nat.min_eq_left (by omega), Nat.min_eq_left (by omega), ← List.map_drop, ← List.map_take]
  rfl

abbrev s_node_of_row : Stmt := topS 9
theorem sc_node_of_row : FnScope ["row", "half"] ["row"] (defScope s_node_of_row) := ⟨rfl, rfl, rfl, by decide +kernel, rfl, by decide +kernel, by decide +kernel⟩
theorem ok_node_of_row (B : Bt mg) (F : Df K mg "node_of_row" s_node_of_row ["row"]) (G_even_node : Dn P w K mg base "even_node" 1 ["many", "number"] spEvenNode) (G_node_of : Dn P w K mg base "node_of" 1 ["left", "right", "by"] spNodeOf) :
    ∀ d, Dn P w K mg base "node_of_row" (d + 1 + 1) ["row"] (spNodeOfRow K d) :=
  def_rec 1 F sc_node_of_row (fun d vs H Q E ⟨_, _, e, _⟩ => by rw [e] <;> rfl) fun d ih f cdv A outer s H vs Q E hr h => by
    obtain ⟨a, xs, rfl, hS, h1, h2, hd, q⟩ := h
    have hl : ((xs.map V.int).length : Int) = (xs.length : Int) := by rw [List.length_map]

    refine sb_when (TX.is (tx_eqI (ex_len B.len (av_cons (ex_var 0) av_nil) (hS)) ex_i) (by rw [hl])) (fun c => ?_) (fun c => ?_)
    · have c := of_decide_eq_true c
      match xs, c with
      | [x], _ =>
        refine sb_ret (R := Of (Tr (.leaf 1 x))) (ex_call G_even_node hr (av_cons ex_i (av_cons (ex_ixL (ex_var 0) ex_i (hS) rfl) av_nil)) (fun H1 Q x q => ⟨_, _, rfl, by omega, q⟩)) fun u H2 x r => q u H2 x ⟨_, r, T.ok_leaf.mpr ⟨by omega, by have := pow2_pos d; omega⟩, rfl⟩
    have c := of_decide_eq_false c
    refine sb_set 1 sc_node_of_row.nd (EX.is (ex_fdiv (ex_len B.len (av_cons (ex_var 0) av_nil) (hS)) ex_i ⟨by decide, by decide⟩) (by rw [hl])) ?_
    cases d with
    | zero => exact absurd h2 (by simp; omega)
    | succ d =>
    have G_node_of_row := ih d rfl
    have hp : 2 ^ (d + 1) = 2 * 2 ^ d := by rw [Nat.pow_succ]; omega
    have e1 : cutV (xs.map V.int) none (some ((xs.length : Int) / 2)) = _ := cutV_lo (by omega) (by omega)
    have e2 : cutV (xs.map V.int) (some ((xs.length : Int) / 2)) none = _ := cutV_hi (by omega) (by omega)
    have l1 : (xs.take ((xs.length : Int) / 2).toNat).length = xs.length / 2 := by rw [List.length_take]; omega
    have l2 : (xs.drop ((xs.length : Int) / 2).toNat).length = xs.length - xs.length / 2 := by rw [List.length_drop]; omega
    have pz : (xs.length : Nat) ≤ 2 ^ 64 - 1 := by
      have := Nat.pow_le_pow_right (n := 2) (by decide) (show d + 1 ≤ 60 from hd)
      have h60 : (2 : Nat) ^ 60 ≤ 2 ^ 64 - 1 := by decide
      omega
    refine sb_ret (R := Of (TrR (d + 1) xs)) (ex_callx G_node_of hr (ax_cons (ex_callx G_node_of_row hr (ax_cons (ex_slice (ex_var 0) ox_none (ox_some (ex_var 1)) (hS)) ax_nil) (fun vs H1 Q x hv q => by
      obtain ⟨u, _, rfl, ⟨p, rfl, _, hp'⟩, rfl⟩ := hv
      rw [e1] at hp'
      exact ⟨p, _, rfl, SqL.of hp', by rw [l1]; omega, by rw [l1]; omega, by omega, q⟩)) (ax_cons (ex_callx G_node_of_row hr (ax_cons (ex_slice (ex_var 0) (ox_some (ex_var 1)) ox_none (hS)) ax_nil) (fun vs H1 Q x hv q => by
      obtain ⟨u, _, rfl, ⟨p, rfl, _, hp'⟩, rfl⟩ := hv
      rw [e2] at hp'
      exact ⟨p, _, rfl, SqL.of hp', by rw [l2]; omega, by rw [l2]; omega, by omega, q⟩)) (ax_cons ex_i ax_nil))) ?_) q
    intro vs H1 Q x hv q
    obtain ⟨u, _, rfl, ⟨t1, ⟨p1, rfl, g1⟩, k1, w1⟩, u2, _, rfl, ⟨t2, ⟨p2, rfl, g2⟩, k2, w2⟩, u3, _, rfl, rfl, rfl⟩ := hv
    have m1 : t1.many = ((xs.length / 2 : Nat) : Int) := by rw [← k1.length, w1, l1]
    have m2 : t2.many = ((xs.length - xs.length / 2 : Nat) : Int) := by rw [← k2.length, w2, l2]
    exact ⟨p1, p2, t1, t2, 0, rfl, g1, g2, by rw [m1, m2]; omega, fun u H3 y z => q u H3 y ⟨_, z, ⟨k1, k2, by rw [m1]; omega, by rw [m2]; omega⟩, by
      show (t1.row ++ t2.row).map (fun x => x + 0) = _
      rw [w1, w2, List.take_append_drop]
      simp⟩⟩
/-! ### the interface: a book is what bears its row -/
abbrev Bk (xs : List Int) : Hp → V → Prop := TrR 40 xs
/-- a stretch lies in the row -/
def Lies (xs : List Int) (lo hi : Int) : Prop := 0 ≤ lo ∧ lo ≤ hi ∧ hi ≤ (xs.length : Int)
instance (xs : List Int) (lo hi : Int) : Decidable (Lies xs lo hi) := by unfold Lies; infer_instance
theorem TrR.ex {d : Nat} {xs : List Int} {H H' : Hp} {v : V} (h : TrR d xs H v) (x : Ex H H') : TrR d xs H' v := PM.m x h
theorem TrR.tx {d : Nat} {xs : List Int} {H H' : Hp} {v : V} (h : TrR d xs H v) (x : Tx H H') : TrR d xs H' v := by
  obtain ⟨t, ⟨a, h1, h2⟩, h3, h4⟩ := h
  exact ⟨t, ⟨a, h1, h2.tx x⟩, h3, h4⟩
def spMade (K : PySem.W.Frag) (CR : Addr) : Sp := fun vs H Q E => ∃ (a : Addr) (xs : List Int), vs = [.ref a] ∧ SqL K H a (xs.map V.int) ∧ (xs.length ≤ 1000 → Gives (Of (Bk xs)) H Q) ∧ (1000 < xs.length → Rz CR H E)
def spEven (CR : Addr) : Sp := fun vs H Q E => ∃ n v : Int, vs = [.int n, .int v] ∧ (0 ≤ n ∧ n ≤ 10 ^ 12 → Gives (Of (Bk (List.replicate n.toNat v))) H Q) ∧ (n < 0 ∨ 10 ^ 12 < n → Rz CR H E)
def spLength : Sp := fun vs H Q _ => ∃ (v : V) (xs : List Int), vs = [v] ∧ Bk xs H v ∧ Gives (Is (.int (xs.length : Int))) H Q
def spCheck (CO : Addr) : Sp := fun vs H Q E => ∃ (v : V) (xs : List Int) (lo hi : Int), vs = [v, .int lo, .int hi] ∧ Bk xs H v ∧ (Lies xs lo hi → Gives (Is .non) H Q) ∧ (¬ Lies xs lo hi → Rz CO H E)
def spListed (CO CT : Addr) : Sp := fun vs H Q E => ∃ (v : V) (xs : List Int) (lo hi : Int), vs = [v, .int lo, .int hi] ∧ Bk xs H v ∧ (Lies xs lo hi → hi - lo ≤ 1000 → Gives (NL ((cut xs lo hi).map V.int)) H Q) ∧ (Lies xs lo hi → 1000 < hi - lo → Rz CT H E) ∧ (¬ Lies xs lo hi → Rz CO H E)
def spTotal (CO : Addr) : Sp := fun vs H Q E => ∃ (v : V) (xs : List Int) (lo hi : Int), vs = [v, .int lo, .int hi] ∧ Bk xs H v ∧ (Lies xs lo hi → Gives (Is (.int (cut xs lo hi).sum)) H Q) ∧ (¬ Lies xs lo hi → Rz CO H E)
def spLeast (CO CN : Addr) : Sp := fun vs H Q E => ∃ (v : V) (xs : List Int) (lo hi : Int), vs = [v, .int lo, .int hi] ∧ Bk xs H v ∧ (Lies xs lo hi → lo < hi → ∀ m, IsMin m (cut xs lo hi) → Gives (Is (.int m)) H Q) ∧ (Lies xs lo hi → lo = hi → Rz CN H E) ∧ (¬ Lies xs lo hi → Rz CO H E)
def spPlace (CO CN : Addr) : Sp := fun vs H Q E => ∃ (v : V) (xs : List Int) (lo hi : Int), vs = [v, .int lo, .int hi] ∧ Bk xs H v ∧ (Lies xs lo hi → lo < hi → ∀ m, IsMin m (cut xs lo hi) → Gives (Is (optV (fst xs lo m))) H Q) ∧ (Lies xs lo hi → lo = hi → Rz CN H E) ∧ (¬ Lies xs lo hi → Rz CO H E)
def spFirst (CO : Addr) : Sp := fun vs H Q E => ∃ (v : V) (xs : List Int) (lo bd : Int), vs = [v, .int lo, .int bd] ∧ Bk xs H v ∧ (0 ≤ lo ∧ lo ≤ (xs.length : Int) → Gives (Is (optV (fst xs lo bd))) H Q) ∧ (lo < 0 ∨ (xs.length : Int) < lo → Rz CO H E)
def spAdded (CO : Addr) : Sp := fun vs H Q E => ∃ (v : V) (xs : List Int) (lo hi b : Int), vs = [v, .int lo, .int hi, .int b] ∧ Bk xs H v ∧ (Lies xs lo hi → Gives (Of (Bk (chg (fun x => x + b) xs lo hi))) H Q) ∧ (¬ Lies xs lo hi → Rz CO H E)
def spFilled (CO : Addr) : Sp := fun vs H Q E => ∃ (v : V) (xs : List Int) (lo hi b : Int), vs = [v, .int lo, .int hi, .int b] ∧ Bk xs H v ∧ (Lies xs lo hi → Gives (Of (Bk (chg (fun _ => b) xs lo hi))) H Q) ∧ (¬ Lies xs lo hi → Rz CO H E)
/-- what the book at v is, told by its top tuple -/
theorem Bk.tup {xs : List Int} {H : Hp} {v : V} (h : Bk xs H v) : ∃ (a : Addr) (t : T) (b x y : V), v = .ref a ∧ IsT H a t ∧ t.Ok 40 ∧ t.row = xs ∧ t.many = (xs.length : Int) ∧ H a = some (.tup [.int (xs.length : Int), .int t.total, .int t.least, b, x, y]) := by
  obtain ⟨t, ⟨a, rfl, hT⟩, hok, rfl⟩ := h
  obtain ⟨b, x, y, e⟩ := hT.tup
  refine ⟨a, t, b, x, y, rfl, hT, hok, rfl, hok.length.symm, ?_⟩
  rw [hok.length]
  exact e


abbrev s_made : Stmt := topS 21
theorem sc_made : FnScope ["numbers"] ["numbers"] (defScope s_made) := ⟨rfl, rfl, rfl, by decide +kernel, rfl, by decide +kernel, by decide +kernel⟩
theorem ok_made {CR : Addr} (B : Bt mg) (g_MOST_LISTED : Gi mg "MOST_LISTED" 1000) (eR : Ec K mg "NoRow" CR) (F : Df K mg "made" s_made ["numbers"]) (G_even_node : Dn P w K mg base "even_node" 1 ["many", "number"] spEvenNode) (G_node_of_row : Dn P w K mg base "node_of_row" 12 ["row"] (spNodeOfRow K 10)) :
    Dn P w K mg base "made" 13 ["numbers"] (spMade K CR) :=
  def_ok F sc_made (fun vs H Q E ⟨_, _, e, _⟩ => by rw [e] <;> rfl) fun f cdv A outer s H vs Q E hr h => by
    obtain ⟨a, xs, rfl, hS, q1, q2⟩ := h
    have hl : ((xs.map V.int).length : Int) = (xs.length : Int) := by rw [List.length_map]

    refine sb_when (TX.is (tx_gt (ex_len B.len (av_cons (ex_var 0) av_nil) (hS)) (ex_globI g_MOST_LISTED)) (by rw [hl])) (fun c => ?_) (fun c => ?_)
    · have c := of_decide_eq_true c
      exact sb_raise (takes_of rfl rfl rfl rfl) eR fun H' x => q2 (by omega) H' x
    have c := of_decide_eq_false c
    have q := q1 (by omega)
    refine sb_when (TX.is (tx_eqI (ex_len B.len (av_cons (ex_var 0) av_nil) (hS)) ex_i) (by rw [hl])) (fun c => ?_) (fun c => ?_)
    · have c := of_decide_eq_true c
      have e : xs = [] := List.length_eq_zero_iff.mp (by omega)
      exact sb_ret (R := Of (Tr (.leaf 0 0))) (ex_call G_even_node hr (av_cons ex_i (av_cons ex_i av_nil)) (fun H1 Q x q => ⟨_, _, rfl, by omega, q⟩)) fun u H2 x r => q u H2 x ⟨_, r, T.ok_leaf.mpr ⟨by omega, by decide⟩, by rw [e]; rfl⟩
    have c := of_decide_eq_false c
    exact sb_ret (R := Of (TrR 10 xs)) (ex_call G_node_of_row hr (av_cons (ex_var 0) av_nil) (fun H1 Q x q => ⟨_, xs, rfl, x.l hS, by omega, by show xs.length ≤ 1024; omega, by omega, q⟩)) fun u H2 x ⟨t, r, k, e⟩ => q u H2 x ⟨t, r, k.le (by omega), e⟩

abbrev s_even : Stmt := topS 22
theorem sc_even : FnScope ["many", "number"] ["many", "number"] (defScope s_even) := ⟨rfl, rfl, rfl, by decide +kernel, rfl, by decide +kernel, by decide +kernel⟩
theorem ok_even {CR : Addr} (g_MOST_PLACES : Gi mg "MOST_PLACES" (10 ^ 12)) (eR : Ec K mg "NoRow" CR) (F : Df K mg "even" s_even ["many", "number"]) (G_even_node : Dn P w K mg base "even_node" 1 ["many", "number"] spEvenNode) :
    Dn P w K mg base "even" 2 ["many", "number"] (spEven CR) :=
  def_ok F sc_even (fun vs H Q E ⟨_, _, e, _⟩ => by rw [e] <;> rfl) fun f cdv A outer s H vs Q E hr h => by
    obtain ⟨n, v, rfl, q1, q2⟩ := h
    refine sb_when (tx_w (wx_or (tx_lt (ex_var 0) ex_i) (fun z1 => (wx_or1 (tx_gt (ex_var 0) (ex_globI g_MOST_PLACES)))))) (fun c => ?_) (fun c => ?_)
    · have c : n < 0 ∨ 10 ^ 12 < n := by simpa using c
      exact sb_raise (takes_of rfl rfl rfl rfl) eR fun H' x => q2 c H' x
    have c : ¬ (n < 0 ∨ 10 ^ 12 < n) := by simpa using c
    have q := q1 (by omega)
    have hok : (T.leaf n v).Ok 40 := T.ok_leaf.mpr ⟨by omega, by
      have : (10 : Int) ^ 12 ≤ 2 ^ 40 := by decide
      omega⟩
    exact sb_ret (R := Of (Tr (.leaf n v))) (ex_call G_even_node hr (av_cons (ex_var 0) (av_cons (ex_var 1) av_nil)) (fun H1 Q x q => ⟨_, _, rfl, by omega, q⟩)) fun u H2 x r => q u H2 x ⟨_, r, hok, rfl⟩

abbrev s_length : Stmt := topS 23
theorem sc_length : FnScope ["book"] ["book"] (defScope s_length) := ⟨rfl, rfl, rfl, by decide +kernel, rfl, by decide +kernel, by decide +kernel⟩
theorem ok_length (F : Df K mg "length" s_length ["book"]) : Dn P w K mg base "length" 1 ["book"] spLength :=
  def_ok F sc_length (fun vs H Q E ⟨_, _, e, _⟩ => by rw [e] <;> rfl) fun f cdv A outer s H vs Q E hr h => by
    obtain ⟨v, xs, rfl, hB, q⟩ := h
    obtain ⟨a, t, b, x, y, rfl, hT, hok, hrow, hm, hn⟩ := hB.tup

    exact sb_ret (ex_ixT (ex_var 0) ex_i (SqT.of hn) rfl) q

abbrev s_check_stretch : Stmt := topS 24
theorem sc_check_stretch : FnScope ["book", "low", "high"] ["book", "low", "high"] (defScope s_check_stretch) := ⟨rfl, rfl, rfl, by decide +kernel, rfl, by decide +kernel, by decide +kernel⟩
theorem ok_check_stretch {CO : Addr} (eO : Ec K mg "OutOfRow" CO) (F : Df K mg "check_stretch" s_check_stretch ["book", "low", "high"]) : Dn P w K mg base "check_stretch" 1 ["book", "low", "high"] (spCheck CO) :=
  def_ok F sc_check_stretch (fun vs H Q E ⟨_, _, _, _, e, _⟩ => by rw [e] <;> rfl) fun f cdv A outer s H vs Q E hr h => by
    obtain ⟨v, xs, lo, hi, rfl, hB, q1, q2⟩ := h
    obtain ⟨a, t, b, x, y, rfl, hT, hok, hrow, hm, hn⟩ := hB.tup

    refine sb_when (tx_w (wx_or (tx_lt (ex_var 1) ex_i) (fun z1 => wx_or (tx_lt (ex_var 2) (ex_var 1)) (fun z2 => (wx_or1 (tx_gt (ex_var 2) (ex_ixT (ex_var 0) ex_i (SqT.of hn) rfl))))))) (fun c => ?_) (fun c => ?_)
    · have c : lo < 0 ∨ hi < lo ∨ (xs.length : Int) < hi := by simpa using c
      exact sb_raise (takes_of rfl rfl rfl rfl) eO fun H' x => q2 (by unfold Lies; omega) H' x
    · have c : ¬ (lo < 0 ∨ hi < lo ∨ (xs.length : Int) < hi) := by simpa using c
      exact sb_nil fun H' x => q1 (by unfold Lies; omega) _ H' x rfl

abbrev s_listed : Stmt := topS 25
theorem sc_listed : FnScope ["book", "low", "high"] ["book", "low", "high"] (defScope s_listed) := ⟨rfl, rfl, rfl, by decide +kernel, rfl, by decide +kernel, by decide +kernel⟩
theorem ok_listed {CO CT : Addr} (g_MOST_LISTED : Gi mg "MOST_LISTED" 1000) (eT : Ec K mg "TooMany" CT) (F : Df K mg "listed" s_listed ["book", "low", "high"]) (G_check_stretch : Dn P w K mg base "check_stretch" 1 ["book", "low", "high"] (spCheck CO)) (G_listed_in : Dn P w K mg base "listed_in" 41 ["node", "low", "high", "by"] (spListedIn 40)) :
    Dn P w K mg base "listed" 42 ["book", "low", "high"] (spListed CO CT) :=
  def_ok F sc_listed (fun vs H Q E ⟨_, _, _, _, e, _⟩ => by rw [e] <;> rfl) fun f cdv A outer s H vs Q E hr h => by
    obtain ⟨v, xs, lo, hi, rfl, hB, q1, q2, q3⟩ := h
    by_cases c : Lies xs lo hi
    · refine sb_expr (R := Is .non) (ex_callX (passes_call (takes_of rfl rfl rfl rfl) (fun _ _ _ _ h => h)) G_check_stretch hr (av_cons (ex_var 0) (av_cons (ex_var 1) (av_cons (ex_var 2) av_nil))) (fun H1 Q x q => ⟨_, xs, lo, hi, rfl, hB.ex x, fun _ => q, fun n => absurd c n⟩)) fun u H2 x2 _ => ?_
      obtain ⟨a, t, b, x, y, rfl, hT, hok, hrow, hm, hn⟩ := hB.tup
      refine sb_when (tx_gt (ex_sub (ex_var 2) (ex_var 1)) (ex_globI g_MOST_LISTED)) (fun c2 => ?_) (fun c2 => ?_)
      · have c2 := of_decide_eq_true c2
        exact sb_raise (takes_of rfl rfl rfl rfl) eT fun H' x => q2 c c2 H' (x2.trans x)
      have c2 := of_decide_eq_false c2
      have e : ((cut t.row lo hi).map fun x => V.int (x + 0)) = (cut xs lo hi).map V.int := by
        rw [hrow]
        simp
      exact sb_ret (R := NL ((cut xs lo hi).map V.int)) (ex_call G_listed_in hr (av_cons (ex_var 0) (av_cons (ex_var 1) (av_cons (ex_var 2) (av_cons ex_i av_nil)))) (fun H1 Q x q => ⟨a, t, lo, hi, 0, rfl, hT.ex (x2.trans x), hok, c.1, by rw [hm]; exact c.2.2, by omega, by rw [e]; exact q⟩)) ((q1 c (by omega)).up x2)
    · exact sb_expr (R := No) (ex_callX (passes_call (takes_of rfl rfl rfl rfl) (fun _ _ _ _ h => h)) G_check_stretch hr (av_cons (ex_var 0) (av_cons (ex_var 1) (av_cons (ex_var 2) av_nil))) (fun H1 Q x q => ⟨_, xs, lo, hi, rfl, hB.ex x, fun n => absurd n c, fun _ => (q3 c).up x⟩)) fun u H2 x2 z => z.elim

abbrev s_total : Stmt := topS 27
theorem sc_total : FnScope ["book", "low", "high"] ["book", "low", "high"] (defScope s_total) := ⟨rfl, rfl, rfl, by decide +kernel, rfl, by decide +kernel, by decide +kernel⟩
theorem ok_total {CO : Addr} (F : Df K mg "total" s_total ["book", "low", "high"]) (G_check_stretch : Dn P w K mg base "check_stretch" 1 ["book", "low", "high"] (spCheck CO)) (G_total_in : Dn P w K mg base "total_in" 41 ["node", "low", "high"] (spTotalIn 40)) :
    Dn P w K mg base "total" 42 ["book", "low", "high"] (spTotal CO) :=
  def_ok F sc_total (fun vs H Q E ⟨_, _, _, _, e, _⟩ => by rw [e] <;> rfl) fun f cdv A outer s H vs Q E hr h => by
    obtain ⟨v, xs, lo, hi, rfl, hB, q1, q3⟩ := h
    by_cases c : Lies xs lo hi
    · refine sb_expr (R := Is .non) (ex_callX (passes_call (takes_of rfl rfl rfl rfl) (fun _ _ _ _ h => h)) G_check_stretch hr (av_cons (ex_var 0) (av_cons (ex_var 1) (av_cons (ex_var 2) av_nil))) (fun H1 Q x q => ⟨_, xs, lo, hi, rfl, hB.ex x, fun _ => q, fun n => absurd c n⟩)) fun u H2 x2 _ => ?_
      obtain ⟨a, t, b, x, y, rfl, hT, hok, hrow, hm, hn⟩ := hB.tup
      exact sb_ret (R := Is (.int (cut xs lo hi).sum)) (ex_call G_total_in hr (av_cons (ex_var 0) (av_cons (ex_var 1) (av_cons (ex_var 2) av_nil))) (fun H1 Q x q => ⟨a, t, lo, hi, rfl, hT.ex (x2.trans x), hok, by omega, c.1, by rw [hm]; exact c.2.2, by rw [hrow]; exact q⟩)) ((q1 c).up x2)
    · exact sb_expr (R := No) (ex_callX (passes_call (takes_of rfl rfl rfl rfl) (fun _ _ _ _ h => h)) G_check_stretch hr (av_cons (ex_var 0) (av_cons (ex_var 1) (av_cons (ex_var 2) av_nil))) (fun H1 Q x q => ⟨_, xs, lo, hi, rfl, hB.ex x, fun n => absurd n c, fun _ => (q3 c).up x⟩)) fun u H2 x2 z => z.elim

abbrev s_least : Stmt := topS 28
theorem sc_least : FnScope ["book", "low", "high"] ["book", "low", "high"] (defScope s_least) := ⟨rfl, rfl, rfl, by decide +kernel, rfl, by decide +kernel, by decide +kernel⟩
theorem ok_least {CO CN : Addr} (eN : Ec K mg "Nothing" CN) (F : Df K mg "least" s_least ["book", "low", "high"]) (G_check_stretch : Dn P w K mg base "check_stretch" 1 ["book", "low", "high"] (spCheck CO)) (G_least_in : Dn P w K mg base "least_in" 41 ["node", "low", "high"] (spLeastIn 40)) :
    Dn P w K mg base "least" 42 ["book", "low", "high"] (spLeast CO CN) :=
  def_ok F sc_least (fun vs H Q E ⟨_, _, _, _, e, _⟩ => by rw [e] <;> rfl) fun f cdv A outer s H vs Q E hr h => by
    obtain ⟨v, xs, lo, hi, rfl, hB, q1, q2, q3⟩ := h
    by_cases c : Lies xs lo hi
    · refine sb_expr (R := Is .non) (ex_callX (passes_call (takes_of rfl rfl rfl rfl) (fun _ _ _ _ h => h)) G_check_stretch hr (av_cons (ex_var 0) (av_cons (ex_var 1) (av_cons (ex_var 2) av_nil))) (fun H1 Q x q => ⟨_, xs, lo, hi, rfl, hB.ex x, fun _ => q, fun n => absurd c n⟩)) fun u H2 x2 _ => ?_
      obtain ⟨a, t, b, x, y, rfl, hT, hok, hrow, hm, hn⟩ := hB.tup
      refine sb_when (tx_eqI (ex_var 1) (ex_var 2)) (fun c2 => ?_) (fun c2 => ?_)
      · have c2 := of_decide_eq_true c2
        exact sb_raise (takes_of rfl rfl rfl rfl) eN fun H' x => q2 c c2 H' (x2.trans x)
      have c2 := of_decide_eq_false c2
      have c1 := c.2.1
      obtain ⟨m, hmin⟩ := isMin_ex (cut_ne c.1 (by omega) c.2.2)
      exact sb_ret (R := Is (.int m)) (ex_call G_least_in hr (av_cons (ex_var 0) (av_cons (ex_var 1) (av_cons (ex_var 2) av_nil))) (fun H1 Q x q => ⟨a, t, lo, hi, rfl, hT.ex (x2.trans x), hok, c.1, by omega, by rw [hm]; exact c.2.2, fun m' h' => by rw [hrow] at h'; rw [isMin_unique h' hmin]; exact q⟩)) ((q1 c (by omega) m hmin).up x2)
    · exact sb_expr (R := No) (ex_callX (passes_call (takes_of rfl rfl rfl rfl) (fun _ _ _ _ h => h)) G_check_stretch hr (av_cons (ex_var 0) (av_cons (ex_var 1) (av_cons (ex_var 2) av_nil))) (fun H1 Q x q => ⟨_, xs, lo, hi, rfl, hB.ex x, fun n => absurd n c, fun _ => (q3 c).up x⟩)) fun u H2 x2 z => z.elim

abbrev s_place : Stmt := topS 29
theorem sc_place : FnScope ["book", "low", "high"] ["book", "low", "high"] (defScope s_place) := ⟨rfl, rfl, rfl, by decide +kernel, rfl, by decide +kernel, by decide +kernel⟩
theorem ok_place {CO CN : Addr} (F : Df K mg "place" s_place ["book", "low", "high"]) (G_least : Dn P w K mg base "least" 42 ["book", "low", "high"] (spLeast CO CN)) (G_first_in : Dn P w K mg base "first_in" 41 ["node", "low", "bound"] (spFirstIn 40)) :
    Dn P w K mg base "place" 43 ["book", "low", "high"] (spPlace CO CN) :=
  def_ok F sc_place (fun vs H Q E ⟨_, _, _, _, e, _⟩ => by rw [e] <;> rfl) fun f cdv A outer s H vs Q E hr h => by
    obtain ⟨v, xs, lo, hi, rfl, hB, q1, q2, q3⟩ := h
    have hB0 := hB
    obtain ⟨a, t, b, x, y, rfl, hT, hok, hrow, hm, hn⟩ := hB.tup
    by_cases c : Lies xs lo hi
    · by_cases c2 : lo = hi

      · exact sb_ret (R := No) (ex_callx G_first_in hr (ax_cons (ex_var 0) (ax_cons (ex_var 1) (ax_cons (ex_callX (passes_call (takes_of rfl rfl rfl rfl) (fun _ _ _ _ h => h)) G_least hr (av_cons (ex_var 0) (av_cons (ex_var 1) (av_cons (ex_var 2) av_nil))) (Q' := No) (fun H1 Q x q => ⟨_, xs, lo, hi, rfl, hB0.ex x, fun _ n => absurd n (by omega), fun _ _ => (q2 c c2).up x, fun n => absurd c n⟩)) ax_nil))) (fun vs H1 Q x hv q => by obtain ⟨_, _, _, _, _, _, _, _, _, _, _, z, _⟩ := hv; exact z.elim)) fun u H2 x z => z.elim

      have c1 := c.2.1
      obtain ⟨m, hmin⟩ := isMin_ex (cut_ne c.1 (show lo < hi by omega) c.2.2)
      exact sb_ret (ex_call G_first_in hr (av_cons (ex_var 0) (av_cons (ex_var 1) (av_cons (ex_callX (passes_call (takes_of rfl rfl rfl rfl) (fun _ _ _ _ h => h)) G_least hr (av_cons (ex_var 0) (av_cons (ex_var 1) (av_cons (ex_var 2) av_nil))) (Q' := Is (.int m)) (fun H1 Q x q => ⟨_, xs, lo, hi, rfl, hB0.ex x, fun _ _ m' h' => by rw [isMin_unique h' hmin]; exact q, fun _ n => absurd n c2, fun n => absurd c n⟩)) av_nil))) (fun H1 Q x q => ⟨a, t, lo, m, rfl, hT.ex x, hok, c.1, by rw [hrow]; exact q⟩)) (q1 c (by omega) m hmin)

    · exact sb_ret (R := No) (ex_callx G_first_in hr (ax_cons (ex_var 0) (ax_cons (ex_var 1) (ax_cons (ex_callX (passes_call (takes_of rfl rfl rfl rfl) (fun _ _ _ _ h => h)) G_least hr (av_cons (ex_var 0) (av_cons (ex_var 1) (av_cons (ex_var 2) av_nil))) (Q' := No) (fun H1 Q x q => ⟨_, xs, lo, hi, rfl, hB0.ex x, fun n => absurd n c, fun n => absurd n c, fun _ => (q3 c).up x⟩)) ax_nil))) (fun vs H1 Q x hv q => by obtain ⟨_, _, _, _, _, _, _, _, _, _, _, z, _⟩ := hv; exact z.elim)) fun u H2 x z => z.elim


abbrev s_first : Stmt := topS 30
theorem sc_first : FnScope ["book", "low", "bound"] ["book", "low", "bound"] (defScope s_first) := ⟨rfl, rfl, rfl, by decide +kernel, rfl, by decide +kernel, by decide +kernel⟩
theorem ok_first {CO : Addr} (F : Df K mg "first" s_first ["book", "low", "bound"]) (G_check_stretch : Dn P w K mg base "check_stretch" 1 ["book", "low", "high"] (spCheck CO)) (G_first_in : Dn P w K mg base "first_in" 41 ["node", "low", "bound"] (spFirstIn 40)) :
    Dn P w K mg base "first" 42 ["book", "low", "bound"] (spFirst CO) :=
  def_ok F sc_first (fun vs H Q E ⟨_, _, _, _, e, _⟩ => by rw [e] <;> rfl) fun f cdv A outer s H vs Q E hr h => by
    obtain ⟨v, xs, lo, bd, rfl, hB, q1, q3⟩ := h
    have hB0 := hB
    obtain ⟨a, t, b, x, y, rfl, hT, hok, hrow, hm, hn⟩ := hB.tup

    by_cases c : Lies xs lo (xs.length : Int)
    · refine sb_expr (R := Is .non) (ex_callX (passes_call (takes_of rfl rfl rfl rfl) (fun _ _ _ _ h => h)) G_check_stretch hr (av_cons (ex_var 0) (av_cons (ex_var 1) (av_cons (ex_ixT (ex_var 0) ex_i (SqT.of hn) rfl) av_nil))) (fun H1 Q x q => ⟨_, xs, lo, _, rfl, hB0.ex x, fun _ => q, fun n => absurd c n⟩)) fun u H2 x2 _ => ?_

      exact sb_ret (R := Is (optV (fst xs lo bd))) (ex_call G_first_in hr (av_cons (ex_var 0) (av_cons (ex_var 1) (av_cons (ex_var 2) av_nil))) (fun H1 Q x q => ⟨a, t, lo, bd, rfl, hT.ex (x2.trans x), hok, c.1, by rw [hrow]; exact q⟩)) ((q1 ⟨c.1, c.2.1⟩).up x2)
    · have c' : lo < 0 ∨ (xs.length : Int) < lo := by unfold Lies at c; omega

      exact sb_expr (R := No) (ex_callX (passes_call (takes_of rfl rfl rfl rfl) (fun _ _ _ _ h => h)) G_check_stretch hr (av_cons (ex_var 0) (av_cons (ex_var 1) (av_cons (ex_ixT (ex_var 0) ex_i (SqT.of hn) rfl) av_nil))) (fun H1 Q x q => ⟨_, xs, lo, _, rfl, hB0.ex x, fun n => absurd n c, fun _ => (q3 c').up x⟩)) fun u H2 x2 z => z.elim

abbrev s_added : Stmt := topS 32
theorem sc_added : FnScope ["book", "low", "high", "by"] ["book", "low", "high", "by"] (defScope s_added) := ⟨rfl, rfl, rfl, by decide +kernel, rfl, by decide +kernel, by decide +kernel⟩
theorem ok_added {CO : Addr} (F : Df K mg "added" s_added ["book", "low", "high", "by"]) (G_check_stretch : Dn P w K mg base "check_stretch" 1 ["book", "low", "high"] (spCheck CO)) (G_added_in : Dn P w K mg base "added_in" 43 ["node", "low", "high", "by"] (spAddedIn 40)) :
    Dn P w K mg base "added" 44 ["book", "low", "high", "by"] (spAdded CO) :=
  def_ok F sc_added (fun vs H Q E ⟨_, _, _, _, _, e, _⟩ => by rw [e] <;> rfl) fun f cdv A outer s H vs Q E hr h => by
    obtain ⟨v, xs, lo, hi, b, rfl, hB, q1, q3⟩ := h
    by_cases c : Lies xs lo hi
    · refine sb_expr (R := Is .non) (ex_callX (passes_call (takes_of rfl rfl rfl rfl) (fun _ _ _ _ h => h)) G_check_stretch hr (av_cons (ex_var 0) (av_cons (ex_var 1) (av_cons (ex_var 2) av_nil))) (fun H1 Q x q => ⟨_, xs, lo, hi, rfl, hB.ex x, fun _ => q, fun n => absurd c n⟩)) fun u H2 x2 _ => ?_
      obtain ⟨t, ⟨a, rfl, hT⟩, hok, hrow⟩ := hB
      exact sb_ret (R := Of (TrR 40 (chg (fun x => x + b) xs lo hi))) (ex_call G_added_in hr (av_cons (ex_var 0) (av_cons (ex_var 1) (av_cons (ex_var 2) (av_cons (ex_var 3) av_nil)))) (fun H1 Q x q => ⟨a, t, lo, hi, b, rfl, hT.ex (x2.trans x), hok, by omega, by rw [hrow]; exact q⟩)) ((q1 c).up x2)
    · exact sb_expr (R := No) (ex_callX (passes_call (takes_of rfl rfl rfl rfl) (fun _ _ _ _ h => h)) G_check_stretch hr (av_cons (ex_var 0) (av_cons (ex_var 1) (av_cons (ex_var 2) av_nil))) (fun H1 Q x q => ⟨_, xs, lo, hi, rfl, hB.ex x, fun n => absurd n c, fun _ => (q3 c).up x⟩)) fun u H2 x2 z => z.elim

abbrev s_filled : Stmt := topS 33
theorem sc_filled : FnScope ["book", "low", "high", "number"] ["book", "low", "high", "number"] (defScope s_filled) := ⟨rfl, rfl, rfl, by decide +kernel, rfl, by decide +kernel, by decide +kernel⟩
theorem ok_filled {CO : Addr} (F : Df K mg "filled" s_filled ["book", "low", "high", "number"]) (G_check_stretch : Dn P w K mg base "check_stretch" 1 ["book", "low", "high"] (spCheck CO)) (G_filled_in : Dn P w K mg base "filled_in" 43 ["node", "low", "high", "number"] (spFilledIn 40)) :
    Dn P w K mg base "filled" 44 ["book", "low", "high", "number"] (spFilled CO) :=
  def_ok F sc_filled (fun vs H Q E ⟨_, _, _, _, _, e, _⟩ => by rw [e] <;> rfl) fun f cdv A outer s H vs Q E hr h => by
    obtain ⟨v, xs, lo, hi, b, rfl, hB, q1, q3⟩ := h
    by_cases c : Lies xs lo hi
    · refine sb_expr (R := Is .non) (ex_callX (passes_call (takes_of rfl rfl rfl rfl) (fun _ _ _ _ h => h)) G_check_stretch hr (av_cons (ex_var 0) (av_cons (ex_var 1) (av_cons (ex_var 2) av_nil))) (fun H1 Q x q => ⟨_, xs, lo, hi, rfl, hB.ex x, fun _ => q, fun n => absurd c n⟩)) fun u H2 x2 _ => ?_
      obtain ⟨t, ⟨a, rfl, hT⟩, hok, hrow⟩ := hB
      exact sb_ret (R := Of (TrR 40 (chg (fun _ => b) xs lo hi))) (ex_call G_filled_in hr (av_cons (ex_var 0) (av_cons (ex_var 1) (av_cons (ex_var 2) (av_cons (ex_var 3) av_nil)))) (fun H1 Q x q => ⟨a, t, lo, hi, b, rfl, hT.ex (x2.trans x), hok, by omega, by rw [hrow]; exact q⟩)) ((q1 c).up x2)
    · exact sb_expr (R := No) (ex_callX (passes_call (takes_of rfl rfl rfl rfl) (fun _ _ _ _ h => h)) G_check_stretch hr (av_cons (ex_var 0) (av_cons (ex_var 1) (av_cons (ex_var 2) av_nil))) (fun H1 Q x q => ⟨_, xs, lo, hi, rfl, hB.ex x, fun n => absurd n c, fun _ => (q3 c).up x⟩)) fun u H2 x2 z => z.elim
/-! ### the law's own helpers -/
def numBy (c : Int) : Int :=
  if c % 16 = 5 then (c / 16 % 5 - 2) * 10 ^ 64 * 10 ^ 64 * 10 ^ 64
  else if c % 4 = 1 then c / 4 % (2 * 10 ^ 60 + 1) - 10 ^ 60
  else if c % 4 = 2 then c / 4 % 3 - 1
  else c / 4 % 41 - 20
def rowBy (c o : Int) (n : Nat) : List Int :=
  if c % 3 = 1 then (List.range n).map fun k : Nat => numBy (o + 4 * ((k : Int) / (1 + c / 3 % 9)))
  else (List.range n).map fun k : Nat => numBy (c / 3 + o * k * k + 13 * k)
theorem rowBy_length (c o : Int) (n : Nat) : (rowBy c o n).length = n := by
  unfold rowBy
  split <;> rw [List.length_map, List.length_range]
def spWhole : Sp := fun vs H Q _ => ∃ i : Int, vs = [.int i] ∧ Gives (Is (.bl true)) H Q
def spCell (K : PySem.W.Frag) : Sp := fun vs H Q _ => ∃ (a : Addr) (ns : List Int) (k : Int), vs = [.ref a, .int k] ∧ SqL K H a (ns.map V.int) ∧ 0 ≤ k ∧ Gives (Is (.int (ns.getD k.toNat 0))) H Q
def spNumBy : Sp := fun vs H Q _ => ∃ c : Int, vs = [.int c] ∧ Gives (Is (.int (numBy c))) H Q
def spRowBy : Sp := fun vs H Q _ => ∃ c o n : Int, vs = [.int c, .int o, .int n] ∧ 0 ≤ n ∧ n ≤ 1001 ∧ Gives (NL ((rowBy c o n.toNat).map V.int)) H Q


abbrev s__law_whole : Stmt := topS 40
theorem sc__law_whole : FnScope ["_law_found"] ["_law_found"] (defScope s__law_whole) := ⟨rfl, rfl, rfl, by decide +kernel, rfl, by decide +kernel, by decide +kernel⟩
theorem ok__law_whole (B : Bt mg) (F : Df K mg "_law_whole" s__law_whole ["_law_found"]) : Dn P w K mg base "_law_whole" 1 ["_law_found"] spWhole :=
  def_ok F sc__law_whole (fun vs H Q E ⟨_, e, _⟩ => by rw [e] <;> rfl) fun f cdv A outer s H vs Q E hr h => by
    obtain ⟨i, rfl, q⟩ := h
    exact sb_ret (EX.is (ex_and (ex_isi B.isinstance (av_cons (ex_var 0) (av_cons (ex_bltn rfl B.int boot_int' rfl) av_nil)) (fun _ _ => ty_int) rfl) (fun z1 => (ex_one (ex_not (ex_isi B.isinstance (av_cons (ex_var 0) (av_cons (ex_bltn rfl B.bool boot_bool' rfl) av_nil)) (fun _ _ => ty_int) rfl))))) rfl) q

abbrev s__law_cell_at : Stmt := topS 41
theorem sc__law_cell_at : FnScope ["_law_script", "_law_k"] ["_law_script", "_law_k"] (defScope s__law_cell_at) := ⟨rfl, rfl, rfl, by decide +kernel, rfl, by decide +kernel, by decide +kernel⟩
theorem ok__law_cell_at (B : Bt mg) (F : Df K mg "_law_cell_at" s__law_cell_at ["_law_script", "_law_k"]) : Dn P w K mg base "_law_cell_at" 1 ["_law_script", "_law_k"] (spCell K) :=
  def_ok F sc__law_cell_at (fun vs H Q E ⟨_, _, _, e, _⟩ => by rw [e] <;> rfl) fun f cdv A outer s H vs Q E hr h => by
    obtain ⟨a, ns, k, rfl, hS, h0, q⟩ := h

    refine sb_when (tx_lt (ex_var 1) (ex_len B.len (av_cons (ex_var 0) av_nil) (hS))) (fun c => ?_) (fun c => ?_)
    · have c := of_decide_eq_true c
      rw [List.length_map] at c
      have hk : k.toNat < ns.length := by omega
      have e : (ns.map V.int)[k.toNat]? = some (V.int (ns.getD k.toNat 0)) := by
        rw [List.getElem?_map, List.getElem?_eq_getElem hk, List.getD_eq_getElem?_getD, List.getElem?_eq_getElem hk]
        rfl
      exact sb_ret (ex_ixL (ex_var 0) (ex_var 1) (hS) (at_of (show k = (k.toNat : Int) by omega) e)) q
    · have c := of_decide_eq_false c
      rw [List.length_map] at c
      rw [List.getD_eq_getElem?_getD, List.getElem?_eq_none (by omega)] at q
      exact sb_ret ex_i q

abbrev s__law_number_by : Stmt := topS 42
theorem sc__law_number_by : FnScope ["_law_cell"] ["_law_cell"] (defScope s__law_number_by) := ⟨rfl, rfl, rfl, by decide +kernel, rfl, by decide +kernel, by decide +kernel⟩
theorem mulW64 {i : Int} {a : Nat} (h : i.natAbs < 2 ^ a) (ha : 0 < a) (hb : a ≤ 1000) : CMulW i (10 ^ (64 : Int).toNat) ∧ (i * 10 ^ (64 : Int).toNat).natAbs < 2 ^ (a + 213) := by
  have h64 : ((10 : Int) ^ (64 : Int).toNat).natAbs < 2 ^ 213 := by decide +kernel
  exact ⟨wide_mul h h64 ha (by decide) (by omega), wide_lt h h64⟩
theorem ok__law_number_by (F : Df K mg "_law_number_by" s__law_number_by ["_law_cell"]) : Dn P w K mg base "_law_number_by" 1 ["_law_cell"] spNumBy :=
  def_ok F sc__law_number_by (fun vs H Q E ⟨_, e, _⟩ => by rw [e] <;> rfl) fun f cdv A outer s H vs Q E hr h => by
    obtain ⟨c, rfl, q⟩ := h
    unfold numBy at q
    refine sb_when (tx_eqI (ex_mod (ex_var 0) ex_i (by decide +kernel)) ex_i) (fun h => ?_) (fun h => ?_)
    · rw [if_pos (of_decide_eq_true h)] at q
      have a0 : (c / 16 % 5 - 2).natAbs < 2 ^ 8 := by omega
      obtain ⟨w1, a1⟩ := mulW64 a0 (by decide) (by decide)
      obtain ⟨w2, a2⟩ := mulW64 a1 (by decide) (by decide)
      obtain ⟨w3, a3⟩ := mulW64 a2 (by decide) (by decide)
      exact sb_ret (ex_mulW (ex_mulW (ex_mulW (ex_sub (ex_mod (ex_fdiv (ex_var 0) ex_i ⟨by decide, by decide⟩) ex_i (by decide +kernel)) ex_i) (ex_pow ex_i ex_i ⟨by decide, by decide, by decide⟩) w1) (ex_pow ex_i ex_i ⟨by decide, by decide, by decide⟩) w2) (ex_pow ex_i ex_i ⟨by decide, by decide, by decide⟩) w3) q
    rw [if_neg (of_decide_eq_false h)] at q
    refine sb_when (tx_eqI (ex_mod (ex_var 0) ex_i (by decide +kernel)) ex_i) (fun h => ?_) (fun h => ?_)
    · rw [if_pos (of_decide_eq_true h)] at q
      exact sb_ret (ex_sub (ex_mod (ex_fdiv (ex_var 0) ex_i ⟨by decide, by decide⟩) (ex_add (ex_mulL ex_i (ex_pow ex_i ex_i ⟨by decide, by decide, by decide⟩) ⟨by decide, by decide⟩) ex_i) (by decide +kernel)) (ex_pow ex_i ex_i ⟨by decide, by decide, by decide⟩)) q
    rw [if_neg (of_decide_eq_false h)] at q
    refine sb_when (tx_eqI (ex_mod (ex_var 0) ex_i (by decide +kernel)) ex_i) (fun h => ?_) (fun h => ?_)
    · rw [if_pos (of_decide_eq_true h)] at q
      exact sb_ret (ex_sub (ex_mod (ex_fdiv (ex_var 0) ex_i ⟨by decide, by decide⟩) ex_i (by decide +kernel)) ex_i) q
    rw [if_neg (of_decide_eq_false h)] at q
    exact sb_ret (ex_sub (ex_mod (ex_fdiv (ex_var 0) ex_i ⟨by decide, by decide⟩) ex_i (by decide +kernel)) ex_i) q

theorem cl {K : PySem.W.Frag} {H : Hp} {a : Addr} {ns : List Int} {k : Int} (hS : SqL K H a (ns.map V.int)) (h0 : 0 ≤ k) : ∀ H1 Q, Ex H H1 → Gives (Is (.int (ns.getD k.toNat 0))) H1 Q → spCell K [.ref a, .int k] H1 Q E0 :=
  fun H1 Q x q => ⟨a, ns, k, rfl, x.l hS, h0, q⟩



/-! ### answers: a number or None, a row -/
inductive Ans where
  | num (o : Option Int)
  | row (xs : List Int)
  | txt (s : Str)
/-- the value u is the answer -/
def AtA : Ans → Hp → V → Prop
  | .num o, _, u => u = optV o
  | .row xs, H, u => ∃ p, u = .ref p ∧ H p = some (.lst (xs.map V.int)) ∧ xs.length ≤ 2000
  | .txt s, _, u => u = .str s
/-- it came of an expression: a row is a new list -/
def RA (a : Ans) : Rk := fun H1 u H2 => AtA a H2 u ∧ ∀ xs, a = .row xs → ∃ p, u = .ref p ∧ H1 p = none
theorem AtA.ex {a : Ans} {H H' : Hp} {u : V} (x : Ex H H') (h : AtA a H u) : AtA a H' u := by
  cases a with
  | num o => exact h
  | txt s => exact h
  | row xs =>
    obtain ⟨p, h1, h2, h3⟩ := h
    exact ⟨p, h1, x _ _ h2, h3⟩
instance (a : Ans) : RM (RA a) := ⟨fun e0 e2 ⟨h, h2⟩ => ⟨h.ex e2, fun xs e => by
  obtain ⟨p, k1, k2⟩ := h2 xs e
  exact ⟨p, k1, e0.fresh k2⟩⟩⟩
theorem RA.num {o : Option Int} {H1 H2 : Hp} : RA (.num o) H1 (optV o) H2 := ⟨rfl, fun xs e => by cases e⟩
theorem RA.txt {s : Str} {H1 H2 : Hp} : RA (.txt s) H1 (.str s) H2 := ⟨rfl, fun xs e => by cases e⟩
theorem RA.of_nl {xs : List Int} {H1 H2 : Hp} {u : V} (hz : xs.length ≤ 2000) (h : NL (xs.map V.int) H1 u H2) : RA (.row xs) H1 u H2 := by
  obtain ⟨p, rfl, h1, h2⟩ := h
  exact ⟨⟨p, rfl, h2, hz⟩, fun _ _ => ⟨p, rfl, h1⟩⟩
/-- what is asked, by the plain row -/
def IsAns (way : Int) (row : List Int) (lo hi bd : Int) (a : Ans) : Prop :=
  (way = 0 ∧ a = .num (some (cut row lo hi).sum)) ∨ (way = 1 ∧ a = .num (fst row lo bd)) ∨ (way = 2 ∧ a = .row (cut row lo hi)) ∨
    (way = 3 ∧ lo < hi ∧ ∃ m, IsMin m (cut row lo hi) ∧ a = .num (some m)) ∨ (way = 4 ∧ lo < hi ∧ ∃ m, IsMin m (cut row lo hi) ∧ a = .num (fst row lo m))
theorem isAns_ex {way : Int} {row : List Int} {lo hi bd : Int} (h : Lies row lo hi) (w0 : 0 ≤ way) (w1 : way < 5) (hw : 2 < way → lo < hi) : ∃ a, IsAns way row lo hi bd a := by
  have h1 := h.1
  have h2 := h.2.2
  rcases (show way = 0 ∨ way = 1 ∨ way = 2 ∨ way = 3 ∨ way = 4 by omega) with e | e | e | e | e
  · exact ⟨_, .inl ⟨e, rfl⟩⟩
  · exact ⟨_, .inr (.inl ⟨e, rfl⟩)⟩
  · exact ⟨_, .inr (.inr (.inl ⟨e, rfl⟩))⟩
  · obtain ⟨m, hm⟩ := isMin_ex (cut_ne h1 (hw (by omega)) h2)
    exact ⟨_, .inr (.inr (.inr (.inl ⟨e, hw (by omega), m, hm, rfl⟩)))⟩
  · obtain ⟨m, hm⟩ := isMin_ex (cut_ne h1 (hw (by omega)) h2)
    exact ⟨_, .inr (.inr (.inr (.inr ⟨e, hw (by omega), m, hm, rfl⟩)))⟩
def spAlike : Sp := fun vs H Q _ => ∃ (a : Ans) (u v : V), vs = [u, v] ∧ AtA a H u ∧ AtA a H v ∧ Gives (Is (.bl true)) H Q


abbrev s__law_alike : Stmt := topS 48
theorem sc__law_alike : FnScope ["_law_found", "_law_due_here", "_law_k"] ["_law_found", "_law_due_here"] (defScope s__law_alike) := ⟨rfl, rfl, rfl, by decide +kernel, rfl, by decide +kernel, by decide +kernel⟩
theorem ok__law_alike (B : Bt mg) (F : Df K mg "_law_alike" s__law_alike ["_law_found", "_law_due_here"]) (G__law_whole : Dn P w K mg base "_law_whole" 1 ["_law_found"] spWhole) : Dn P w K mg base "_law_alike" 2 ["_law_found", "_law_due_here"] spAlike :=
  def_ok F sc__law_alike (fun vs H Q E ⟨_, _, _, e, _⟩ => by rw [e] <;> rfl) fun f cdv A outer s H vs Q E hr h => by
    obtain ⟨an, u, v, rfl, hu, hv, q⟩ := h
    cases an with
    | num o =>
      obtain rfl : u = optV o := hu
      obtain rfl : v = optV o := hv
      cases o with
      | none =>

        exact sb_when (tx_isN (ex_var 1) ex_n) (fun _ => sb_ret (EX.is (ex_isN (ex_var 0) ex_n) (by simp [optV])) q) (fun c => by simp [optV] at c)
      | some k =>

        refine sb_when (tx_isN (ex_var 1) ex_n) (fun c => by simp [optV] at c) (fun _ => ?_)
        refine sb_when (tx_val (ex_isi B.isinstance (av_cons (ex_var 1) (av_cons (ex_bltn rfl B.str boot_str' rfl) av_nil)) (fun _ _ => ty_int) (k := false) (by decide +kernel))) (fun c => by cases c) (fun _ => ?_)
        exact sb_when (tx_not (tx_val (ex_isi B.isinstance (av_cons (ex_var 1) (av_cons (ex_bltn rfl B.list boot_list' rfl) av_nil)) (fun _ _ => ty_int) (k := false) (by decide +kernel)))) (fun _ => sb_ret (EX.is (ex_and (ex_call G__law_whole hr (av_cons (ex_var 0) av_nil) (fun H1 Q x q => ⟨_, rfl, q⟩)) (fun z1 => (ex_one (ex_eqI (ex_var 0) (ex_var 1))))) (by simp)) q) (fun c => by cases c)
    | txt s =>
      obtain rfl : u = .str s := hu
      obtain rfl : v = .str s := hv

      refine sb_when (tx_isN (ex_var 1) ex_n) (fun c => by simp at c) (fun _ => ?_)
      exact sb_when (tx_val (ex_isi B.isinstance (av_cons (ex_var 1) (av_cons (ex_bltn rfl B.str boot_str' rfl) av_nil)) (fun _ _ => ty_str) (k := true) (by decide +kernel))) (fun _ => sb_ret (EX.is (ex_and (ex_isi B.isinstance (av_cons (ex_var 0) (av_cons (ex_bltn rfl B.str boot_str' rfl) av_nil)) (fun _ _ => ty_str) (k := true) (by decide +kernel)) (fun z1 => (ex_one (ex_eq (ex_var 0) (ex_var 1))))) (by simp)) q) (fun c => by cases c)
    | row xs =>
      obtain ⟨p, rfl, hp, hz⟩ := hu
      obtain ⟨p', rfl, hp', _⟩ := hv
      have hl : ((xs.map V.int).length : Int) = (xs.length : Int) := by rw [List.length_map]

      refine sb_when (tx_isN (ex_var 1) ex_n) (fun c => by simp at c) (fun _ => ?_)
      refine sb_when (tx_val (ex_isi B.isinstance (av_cons (ex_var 1) (av_cons (ex_bltn rfl B.str boot_str' rfl) av_nil)) (fun _ x => ty_lst (x _ _ hp')) (k := false) (by decide +kernel))) (fun c => by cases c) (fun _ => ?_)
      refine sb_when (tx_not (tx_val (ex_isi B.isinstance (av_cons (ex_var 1) (av_cons (ex_bltn rfl B.list boot_list' rfl) av_nil)) (fun _ x => ty_lst (x _ _ hp')) (k := true) (by decide +kernel)))) (fun c => by cases c) (fun _ => ?_)
      refine sb_when (k := false) (TX.is (tx_w (wx_or (tx_not (tx_val (ex_isi B.isinstance (av_cons (ex_var 0) (av_cons (ex_bltn rfl B.list boot_list' rfl) av_nil)) (fun _ x => ty_lst (x _ _ hp)) (k := true) (by decide +kernel)))) (fun z1 => (wx_or1 (tx_neI (ex_len B.len (av_cons (ex_var 0) av_nil) (SqL.of hp)) (ex_len B.len (av_cons (ex_var 1) av_nil) (SqL.of hp'))))))) (by simp)) (fun c => by simp at c) (fun _ => ?_)
      refine sb_forR1 2 (passes_of rfl) sc__law_alike.nd B.range (av_cons (ex_len B.len (av_cons (ex_var 1) av_nil) (SqL.of hp')) av_nil) ⟨by omega, by omega⟩ (fun i σ' H' => H' = H ∧ ∃ v2, σ' = [some (.ref p), some (.ref p'), v2]) ⟨rfl, none, rfl⟩ (fun i σ' H' hi z => ?_) (fun σ' H' z => ?_)
      · obtain ⟨rfl, v2, rfl⟩ := z
        rw [hl] at hi
        obtain ⟨y, hy⟩ := row_at (row := xs) hi
        exact sb_when (k := false) (TX.is (tx_w (wx_or (tx_not (tx_val (ex_call G__law_whole hr (av_cons (ex_ixL (ex_var 0) (ex_var 2) (SqL.of hp) (at_row (by omega) hy)) av_nil) (fun H1 Q x q => ⟨_, rfl, q⟩)))) (fun z1 => (wx_or1 (tx_neI (ex_ixL (ex_var 0) (ex_var 2) (SqL.of hp) (at_row (by omega) hy)) (ex_ixL (ex_var 1) (ex_var 2) (SqL.of hp') (at_row (by omega) hy))))))) (by simp)) (fun c => by simp at c) (fun _ => sb_next (by exact ⟨rfl, _, rfl⟩))
      · obtain ⟨rfl, v2, rfl⟩ := z
        exact sb_ret ex_b q

/-! ### runs as they stand in the heap -/
structure RunsV (H : Hp) (vs : List V) (rs : List Run) : Prop where
  len : vs.length = rs.length
  at_ : ∀ (i : Nat) r, rs[i]? = some r → ∃ q, vs[i]? = some (.ref q) ∧ H q = some (.tup [.int r.a, .int r.b, .int r.v])
theorem RunsV.tx {H H' : Hp} {vs : List V} {rs : List Run} (h : RunsV H vs rs) (x : Tx H H') : RunsV H' vs rs := ⟨h.len, fun i r hr => by
  obtain ⟨q, h1, h2⟩ := h.at_ i r hr
  exact ⟨q, h1, x _ _ h2⟩⟩
theorem RunsV.nil {H : Hp} : RunsV H [] [] := ⟨rfl, fun i r hr => by simp at hr⟩
theorem RunsV.push {H : Hp} {vs : List V} {rs : List Run} {q : Addr} {r : Run} (h : RunsV H vs rs) (hq : H q = some (.tup [.int r.a, .int r.b, .int r.v])) : RunsV H (vs ++ [.ref q]) (rs ++ [r]) := by
  refine ⟨by rw [List.length_append, List.length_append, h.len]; rfl, fun i r' hr => ?_⟩
  by_cases c : i < rs.length
  · rw [List.getElem?_append_left c] at hr
    obtain ⟨p, h1, h2⟩ := h.at_ i r' hr
    exact ⟨p, by rw [List.getElem?_append_left (by rw [h.len]; exact c)]; exact h1, h2⟩
  · have e : i = rs.length := by
      have := (List.getElem?_eq_some_iff.mp hr).1
      rw [List.length_append, List.length_singleton] at this
      omega
    subst e
    rw [List.getElem?_concat_length] at hr
    cases hr
    exact ⟨q, by rw [← h.len, List.getElem?_concat_length], hq⟩
theorem RunsV.get {H : Hp} {vs : List V} {rs : List Run} {i : Nat} {x : V} (h : RunsV H vs rs) (hx : vs[i]? = some x) : ∃ q r, x = .ref q ∧ rs[i]? = some r ∧ H q = some (.tup [.int r.a, .int r.b, .int r.v]) := by
  have hi := (List.getElem?_eq_some_iff.mp hx).1
  obtain ⟨q, h1, h2⟩ := h.at_ i _ (List.getElem?_eq_getElem (by rw [← h.len]; exact hi))
  rw [hx] at h1
  cases h1
  exact ⟨q, _, rfl, List.getElem?_eq_getElem (by rw [← h.len]; exact hi), h2⟩
def RunsP (rs : List Run) : Hp → V → Prop := fun H u => ∃ l vs, u = .ref l ∧ H l = some (.lst vs) ∧ RunsV H vs rs
instance (rs : List Run) : PM (RunsP rs) := ⟨fun x ⟨l, vs, h1, h2, h3⟩ => ⟨l, vs, h1, x _ _ h2, h3.tx x.tx⟩⟩
theorem take_flat {f : Run → List Run} {rs : List Run} {i : Nat} {r : Run} (h : rs[i]? = some r) : (rs.take (i + 1)).flatMap f = (rs.take i).flatMap f ++ f r := by
  rw [List.take_succ, h, List.flatMap_append]
  simp
theorem flat_le {f : Run → List Run} (hf : ∀ r, (f r).length ≤ 2) : ∀ rs : List Run, (rs.flatMap f).length ≤ 2 * rs.length
  | [] => Nat.le_refl _
  | r :: rs => by
    have := flat_le hf rs
    have := hf r
    rw [List.flatMap_cons, List.length_append, List.length_cons]
    omega
theorem cut1_le (p : Int) (r : Run) : (cut1 p r).length ≤ 2 := by
  unfold cut1
  split <;> simp
theorem win1_le (lo hi : Int) (r : Run) : (win1 lo hi r).length ≤ 2 := by
  unfold win1
  split <;> simp
def spCut : Sp := fun vs H Q _ => ∃ (u : V) (rs : List Run) (p : Int), vs = [u, .int p] ∧ RunsP rs H u ∧ rs.length ≤ 10000 ∧ Gives (Of (RunsP (cutR p rs))) H Q
def chgF (fill : Bool) (v : Int) : Int → Int := if fill then fun _ => v else fun x => x + v
def wordF (fill : Bool) : Str := if fill then "fill" else "add"
def spChanged : Sp := fun vs H Q _ => ∃ (u : V) (rs : List Run) (fill : Bool) (lo hi v : Int), vs = [u, .str (wordF fill), .int lo, .int hi, .int v] ∧ RunsP rs H u ∧ rs ≠ [] ∧ rs.length ≤ 2000 ∧ Gives (Of (RunsP (chgR (chgF fill v) lo hi rs))) H Q
def spWithin : Sp := fun vs H Q _ => ∃ (u : V) (rs : List Run) (lo hi : Int), vs = [u, .int lo, .int hi] ∧ RunsP rs H u ∧ rs.length ≤ 10000 ∧ Gives (Of (RunsP (winR lo hi rs))) H Q
/-- what is due: a word, a stretch -/
def IsDue (w : Str) (rs : List Run) (lo hi : Int) (a : Ans) : Prop :=
  (w = "total" ∧ a = .num (some (cut (rowOf rs) lo hi).sum)) ∨ (w = "list" ∧ hi - lo ≤ 1000 ∧ a = .row (cut (rowOf rs) lo hi)) ∨
    (w = "least" ∧ lo < hi ∧ ∃ m, IsMin m (cut (rowOf rs) lo hi) ∧ a = .num (some m)) ∨ (w = "place" ∧ lo < hi ∧ ∃ m, IsMin m (cut (rowOf rs) lo hi) ∧ a = .num (fst (rowOf rs) lo m))
def spDue : Sp := fun vs H Q _ => ∃ (u : V) (rs : List Run) (w : Str) (lo hi n : Int) (a : Ans), vs = [u, .str w, .int lo, .int hi] ∧ RunsP rs H u ∧ rs.length ≤ 10000 ∧ Cov 0 rs n ∧ n ≤ 1000000000000 ∧ 0 ≤ lo ∧ lo ≤ hi ∧ hi ≤ n ∧ IsDue w rs lo hi a ∧ Gives (RA a) H Q
def spFirR : Sp := fun vs H Q _ => ∃ (u : V) (rs : List Run) (lo bd : Int), vs = [u, .int lo, .int bd] ∧ RunsP rs H u ∧ Gives (Is (optV (firR lo bd rs))) H Q
/-- a place of the row -/
def InR (n : Int) : Hp → V → Prop := fun _ u => ∃ k, u = .int k ∧ 0 ≤ k ∧ k ≤ n
instance (n : Int) : PM (InR n) := ⟨fun _ h => h⟩
def spEndBy : Sp := fun vs H Q _ => ∃ (u : V) (rs : List Run) (c n : Int), vs = [.int c, u, .int n] ∧ RunsP rs H u ∧ rs ≠ [] ∧ 0 ≤ n ∧ Gives (Of (InR n)) H Q
def spRight : Sp := fun vs H Q _ => ∃ (bk u : V) (rs : List Run) (row : List Int) (lo hi c n : Int), vs = [bk, u, .int lo, .int hi, .int c] ∧ Bk row H bk ∧ RunsP rs H u ∧ rs ≠ [] ∧ rs.length ≤ 2000 ∧ Cov 0 rs n ∧ Str' rs ∧ rowOf rs = row ∧ n ≤ 1000000000000 ∧ Lies row lo hi ∧ Gives (Is (.bl true)) H Q
/-- the runs stay -/
theorem RunsP.ex {rs : List Run} {H H' : Hp} {u : V} (h : RunsP rs H u) (x : Ex H H') : RunsP rs H' u := PM.m x h


abbrev s__law_cut : Stmt := topS 43
theorem sc__law_cut : FnScope ["_law_runs", "_law_at", "_law_found", "_law_run_here"] ["_law_runs", "_law_at"] (defScope s__law_cut) := ⟨rfl, rfl, rfl, by decide +kernel, rfl, by decide +kernel, by decide +kernel⟩
theorem ok__law_cut (F : Df K mg "_law_cut" s__law_cut ["_law_runs", "_law_at"]) : Dn P w K mg base "_law_cut" 1 ["_law_runs", "_law_at"] spCut :=
  def_ok F sc__law_cut (fun vs H Q E ⟨_, _, _, e, _⟩ => by rw [e] <;> rfl) fun f cdv A outer s H vs Q E hr h => by
    obtain ⟨_, rs, p, rfl, ⟨l, vs, rfl, hl, hV⟩, hz, q⟩ := h
    refine sb_new 2 sc__law_cut.nd (ex_lst av_nil (by exact Nat.le_of_ble_eq_true rfl)) fun g hg => ?_
    refine sb_forL 3 (passes_of rfl) sc__law_cut.nd (ex_var 0) (SqL.of (Ex.new (o := .lst []) hg _ _ hl)) (fun i σ' H' => ∃ (ws : List V) (v3 : Option V), Ex H H' ∧ H' g = some (.lst ws) ∧ RunsV H' ws (cutR p (rs.take i)) ∧ σ' = [some (.ref l), some (.int p), some (.ref g), v3]) ⟨[], none, Ex.new hg, upd_same, RunsV.nil, rfl⟩ (fun i σ' H' _ ⟨_, _, x, _⟩ => SqL.of (x _ _ hl)) (fun i x σ' H' hx W => ?_) (fun σ' H' W => ?_)
    · obtain ⟨ws, v3, x1, hw, hW, rfl⟩ := W
      obtain ⟨t, r, rfl, hrr, ht⟩ := hV.get hx
      have ht1 := x1 _ _ ht
      have hi := (List.getElem?_eq_some_iff.mp hrr).1
      have wl : ws.length ≤ 20000 := by
        rw [hW.len]
        have := flat_le (cut1_le p) (rs.take i)
        rw [List.length_take] at this
        unfold cutR
        omega
      have et : cutR p (rs.take (i + 1)) = cutR p (rs.take i) ++ cut1 p r := take_flat hrr

      refine sb_if (tx_w (wx_and (tx_lt (ex_ixT (ex_var 3) ex_i (SqT.of ht1) rfl) (ex_var 1)) (fun z1 => (wx_and1 (tx_lt (ex_var 1) (ex_ixT (ex_var 3) ex_i (SqT.of ht1) rfl)))))) (fun c => ?_) (fun c => ?_)
      · have c : r.a < p ∧ p < r.b := by simpa using c
        refine sb_app (R := NT [.int r.a, .int p, .int r.v]) (ex_var 2) hw (by omega) (ex_tup (av_cons (ex_ixT (ex_var 3) ex_i (SqT.of ht1) rfl) (av_cons (ex_var 1) (av_cons (ex_ixT (ex_var 3) ex_i (SqT.of ht1) rfl) av_nil))) (by exact Nat.le_of_ble_eq_true rfl)) fun u H2 x2 z => ?_
        obtain ⟨t1, rfl, _, hq1⟩ := z
        have T1 : Tx H2 (upd H2 g (.lst (ws ++ [.ref t1]))) := Tx.lst (x2 _ _ hw)
        have W1 : RunsV (upd H2 g (.lst (ws ++ [.ref t1]))) (ws ++ [.ref t1]) (cutR p (rs.take i) ++ [⟨r.a, p, r.v⟩]) := RunsV.push ((hW.tx x2.tx).tx T1) (T1 _ _ hq1)
        have ht2 := T1 _ _ (x2 _ _ ht1)

        refine sb_app (R := NT [.int p, .int r.b, .int r.v]) (ex_var 2) upd_same (by rw [List.length_append, List.length_singleton]; omega) (ex_tup (av_cons (ex_var 1) (av_cons (ex_ixT (ex_var 3) ex_i (SqT.of ht2) rfl) (av_cons (ex_ixT (ex_var 3) ex_i (SqT.of ht2) rfl) av_nil))) (by exact Nat.le_of_ble_eq_true rfl)) fun u H3 x3 z => ?_
        obtain ⟨t2, rfl, _, hq2⟩ := z
        have hw3 := x3 _ _ (upd_same (H := H2) (a := g) (o := .lst (ws ++ [.ref t1])))
        have T2 : Tx H3 (upd H3 g (.lst (ws ++ [.ref t1] ++ [.ref t2]))) := Tx.lst hw3
        have W2 : RunsV (upd H3 g (.lst (ws ++ [.ref t1] ++ [.ref t2]))) (ws ++ [.ref t1] ++ [.ref t2]) (cutR p (rs.take i) ++ [⟨r.a, p, r.v⟩] ++ [⟨p, r.b, r.v⟩]) := RunsV.push ((W1.tx x3.tx).tx T2) (T2 _ _ hq2)
        have ec : cut1 p r = [⟨r.a, p, r.v⟩, ⟨p, r.b, r.v⟩] := by unfold cut1; rw [if_pos c]
        refine sb_thru (sb_next (by exact ⟨_, _, Ex.mut ((Ex.mut (x1.trans x2) hg).trans x3) hg, upd_same, by rw [et, ec, show ([⟨r.a, p, r.v⟩, ⟨p, r.b, r.v⟩] : List Run) = [⟨r.a, p, r.v⟩] ++ [⟨p, r.b, r.v⟩] from rfl, ← List.append_assoc]; exact W2, rfl⟩))
      · have c : ¬ (r.a < p ∧ p < r.b) := by simpa using c
        refine sb_appI (v := .ref t) (ex_var 2) hw (by omega) (ex_var 3) ?_
        have T1 : Tx H' (upd H' g (.lst (ws ++ [.ref t]))) := Tx.lst hw
        have W1 : RunsV (upd H' g (.lst (ws ++ [.ref t]))) (ws ++ [.ref t]) (cutR p (rs.take i) ++ [r]) := RunsV.push (hW.tx T1) (T1 _ _ ht1)
        have ec : cut1 p r = [r] := by unfold cut1; rw [if_neg c]
        exact sb_thru (sb_next (by exact ⟨_, _, Ex.mut x1 hg, upd_same, by rw [et, ec]; exact W1, rfl⟩))
    · obtain ⟨ws, v3, x1, hw, hW, rfl⟩ := W
      rw [hV.len, List.take_length] at hW
      exact sb_retI (ex_var 2) fun H2 x => q _ H2 (x1.trans x) ⟨g, ws, rfl, x _ _ hw, hW.tx x.tx⟩

abbrev s__law_changed : Stmt := topS 44
theorem sc__law_changed : FnScope ["_law_runs", "_law_word", "_law_low", "_law_high", "_law_number", "_law_found", "_law_run_here"] ["_law_runs", "_law_word", "_law_low", "_law_high", "_law_number"] (defScope s__law_changed) := ⟨rfl, rfl, rfl, by decide +kernel, rfl, by decide +kernel, by decide +kernel⟩
theorem ok__law_changed (F : Df K mg "_law_changed" s__law_changed ["_law_runs", "_law_word", "_law_low", "_law_high", "_law_number"]) (G__law_cut : Dn P w K mg base "_law_cut" 1 ["_law_runs", "_law_at"] spCut) : Dn P w K mg base "_law_changed" 2 ["_law_runs", "_law_word", "_law_low", "_law_high", "_law_number"] spChanged :=
  def_ok F sc__law_changed (fun vs H Q E ⟨_, _, _, _, _, _, e, _⟩ => by rw [e] <;> rfl) fun f cdv A outer s H vs Q E hr h => by
    obtain ⟨ru, rs, fill, lo, hi, v, rfl, hR, hne, hz, q⟩ := h

    refine sb_when (tx_eqI (ex_var 2) (ex_var 3)) (fun c => ?_) (fun c => ?_)
    · have c : lo = hi := of_decide_eq_true c
      unfold chgR at q
      rw [if_pos c] at q
      exact sb_retI (ex_var 0) fun H2 x => q _ H2 x (PM.m x hR)
    have c : ¬ lo = hi := of_decide_eq_false c
    unfold chgR at q
    rw [if_neg c] at q
    refine sb_new 5 sc__law_changed.nd (ex_lst av_nil (by exact Nat.le_of_ble_eq_true rfl)) fun g hg => ?_
    have z1 : (cutR lo rs).length ≤ 2 * rs.length := flat_le (cut1_le lo) rs
    have z2 : (cutR hi (cutR lo rs)).length ≤ 2 * (cutR lo rs).length := flat_le (cut1_le hi) (cutR lo rs)
    have hne2 : cutR hi (cutR lo rs) ≠ [] := cutR_ne (cutR_ne hne)
    generalize hrs2 : cutR hi (cutR lo rs) = rs2 at q z2 hne2
    refine sb_forP 6 (passes_of rfl) sc__law_changed.nd (R := Of (RunsP rs2)) (ex_callx G__law_cut hr (ax_cons (ex_call G__law_cut hr (av_cons (ex_var 0) (av_cons (ex_var 2) av_nil)) (Q' := Of (RunsP (cutR lo rs))) (fun H1 Q x q => ⟨_, rs, lo, rfl, PM.m ((Ex.new hg).trans x) hR, by omega, q⟩)) (ax_cons (ex_var 3) ax_nil)) (fun vs H1 Q x hv q => by
      obtain ⟨_, _, rfl, h1, _, _, rfl, h2, rfl⟩ := hv
      cases h2
      exact ⟨_, cutR lo rs, hi, rfl, h1, by omega, by rw [hrs2]; exact q⟩)) (fun u H1 x1 hu => ?_)
    obtain ⟨l, vs, rfl, hl, hV⟩ := hu
    have hg1 := x1 _ _ (upd_same (H := H) (a := g) (o := .lst []))
    have lg : l ≠ g := fun e => by
      rw [← e, hl] at hg1
      injection hg1 with hg1
      injection hg1 with hg1
      have := hV.len
      rw [hg1] at this
      exact hne2 (List.eq_nil_of_length_eq_zero this.symm)
    refine ⟨l, vs, fun i σ' H' => ∃ (ws : List V) (v6 : Option V), Ex H H' ∧ H' l = some (.lst vs) ∧ RunsV H' vs rs2 ∧ H' g = some (.lst ws) ∧ RunsV H' ws ((rs2.take i).map (chg1 (chgF fill v) lo hi)) ∧ σ' = [some ru, some (.str (wordF fill)), some (.int lo), some (.int hi), some (.int v), some (.ref g), v6], rfl, ?_, fun i σ' H' _ ⟨_, _, _, z, _⟩ => SqL.of z, fun i x σ' H' hx W => ?_, fun σ' H' W => ?_⟩
    · exact ⟨[], none, (Ex.new hg).trans x1, hl, hV, hg1, RunsV.nil, rfl⟩
    · obtain ⟨ws, v6, x2, hl, hV, hw, hW, rfl⟩ := W
      obtain ⟨t, r, rfl, hrr, ht⟩ := hV.get hx
      have wl : ws.length ≤ 8000 := by
        rw [hW.len, List.length_map, List.length_take]
        omega
      have et : (rs2.take (i + 1)).map (chg1 (chgF fill v) lo hi) = (rs2.take i).map (chg1 (chgF fill v) lo hi) ++ [chg1 (chgF fill v) lo hi r] := by
        rw [List.take_succ, hrr, List.map_append]
        rfl
      have fin : ∀ (H2 : Hp) (t1 : Addr), Ex H' H2 → H2 t1 = some (.tup [.int (chg1 (chgF fill v) lo hi r).a, .int (chg1 (chgF fill v) lo hi r).b, .int (chg1 (chgF fill v) lo hi r).v]) →
          ∃ (ws' : List V) (v6' : Option V), Ex H (upd H2 g (.lst (ws ++ [.ref t1]))) ∧ (upd H2 g (.lst (ws ++ [.ref t1]))) l = some (.lst vs) ∧ RunsV (upd H2 g (.lst (ws ++ [.ref t1]))) vs rs2 ∧ (upd H2 g (.lst (ws ++ [.ref t1]))) g = some (.lst ws') ∧ RunsV (upd H2 g (.lst (ws ++ [.ref t1]))) ws' ((rs2.take (i + 1)).map (chg1 (chgF fill v) lo hi)) ∧
            [some ru, some (.str (wordF fill)), some (.int lo), some (.int hi), some (.int v), some (.ref g), some (.ref t)] = [some ru, some (.str (wordF fill)), some (.int lo), some (.int hi), some (.int v), some (.ref g), v6'] := by
        intro H2 t1 x3 h1
        have T1 : Tx H2 (upd H2 g (.lst (ws ++ [.ref t1]))) := Tx.lst (x3 _ _ hw)
        refine ⟨_, _, Ex.mut (x2.trans x3) hg, by rw [upd_ne lg]; exact x3 _ _ hl, (hV.tx x3.tx).tx T1, upd_same, ?_, rfl⟩
        rw [et]
        exact RunsV.push ((hW.tx x3.tx).tx T1) (T1 _ _ h1)

      refine sb_if (tx_w (wx_or (tx_lt (ex_ixT (ex_var 6) ex_i (SqT.of ht) rfl) (ex_var 2)) (fun z1 => (wx_or1 (tx_lt (ex_var 3) (ex_ixT (ex_var 6) ex_i (SqT.of ht) rfl)))))) (fun c => ?_) (fun c => ?_)
      · have c : r.a < lo ∨ hi < r.b := by simpa using c
        refine sb_appI (v := .ref t) (ex_var 5) hw (by omega) (ex_var 6) ?_
        exact sb_thru (sb_next (fin H' t (Ex.refl _) (by unfold chg1; rw [if_pos c]; exact ht)))
      · have c : ¬ (r.a < lo ∨ hi < r.b) := by simpa using c
        have ec : chg1 (chgF fill v) lo hi r = ⟨r.a, r.b, chgF fill v r.v⟩ := by unfold chg1; rw [if_neg c]
        cases fill with
        | true =>
          refine sb_if (k := true) (TX.is (tx_eq (ex_var 1) ex_s) (by decide +kernel)) (fun _ => ?_) (fun c => by cases c)
          refine sb_app (R := NT [.int r.a, .int r.b, .int v]) (ex_var 5) hw (by omega) (ex_tup (av_cons (ex_ixT (ex_var 6) ex_i (SqT.of ht) rfl) (av_cons (ex_ixT (ex_var 6) ex_i (SqT.of ht) rfl) (av_cons (ex_var 4) av_nil))) (by exact Nat.le_of_ble_eq_true rfl)) fun u H2 x3 z => ?_
          obtain ⟨t1, rfl, _, hq1⟩ := z
          exact sb_thru (sb_thru (sb_next (fin H2 t1 x3 (by rw [ec]; exact hq1))))
        | false =>
          refine sb_if (k := false) (TX.is (tx_eq (ex_var 1) ex_s) (by decide +kernel)) (fun c => by cases c) (fun _ => ?_)
          refine sb_app (R := NT [.int r.a, .int r.b, .int (r.v + v)]) (ex_var 5) hw (by omega) (ex_tup (av_cons (ex_ixT (ex_var 6) ex_i (SqT.of ht) rfl) (av_cons (ex_ixT (ex_var 6) ex_i (SqT.of ht) rfl) (av_cons (ex_add (ex_ixT (ex_var 6) ex_i (SqT.of ht) rfl) (ex_var 4)) av_nil))) (by exact Nat.le_of_ble_eq_true rfl)) fun u H2 x3 z => ?_
          obtain ⟨t1, rfl, _, hq1⟩ := z
          exact sb_thru (sb_thru (sb_next (fin H2 t1 x3 (by rw [ec]; exact hq1))))
    · obtain ⟨ws, v6, x2, hl, hV, hw, hW, rfl⟩ := W
      rw [hV.len, List.take_length] at hW
      exact sb_retI (ex_var 5) fun H2 x => q _ H2 (x2.trans x) ⟨g, ws, rfl, x _ _ hw, hW.tx x.tx⟩

abbrev s__law_within : Stmt := topS 45
theorem sc__law_within : FnScope ["_law_runs", "_law_low", "_law_high", "_law_found", "_law_run_here"] ["_law_runs", "_law_low", "_law_high"] (defScope s__law_within) := ⟨rfl, rfl, rfl, by decide +kernel, rfl, by decide +kernel, by decide +kernel⟩
theorem ok__law_within (B : Bt mg) (F : Df K mg "_law_within" s__law_within ["_law_runs", "_law_low", "_law_high"]) : Dn P w K mg base "_law_within" 1 ["_law_runs", "_law_low", "_law_high"] spWithin :=
  def_ok F sc__law_within (fun vs H Q E ⟨_, _, _, _, e, _⟩ => by rw [e] <;> rfl) fun f cdv A outer s H vs Q E hr h => by
    obtain ⟨_, rs, lo, hi, rfl, ⟨l, vs, rfl, hl, hV⟩, hz, q⟩ := h
    refine sb_new 3 sc__law_within.nd (ex_lst av_nil (by exact Nat.le_of_ble_eq_true rfl)) fun g hg => ?_
    refine sb_forL 4 (passes_of rfl) sc__law_within.nd (ex_var 0) (SqL.of (Ex.new (o := .lst []) hg _ _ hl)) (fun i σ' H' => ∃ (ws : List V) (v4 : Option V), Ex H H' ∧ H' g = some (.lst ws) ∧ RunsV H' ws (winR lo hi (rs.take i)) ∧ σ' = [some (.ref l), some (.int lo), some (.int hi), some (.ref g), v4]) ⟨[], none, Ex.new hg, upd_same, RunsV.nil, rfl⟩ (fun i σ' H' _ ⟨_, _, x, _⟩ => SqL.of (x _ _ hl)) (fun i x σ' H' hx W => ?_) (fun σ' H' W => ?_)
    · obtain ⟨ws, v4, x1, hw, hW, rfl⟩ := W
      obtain ⟨t, r, rfl, hrr, ht⟩ := hV.get hx
      have ht1 := x1 _ _ ht
      have wl : ws.length ≤ 20000 := by
        rw [hW.len]
        have := flat_le (win1_le lo hi) (rs.take i)
        rw [List.length_take] at this
        unfold winR
        omega
      have et : winR lo hi (rs.take (i + 1)) = winR lo hi (rs.take i) ++ win1 lo hi r := take_flat hrr

      refine sb_when (tx_lt (ex_max B.max (av_cons (ex_ixT (ex_var 4) ex_i (SqT.of ht1) rfl) (av_cons (ex_var 1) av_nil))) (ex_min B.min (av_cons (ex_ixT (ex_var 4) ex_i (SqT.of ht1) rfl) (av_cons (ex_var 2) av_nil)))) (fun c => ?_) (fun c => ?_)
      · have c := of_decide_eq_true c
        rw [minI, maxI] at c
        refine sb_app (R := NT [.int (max r.a lo), .int (min r.b hi), .int r.v]) (ex_var 3) hw (by omega) (EX.mono (ex_tup (av_cons (ex_max B.max (av_cons (ex_ixT (ex_var 4) ex_i (SqT.of ht1) rfl) (av_cons (ex_var 1) av_nil))) (av_cons (ex_min B.min (av_cons (ex_ixT (ex_var 4) ex_i (SqT.of ht1) rfl) (av_cons (ex_var 2) av_nil))) (av_cons (ex_ixT (ex_var 4) ex_i (SqT.of ht1) rfl) av_nil))) (by exact Nat.le_of_ble_eq_true rfl)) (fun _ _ _ _ _ z => by rw [minI, maxI] at z; exact z)) fun u H2 x2 z => ?_
        obtain ⟨t1, rfl, _, hq1⟩ := z
        have T1 : Tx H2 (upd H2 g (.lst (ws ++ [.ref t1]))) := Tx.lst (x2 _ _ hw)
        have W1 : RunsV (upd H2 g (.lst (ws ++ [.ref t1]))) (ws ++ [.ref t1]) (winR lo hi (rs.take i) ++ [⟨max r.a lo, min r.b hi, r.v⟩]) := RunsV.push ((hW.tx x2.tx).tx T1) (T1 _ _ hq1)
        have ec : win1 lo hi r = [⟨max r.a lo, min r.b hi, r.v⟩] := by unfold win1; rw [if_pos c]
        exact sb_thru (sb_next (by exact ⟨_, _, Ex.mut (x1.trans x2) hg, upd_same, by rw [et, ec]; exact W1, rfl⟩))
      · have c := of_decide_eq_false c
        rw [minI, maxI] at c
        have ec : win1 lo hi r = [] := by unfold win1; rw [if_neg c]
        exact sb_next (by exact ⟨_, _, x1, hw, by rw [et, ec, List.append_nil]; exact hW, rfl⟩)
    · obtain ⟨ws, v4, x1, hw, hW, rfl⟩ := W
      rw [hV.len, List.take_length] at hW
      exact sb_retI (ex_var 3) fun H2 x => q _ H2 (x1.trans x) ⟨g, ws, rfl, x _ _ hw, hW.tx x.tx⟩

abbrev s__law_due : Stmt := topS 46
theorem sc__law_due : FnScope ["_law_runs", "_law_word", "_law_low", "_law_high", "_law_some", "_law_run_here", "_law_row", "_law_best"] ["_law_runs", "_law_word", "_law_low", "_law_high"] (defScope s__law_due) := ⟨rfl, rfl, rfl, by decide +kernel, rfl, by decide +kernel, by decide +kernel⟩
theorem ok__law_due (B : Bt mg) (F : Df K mg "_law_due" s__law_due ["_law_runs", "_law_word", "_law_low", "_law_high"]) (G__law_within : Dn P w K mg base "_law_within" 1 ["_law_runs", "_law_low", "_law_high"] spWithin) : Dn P w K mg base "_law_due" 2 ["_law_runs", "_law_word", "_law_low", "_law_high"] spDue :=
  def_ok F sc__law_due (fun vs H Q E ⟨_, _, _, _, _, _, _, e, _⟩ => by rw [e] <;> rfl) fun f cdv A outer s H vs Q E hr h => by
    obtain ⟨ru, rs, wd, lo, hi, n, an, rfl, hR, hz, hC, hn, lo0, hlh, hhn, hA, q⟩ := h

    refine sb_asg (R := Of (RunsP (winR lo hi rs))) 4 sc__law_due.nd (ex_call G__law_within hr (av_cons (ex_var 0) (av_cons (ex_var 2) (av_cons (ex_var 3) av_nil))) (fun H1 Q x q => ⟨_, rs, lo, hi, rfl, PM.m x hR, hz, q⟩)) fun so H1 x1 hso => ?_
    obtain ⟨l, vs, rfl, hl, hV⟩ := hso
    have hcw : Cov lo (winR lo hi rs) hi := by
      have := winR_cov hC hlh hhn (by omega)
      rw [show max lo 0 = lo by omega, show max hi lo = hi by omega] at this
      exact this
    have hrow : rowOf (winR lo hi rs) = cut (rowOf rs) lo hi := by
      have := winR_row (lo := lo) (hi := hi) hC hlh
      rw [Int.sub_zero, Int.sub_zero] at this
      exact this
    have hs := winR_str lo hi rs
    have wl : (winR lo hi rs).length ≤ 2 * rs.length := flat_le (win1_le lo hi) rs
    generalize winR lo hi rs = ws at hV hcw hrow hs wl
    have hlw := hcw.length
    have hlr := hC.length
    have hvl := hV.len
    rcases hA with ⟨rfl, rfl⟩ | ⟨rfl, hsm, rfl⟩ | ⟨rfl, hlt, m, hm, rfl⟩ | ⟨rfl, hlt, m, hm, rfl⟩
    · refine sb_when (k := true) (TX.is (tx_eq (ex_var 1) ex_s) (by decide +kernel)) (fun _ => ?_) (fun c => by cases c)

      have hsum : (ws.map fun r => (r.b - r.a) * r.v).sum = (cut (rowOf rs) lo hi).sum := by rw [rowOf_sum hcw, hrow]
      refine sb_retI (v := .int (ws.map fun r => (r.b - r.a) * r.v).sum) (ex_sumN B.sum (xs := (ws.map fun r => (r.b - r.a) * r.v).map V.int) (ax_cons (ex_lcY 5 ((ws.map fun r => (r.b - r.a) * r.v).map V.int) sc__law_due.nd (ex_var 4) (SqL.of hl) (by omega) (by rw [List.length_map, List.length_map, hvl]) (blkOk_by (N := ["_law_runs", "_law_word", "_law_low", "_law_high", "_law_some", "_law_run_here", "_law_row", "_law_best"]) (sc := defScope s__law_due) (by decide +kernel)) (fun _ _ _ _ _ => pg_name (i := 5) sc__law_due.nd rfl (Or.inl rfl)) (fun s' H' C cl fp i x y H2 x2 hx hy => by
        obtain ⟨t, r, rfl, hrr, ht⟩ := hV.get hx
        have ht2 := x2 _ _ ht
        have hb := hcw.mem (List.mem_of_getElem? hrr)
        rw [List.getElem?_map, List.getElem?_map, hrr] at hy
        cases hy
        exact (ex_mulL (ex_sub (ex_ixT (ex_var 5) ex_i (SqT.of ht2) rfl) (ex_ixT (ex_var 5) ex_i (SqT.of ht2) rfl)) (ex_ixT (ex_var 5) ex_i (SqT.of ht2) rfl) ⟨by omega, by omega⟩))) ax_nil) rfl) fun H2 x => ?_
      rw [hsum]
      exact q _ H2 (x1.trans x) RA.num
    · refine sb_when (k := false) (TX.is (tx_eq (ex_var 1) ex_s) (by decide +kernel)) (fun c => by cases c) (fun _ => ?_)
      refine sb_when (k := true) (TX.is (tx_eq (ex_var 1) ex_s) (by decide +kernel)) (fun _ => ?_) (fun c => by cases c)
      refine sb_new 6 sc__law_due.nd (ex_lst av_nil (by exact Nat.le_of_ble_eq_true rfl)) fun p hp => ?_
      refine sb_forL 5 (passes_of rfl) sc__law_due.nd (ex_var 4) (SqL.of (Ex.new (o := .lst []) hp _ _ hl)) (fun i σ' H' => ∃ (p' : Addr) (v5 : Option V), Ex H1 H' ∧ H p' = none ∧ H' p' = some (.lst ((rowOf (ws.take i)).map V.int)) ∧ σ' = [some ru, some (.str "list"), some (.int lo), some (.int hi), some (.ref l), v5, some (.ref p'), none]) ⟨p, none, Ex.new hp, x1.fresh hp, upd_same, rfl⟩ (fun i σ' H' _ ⟨_, _, x, _⟩ => SqL.of (x _ _ hl)) (fun i x σ' H' hx W => ?_) (fun σ' H' W => ?_)
      · obtain ⟨p', v5, x2, hp0, hp', rfl⟩ := W
        obtain ⟨t, r, rfl, hrr, ht⟩ := hV.get hx
        have ht2 := x2 _ _ ht
        have etr := take_row hrr
        have hb := hcw.mem (List.mem_of_getElem? hrr)
        have hsz : (rowOf (ws.take i)).length + (List.replicate (r.b - r.a).toNat r.v).length ≤ (rowOf ws).length := by
          rw [← List.length_append, ← etr]
          conv => rhs; rw [← List.take_append_drop (i + 1) ws, rowOf_append, List.length_append]
          omega
        rw [List.length_replicate] at hsz

        refine sb_new 6 sc__law_due.nd (xs := (rowOf (ws.take (i + 1))).map V.int) (EX.mono (ex_catR (ex_var 6) (ex_rep1 (ex_lst (av_cons (ex_ixT (ex_var 5) ex_i (SqT.of ht2) rfl) av_nil) (by exact Nat.le_of_ble_eq_true rfl)) (ex_sub (ex_ixT (ex_var 5) ex_i (SqT.of ht2) rfl) (ex_ixT (ex_var 5) ex_i (SqT.of ht2) rfl)) (by omega) (by omega)) hp' (by rw [List.length_map, List.length_replicate]; omega)) (fun H5 u H6 _ _ z => by
          rw [etr, List.map_append, List.map_replicate]
          exact z)) fun p2 hp2 => sb_next (by exact ⟨p2, _, x2.trans (Ex.new hp2), (x1.trans x2).fresh hp2, upd_same, rfl⟩)
      · obtain ⟨p', v5, x2, hp0, hp', rfl⟩ := W
        rw [hvl, List.take_length, hrow] at hp'
        refine sb_retI (ex_var 6) fun H2 x => q _ H2 ((x1.trans x2).trans x) ⟨⟨p', rfl, x _ _ hp', ?_⟩, fun xs e => ⟨p', rfl, hp0⟩⟩
        rw [← hrow]
        omega
    all_goals
      refine sb_when (k := false) (TX.is (tx_eq (ex_var 1) ex_s) (by decide +kernel)) (fun c => by cases c) (fun _ => ?_)
      refine sb_when (k := false) (TX.is (tx_eq (ex_var 1) ex_s) (by decide +kernel)) (fun c => by cases c) (fun _ => ?_)
      have hws : 0 < ws.length := by
        cases ws with
        | nil =>
          have e : lo = hi := hcw
          omega
        | cons _ _ => exact Nat.zero_lt_succ _
      obtain ⟨t0, h0, ht0⟩ := hV.at_ 0 _ (List.getElem?_eq_getElem hws)
      have hw0 := List.getElem?_eq_getElem hws
      generalize ws[0]'hws = r0 at ht0 hw0
      refine sb_set 7 sc__law_due.nd (ex_ixL (ex_var 4) ex_i (SqL.of hl) (at_of (show (0 : Int) = ((0 : Nat) : Int) from rfl) h0)) ?_
      refine sb_forL 5 (passes_of rfl) sc__law_due.nd (ex_var 4) (SqL.of hl) (fun i σ' H' => H' = H1 ∧ ∃ (tb : Addr) (x : Run) (v5 : Option V), H1 tb = some (.tup [.int x.a, .int x.b, .int x.v]) ∧ Best ws i x ∧ σ' = [some ru, some (.str _), some (.int lo), some (.int hi), some (.ref l), v5, none, some (.ref tb)]) ⟨rfl, t0, r0, none, ht0, Best.start hw0, rfl⟩ (fun i σ' H' _ ⟨e, _⟩ => by rw [e]; exact SqL.of hl) (fun i x σ' H' hx W => ?_) (fun σ' H' W => ?_)
      · obtain ⟨rfl, tb, xb, v5, htb, hbest, rfl⟩ := W
        obtain ⟨t, r, rfl, hrr, ht⟩ := hV.get hx

        refine sb_when (tx_lt (ex_ixT (ex_var 5) ex_i (SqT.of ht) rfl) (ex_ixT (ex_var 7) ex_i (SqT.of htb) rfl)) (fun c => ?_) (fun c => ?_)
        · refine sb_set 7 sc__law_due.nd (ex_var 5) (sb_thru (sb_next (by exact ⟨rfl, t, r, _, ht, hbest.lower hrr (of_decide_eq_true c), rfl⟩)))
        · exact sb_next (by exact ⟨rfl, tb, xb, _, htb, hbest.stay hrr (by have := of_decide_eq_false c; omega), rfl⟩)
      obtain ⟨rfl, tb, xb, v5, htb, hbest, rfl⟩ := W
      rw [hvl] at hbest
      obtain ⟨hmin, hfst⟩ := hbest.fin hcw hs lo0 (by omega) hrow
      have em := isMin_unique hm hmin
      subst em
    · refine sb_when (k := true) (TX.is (tx_eq (ex_var 1) ex_s) (by decide +kernel)) (fun _ => ?_) (fun c => by cases c)
      exact sb_retI (ex_ixT (ex_var 7) ex_i (SqT.of htb) rfl) fun H2 x => q _ H2 (x1.trans x) RA.num
    · refine sb_when (k := false) (TX.is (tx_eq (ex_var 1) ex_s) (by decide +kernel)) (fun c => by cases c) (fun _ => ?_)
      refine sb_retI (ex_ixT (ex_var 7) ex_i (SqT.of htb) rfl) fun H2 x => q _ H2 (x1.trans x) ?_
      rw [hfst]
      exact RA.num

abbrev s__law_first : Stmt := topS 47
theorem sc__law_first : FnScope ["_law_runs", "_law_low", "_law_bound", "_law_run_here"] ["_law_runs", "_law_low", "_law_bound"] (defScope s__law_first) := ⟨rfl, rfl, rfl, by decide +kernel, rfl, by decide +kernel, by decide +kernel⟩
theorem ok__law_first (B : Bt mg) (F : Df K mg "_law_first" s__law_first ["_law_runs", "_law_low", "_law_bound"]) : Dn P w K mg base "_law_first" 1 ["_law_runs", "_law_low", "_law_bound"] spFirR :=
  def_ok F sc__law_first (fun vs H Q E ⟨_, _, _, _, e, _⟩ => by rw [e] <;> rfl) fun f cdv A outer s H vs Q E hr h => by
    obtain ⟨_, rs, lo, bd, rfl, ⟨l, vs, rfl, hl, hV⟩, q⟩ := h

    refine sb_forL 3 (passes_of rfl) sc__law_first.nd (ex_var 0) (SqL.of hl) (fun i σ' H' => H' = H ∧ firR lo bd rs = firR lo bd (rs.drop i) ∧ ∃ v3 : Option V, σ' = [some (.ref l), some (.int lo), some (.int bd), v3]) ⟨rfl, rfl, none, rfl⟩ (fun i σ' H' _ ⟨e, _⟩ => by rw [e]; exact SqL.of hl) (fun i x σ' H' hx W => ?_) (fun σ' H' W => ?_)
    · obtain ⟨rfl, hf, v3, rfl⟩ := W
      obtain ⟨t, r, rfl, hrr, ht⟩ := hV.get hx

      refine sb_when (tx_w (wx_and (tx_gt (ex_ixT (ex_var 3) ex_i (SqT.of ht) rfl) (ex_var 1)) (fun z1 => (wx_and1 (tx_le (ex_ixT (ex_var 3) ex_i (SqT.of ht) rfl) (ex_var 2)))))) (fun c => ?_) (fun c => ?_)
      · have c : lo < r.b ∧ r.v ≤ bd := by simpa using c
        rw [hf, firR_hit hrr c.1 c.2] at q
        exact sb_ret (EX.is (ex_max B.max (av_cons (ex_ixT (ex_var 3) ex_i (SqT.of ht) rfl) (av_cons (ex_var 1) av_nil))) (by rw [maxI]; rfl)) q
      · have c : ¬ (lo < r.b ∧ r.v ≤ bd) := by simpa using c
        exact sb_next (by exact ⟨rfl, by rw [hf, firR_miss hrr c], _, rfl⟩)
    · obtain ⟨rfl, hf, v3, rfl⟩ := W
      rw [hf, hV.len, List.drop_length] at q
      exact sb_ret (EX.is ex_n rfl) q

-- SPLIT
/-! ### deeds as they stand in the heap -/
def deedV : Deed → List V
  | .change fl lo hi v => [.str (wordF fl), .int lo, .int hi, .int v]
  | .total lo hi => [.str "total", .int lo, .int hi]
  | .least lo hi => [.str "least", .int lo, .int hi]
  | .place lo hi => [.str "place", .int lo, .int hi]
  | .first lo bd => [.str "first", .int lo, .int bd]
  | .list lo hi => [.str "list", .int lo, .int hi]
  | .back => [.str "back"]
def isQ : Deed → Prop
  | .change _ _ _ _ => False
  | .back => False
  | _ => True
def badS : Bad → Str
  | .out => "out of row"
  | .nothing => "nothing"
  | .many => "too many"
def badC (CO CN CT : Addr) : Bad → Addr
  | .out => CO
  | .nothing => CN
  | .many => CT
/-- what is answered, what is refused by its text -/
def ansT : Out → Ans
  | .num o => .num o
  | .row xs => .row xs
  | .bad b => .txt (badS b)
def GoodO (o : Out) (H : Hp) (Q : VK) : Prop := ∀ b, o ≠ .bad b → Gives (RA (ansT o)) H Q
def spTold14 (CO CN CT : Addr) : Sp := fun vs H Q E => ∃ (bk : V) (d : Addr) (row : List Int) (dd : Deed), vs = [bk, .ref d] ∧ Bk row H bk ∧ H d = some (.tup (deedV dd)) ∧ isQ dd ∧ ((∀ b, outOf row dd ≠ .bad b) → Gives (RA (ansT (outOf row dd))) H Q) ∧ (∀ b, outOf row dd = .bad b → Rz (badC CO CN CT b) H E)
def spGone14 (CO : Addr) : Sp := fun vs H Q E => ∃ (bk : V) (d : Addr) (row : List Int) (fl : Bool) (lo hi v : Int), vs = [bk, .ref d] ∧ Bk row H bk ∧ H d = some (.tup (deedV (.change fl lo hi v))) ∧ (InRow row lo hi → Gives (Of (Bk (chg (chgF fl v) row lo hi))) H Q) ∧ (¬ InRow row lo hi → Rz CO H E)


abbrev s_told : Stmt := topS 35
theorem sc_told : FnScope ["book", "deed"] ["book", "deed"] (defScope s_told) := ⟨rfl, rfl, rfl, by decide +kernel, rfl, by decide +kernel, by decide +kernel⟩
theorem ok_told {CO CN CT : Addr} (F : Df K mg "told" s_told ["book", "deed"]) (G_total : Dn P w K mg base "total" 42 ["book", "low", "high"] (spTotal CO)) (G_least : Dn P w K mg base "least" 42 ["book", "low", "high"] (spLeast CO CN)) (G_place : Dn P w K mg base "place" 43 ["book", "low", "high"] (spPlace CO CN)) (G_first : Dn P w K mg base "first" 42 ["book", "low", "bound"] (spFirst CO)) (G_listed : Dn P w K mg base "listed" 42 ["book", "low", "high"] (spListed CO CT)) :
    Dn P w K mg base "told" 44 ["book", "deed"] (spTold14 CO CN CT) :=
  def_ok F sc_told (fun vs H Q E ⟨_, _, _, _, e, _⟩ => by rw [e] <;> rfl) fun f cdv A outer s H vs Q E hr h => by
    obtain ⟨bk, d, row, dd, rfl, hB, hd, hq, qN, qR⟩ := h

    cases dd with
    | change fl lo hi v => exact hq.elim
    | back => exact hq.elim
    | total lo hi =>
      refine sb_when (k := true) (TX.is (tx_eq (ex_ixT (ex_var 1) ex_i (SqT.of hd) rfl) ex_s) (by decide +kernel)) (fun _ => ?_) (fun c => by cases c)
      by_cases hL : Lies row lo hi
      · have e : outOf row (.total lo hi) = .num (some (cut row lo hi).sum) := if_pos hL
        rw [e] at qN
        exact sb_retI (v := .int (cut row lo hi).sum) (ex_callX (passes_call (takes_of rfl rfl rfl rfl) (fun _ _ _ _ h => h)) G_total hr (av_cons (ex_var 0) (av_cons (ex_ixT (ex_var 1) ex_i (SqT.of hd) rfl) (av_cons (ex_ixT (ex_var 1) ex_i (SqT.of hd) rfl) av_nil))) (fun H1 Q x q => ⟨_, row, lo, hi, rfl, hB.ex x, fun _ => q, fun z => absurd hL z⟩)) (fun H2 x => qN (fun b z => by cases z) _ H2 x RA.num)
      · have e : outOf row (.total lo hi) = .bad .out := if_neg hL
        exact sb_ret (R := No) (ex_callX (passes_call (takes_of rfl rfl rfl rfl) (fun _ _ _ _ h => h)) G_total hr (av_cons (ex_var 0) (av_cons (ex_ixT (ex_var 1) ex_i (SqT.of hd) rfl) (av_cons (ex_ixT (ex_var 1) ex_i (SqT.of hd) rfl) av_nil))) (fun H1 Q x q => ⟨_, row, lo, hi, rfl, hB.ex x, fun z => absurd z hL, fun _ => (qR .out e).up x⟩)) (fun _ _ _ z => z.elim)
    | least lo hi =>
      refine sb_when (k := false) (TX.is (tx_eq (ex_ixT (ex_var 1) ex_i (SqT.of hd) rfl) ex_s) (by decide +kernel)) (fun c => by cases c) (fun _ => ?_)
      refine sb_when (k := true) (TX.is (tx_eq (ex_ixT (ex_var 1) ex_i (SqT.of hd) rfl) ex_s) (by decide +kernel)) (fun _ => ?_) (fun c => by cases c)
      by_cases hL : Lies row lo hi
      · by_cases he : lo = hi
        · have e : outOf row (.least lo hi) = .bad .nothing := by show (if _ then _ else _) = _; rw [if_neg (fun z => z hL), if_pos he]
          exact sb_ret (R := No) (ex_callX (passes_call (takes_of rfl rfl rfl rfl) (fun _ _ _ _ h => h)) G_least hr (av_cons (ex_var 0) (av_cons (ex_ixT (ex_var 1) ex_i (SqT.of hd) rfl) (av_cons (ex_ixT (ex_var 1) ex_i (SqT.of hd) rfl) av_nil))) (fun H1 Q x q => ⟨_, row, lo, hi, rfl, hB.ex x, fun _ z => by omega, fun _ _ => (qR .nothing e).up x, fun z => absurd hL z⟩)) (fun _ _ _ z => z.elim)
        · have hlt : lo < hi := by have := hL.2.1; omega
          have hm := minL_is (cut_ne hL.1 hlt hL.2.2 : cut row lo hi ≠ [])
          have e : outOf row (.least lo hi) = .num (some (minL (cut row lo hi))) := by show (if _ then _ else _) = _; rw [if_neg (fun z => z hL), if_neg he]
          rw [e] at qN
          exact sb_retI (v := .int (minL (cut row lo hi))) (ex_callX (passes_call (takes_of rfl rfl rfl rfl) (fun _ _ _ _ h => h)) G_least hr (av_cons (ex_var 0) (av_cons (ex_ixT (ex_var 1) ex_i (SqT.of hd) rfl) (av_cons (ex_ixT (ex_var 1) ex_i (SqT.of hd) rfl) av_nil))) (fun H1 Q x q => ⟨_, row, lo, hi, rfl, hB.ex x, fun _ _ m' h' => by rw [isMin_unique h' hm]; exact q, fun _ z => by omega, fun z => absurd hL z⟩)) (fun H2 x => qN (fun b z => by cases z) _ H2 x RA.num)
      · have e : outOf row (.least lo hi) = .bad .out := if_pos hL
        exact sb_ret (R := No) (ex_callX (passes_call (takes_of rfl rfl rfl rfl) (fun _ _ _ _ h => h)) G_least hr (av_cons (ex_var 0) (av_cons (ex_ixT (ex_var 1) ex_i (SqT.of hd) rfl) (av_cons (ex_ixT (ex_var 1) ex_i (SqT.of hd) rfl) av_nil))) (fun H1 Q x q => ⟨_, row, lo, hi, rfl, hB.ex x, fun z => absurd z hL, fun z => absurd z hL, fun _ => (qR .out e).up x⟩)) (fun _ _ _ z => z.elim)
    | place lo hi =>
      refine sb_when (k := false) (TX.is (tx_eq (ex_ixT (ex_var 1) ex_i (SqT.of hd) rfl) ex_s) (by decide +kernel)) (fun c => by cases c) (fun _ => ?_)
      refine sb_when (k := false) (TX.is (tx_eq (ex_ixT (ex_var 1) ex_i (SqT.of hd) rfl) ex_s) (by decide +kernel)) (fun c => by cases c) (fun _ => ?_)
      refine sb_when (k := true) (TX.is (tx_eq (ex_ixT (ex_var 1) ex_i (SqT.of hd) rfl) ex_s) (by decide +kernel)) (fun _ => ?_) (fun c => by cases c)
      by_cases hL : Lies row lo hi
      · by_cases he : lo = hi
        · have e : outOf row (.place lo hi) = .bad .nothing := by show (if _ then _ else _) = _; rw [if_neg (fun z => z hL), if_pos he]
          exact sb_ret (R := No) (ex_callX (passes_call (takes_of rfl rfl rfl rfl) (fun _ _ _ _ h => h)) G_place hr (av_cons (ex_var 0) (av_cons (ex_ixT (ex_var 1) ex_i (SqT.of hd) rfl) (av_cons (ex_ixT (ex_var 1) ex_i (SqT.of hd) rfl) av_nil))) (fun H1 Q x q => ⟨_, row, lo, hi, rfl, hB.ex x, fun _ z => by omega, fun _ _ => (qR .nothing e).up x, fun z => absurd hL z⟩)) (fun _ _ _ z => z.elim)
        · have hlt : lo < hi := by have := hL.2.1; omega
          have hm := minL_is (cut_ne hL.1 hlt hL.2.2 : cut row lo hi ≠ [])
          have e : outOf row (.place lo hi) = .num (fst row lo (minL (cut row lo hi))) := by show (if _ then _ else _) = _; rw [if_neg (fun z => z hL), if_neg he]
          rw [e] at qN
          exact sb_retI (v := optV (fst row lo (minL (cut row lo hi)))) (ex_callX (passes_call (takes_of rfl rfl rfl rfl) (fun _ _ _ _ h => h)) G_place hr (av_cons (ex_var 0) (av_cons (ex_ixT (ex_var 1) ex_i (SqT.of hd) rfl) (av_cons (ex_ixT (ex_var 1) ex_i (SqT.of hd) rfl) av_nil))) (fun H1 Q x q => ⟨_, row, lo, hi, rfl, hB.ex x, fun _ _ m' h' => by rw [isMin_unique h' hm]; exact q, fun _ z => by omega, fun z => absurd hL z⟩)) (fun H2 x => qN (fun b z => by cases z) _ H2 x RA.num)
      · have e : outOf row (.place lo hi) = .bad .out := if_pos hL
        exact sb_ret (R := No) (ex_callX (passes_call (takes_of rfl rfl rfl rfl) (fun _ _ _ _ h => h)) G_place hr (av_cons (ex_var 0) (av_cons (ex_ixT (ex_var 1) ex_i (SqT.of hd) rfl) (av_cons (ex_ixT (ex_var 1) ex_i (SqT.of hd) rfl) av_nil))) (fun H1 Q x q => ⟨_, row, lo, hi, rfl, hB.ex x, fun z => absurd z hL, fun z => absurd z hL, fun _ => (qR .out e).up x⟩)) (fun _ _ _ z => z.elim)
    | first lo hi =>
      refine sb_when (k := false) (TX.is (tx_eq (ex_ixT (ex_var 1) ex_i (SqT.of hd) rfl) ex_s) (by decide +kernel)) (fun c => by cases c) (fun _ => ?_)
      refine sb_when (k := false) (TX.is (tx_eq (ex_ixT (ex_var 1) ex_i (SqT.of hd) rfl) ex_s) (by decide +kernel)) (fun c => by cases c) (fun _ => ?_)
      refine sb_when (k := false) (TX.is (tx_eq (ex_ixT (ex_var 1) ex_i (SqT.of hd) rfl) ex_s) (by decide +kernel)) (fun c => by cases c) (fun _ => ?_)
      refine sb_when (k := true) (TX.is (tx_eq (ex_ixT (ex_var 1) ex_i (SqT.of hd) rfl) ex_s) (by decide +kernel)) (fun _ => ?_) (fun c => by cases c)
      by_cases hL : 0 ≤ lo ∧ lo ≤ (row.length : Int)
      · have e : outOf row (.first lo hi) = .num (fst row lo hi) := if_pos hL
        rw [e] at qN
        exact sb_retI (v := optV (fst row lo hi)) (ex_callX (passes_call (takes_of rfl rfl rfl rfl) (fun _ _ _ _ h => h)) G_first hr (av_cons (ex_var 0) (av_cons (ex_ixT (ex_var 1) ex_i (SqT.of hd) rfl) (av_cons (ex_ixT (ex_var 1) ex_i (SqT.of hd) rfl) av_nil))) (fun H1 Q x q => ⟨_, row, lo, hi, rfl, hB.ex x, fun _ => q, fun z => by omega⟩)) (fun H2 x => qN (fun b z => by cases z) _ H2 x RA.num)
      · have e : outOf row (.first lo hi) = .bad .out := if_neg hL
        exact sb_ret (R := No) (ex_callX (passes_call (takes_of rfl rfl rfl rfl) (fun _ _ _ _ h => h)) G_first hr (av_cons (ex_var 0) (av_cons (ex_ixT (ex_var 1) ex_i (SqT.of hd) rfl) (av_cons (ex_ixT (ex_var 1) ex_i (SqT.of hd) rfl) av_nil))) (fun H1 Q x q => ⟨_, row, lo, hi, rfl, hB.ex x, fun z => absurd z hL, fun _ => (qR .out e).up x⟩)) (fun _ _ _ z => z.elim)
    | list lo hi =>
      refine sb_when (k := false) (TX.is (tx_eq (ex_ixT (ex_var 1) ex_i (SqT.of hd) rfl) ex_s) (by decide +kernel)) (fun c => by cases c) (fun _ => ?_)
      refine sb_when (k := false) (TX.is (tx_eq (ex_ixT (ex_var 1) ex_i (SqT.of hd) rfl) ex_s) (by decide +kernel)) (fun c => by cases c) (fun _ => ?_)
      refine sb_when (k := false) (TX.is (tx_eq (ex_ixT (ex_var 1) ex_i (SqT.of hd) rfl) ex_s) (by decide +kernel)) (fun c => by cases c) (fun _ => ?_)
      refine sb_when (k := false) (TX.is (tx_eq (ex_ixT (ex_var 1) ex_i (SqT.of hd) rfl) ex_s) (by decide +kernel)) (fun c => by cases c) (fun _ => ?_)
      by_cases hL : Lies row lo hi
      · by_cases he : hi - lo ≤ 1000
        · have e : outOf row (.list lo hi) = .row (cut row lo hi) := by show (if _ then _ else _) = _; rw [if_neg (fun z => z hL), if_neg (by omega)]
          rw [e] at qN
          have hc := cut_length hL.1 hL.2.1 hL.2.2
          exact sb_ret (R := NL ((cut row lo hi).map V.int)) (ex_callX (passes_call (takes_of rfl rfl rfl rfl) (fun _ _ _ _ h => h)) G_listed hr (av_cons (ex_var 0) (av_cons (ex_ixT (ex_var 1) ex_i (SqT.of hd) rfl) (av_cons (ex_ixT (ex_var 1) ex_i (SqT.of hd) rfl) av_nil))) (fun H1 Q x q => ⟨_, row, lo, hi, rfl, hB.ex x, fun _ _ => q, fun _ z => by omega, fun z => absurd hL z⟩)) (fun v H2 x r => qN (fun b z => by cases z) v H2 x (RA.of_nl (by omega) r))
        · have e : outOf row (.list lo hi) = .bad .many := by show (if _ then _ else _) = _; rw [if_neg (fun z => z hL), if_pos (by omega)]
          exact sb_ret (R := No) (ex_callX (passes_call (takes_of rfl rfl rfl rfl) (fun _ _ _ _ h => h)) G_listed hr (av_cons (ex_var 0) (av_cons (ex_ixT (ex_var 1) ex_i (SqT.of hd) rfl) (av_cons (ex_ixT (ex_var 1) ex_i (SqT.of hd) rfl) av_nil))) (fun H1 Q x q => ⟨_, row, lo, hi, rfl, hB.ex x, fun _ z => by omega, fun _ _ => (qR .many e).up x, fun z => absurd hL z⟩)) (fun _ _ _ z => z.elim)
      · have e : outOf row (.list lo hi) = .bad .out := if_pos hL
        exact sb_ret (R := No) (ex_callX (passes_call (takes_of rfl rfl rfl rfl) (fun _ _ _ _ h => h)) G_listed hr (av_cons (ex_var 0) (av_cons (ex_ixT (ex_var 1) ex_i (SqT.of hd) rfl) (av_cons (ex_ixT (ex_var 1) ex_i (SqT.of hd) rfl) av_nil))) (fun H1 Q x q => ⟨_, row, lo, hi, rfl, hB.ex x, fun z => absurd z hL, fun z => absurd z hL, fun _ => (qR .out e).up x⟩)) (fun _ _ _ z => z.elim)

abbrev s_gone_on : Stmt := topS 36
theorem sc_gone_on : FnScope ["book", "deed"] ["book", "deed"] (defScope s_gone_on) := ⟨rfl, rfl, rfl, by decide +kernel, rfl, by decide +kernel, by decide +kernel⟩
theorem ok_gone_on {CO : Addr} (F : Df K mg "gone_on" s_gone_on ["book", "deed"]) (G_added : Dn P w K mg base "added" 44 ["book", "low", "high", "by"] (spAdded CO)) (G_filled : Dn P w K mg base "filled" 44 ["book", "low", "high", "number"] (spFilled CO)) : Dn P w K mg base "gone_on" 45 ["book", "deed"] (spGone14 CO) :=
  def_ok F sc_gone_on (fun vs H Q E ⟨_, _, _, _, _, _, _, e, _⟩ => by rw [e] <;> rfl) fun f cdv A outer s H vs Q E hr h => by
    obtain ⟨bk, d, row, fl, lo, hi, v, rfl, hB, hd, qN, qR⟩ := h

    cases fl with
    | false =>
      refine sb_when (k := true) (TX.is (tx_eq (ex_ixT (ex_var 1) ex_i (SqT.of hd) rfl) ex_s) (by decide +kernel)) (fun _ => ?_) (fun c => by cases c)
      by_cases hL : Lies row lo hi
      · exact sb_ret (R := Of (Bk (chg (fun x => x + v) row lo hi))) (ex_callX (passes_call (takes_of rfl rfl rfl rfl) (fun _ _ _ _ h => h)) G_added hr (av_cons (ex_var 0) (av_cons (ex_ixT (ex_var 1) ex_i (SqT.of hd) rfl) (av_cons (ex_ixT (ex_var 1) ex_i (SqT.of hd) rfl) (av_cons (ex_ixT (ex_var 1) ex_i (SqT.of hd) rfl) av_nil)))) (fun H1 Q x q => ⟨_, row, lo, hi, v, rfl, hB.ex x, fun _ => q, fun z => absurd hL z⟩)) (qN hL)
      · exact sb_ret (R := No) (ex_callX (passes_call (takes_of rfl rfl rfl rfl) (fun _ _ _ _ h => h)) G_added hr (av_cons (ex_var 0) (av_cons (ex_ixT (ex_var 1) ex_i (SqT.of hd) rfl) (av_cons (ex_ixT (ex_var 1) ex_i (SqT.of hd) rfl) (av_cons (ex_ixT (ex_var 1) ex_i (SqT.of hd) rfl) av_nil)))) (fun H1 Q x q => ⟨_, row, lo, hi, v, rfl, hB.ex x, fun z => absurd z hL, fun _ => (qR hL).up x⟩)) (fun _ _ _ z => z.elim)
    | true =>
      refine sb_when (k := false) (TX.is (tx_eq (ex_ixT (ex_var 1) ex_i (SqT.of hd) rfl) ex_s) (by decide +kernel)) (fun c => by cases c) (fun _ => ?_)
      by_cases hL : Lies row lo hi
      · exact sb_ret (R := Of (Bk (chg (fun _ => v) row lo hi))) (ex_callX (passes_call (takes_of rfl rfl rfl rfl) (fun _ _ _ _ h => h)) G_filled hr (av_cons (ex_var 0) (av_cons (ex_ixT (ex_var 1) ex_i (SqT.of hd) rfl) (av_cons (ex_ixT (ex_var 1) ex_i (SqT.of hd) rfl) (av_cons (ex_ixT (ex_var 1) ex_i (SqT.of hd) rfl) av_nil)))) (fun H1 Q x q => ⟨_, row, lo, hi, v, rfl, hB.ex x, fun _ => q, fun z => absurd hL z⟩)) (qN hL)
      · exact sb_ret (R := No) (ex_callX (passes_call (takes_of rfl rfl rfl rfl) (fun _ _ _ _ h => h)) G_filled hr (av_cons (ex_var 0) (av_cons (ex_ixT (ex_var 1) ex_i (SqT.of hd) rfl) (av_cons (ex_ixT (ex_var 1) ex_i (SqT.of hd) rfl) (av_cons (ex_ixT (ex_var 1) ex_i (SqT.of hd) rfl) av_nil)))) (fun H1 Q x q => ⟨_, row, lo, hi, v, rfl, hB.ex x, fun z => absurd z hL, fun _ => (qR hL).up x⟩)) (fun _ _ _ z => z.elim)
/-- a stack of books -/
structure Stk (H : Hp) (lb : Addr) (bks : List V) (rows : List (List Int)) : Prop where
  at_ : H lb = some (.lst bks)
  len : bks.length = rows.length
  all : ∀ (j : Nat) row, rows[j]? = some row → ∃ bk, bks[j]? = some bk ∧ Bk row H bk
theorem Stk.tx {H H' : Hp} {lb : Addr} {bks : List V} {rows : List (List Int)} (s : Stk H lb bks rows) (x : Tx H H') (e : H' lb = some (.lst bks)) : Stk H' lb bks rows := ⟨e, s.len, fun j row hj => by
  obtain ⟨bk, h1, h2⟩ := s.all j row hj
  exact ⟨bk, h1, h2.tx x⟩⟩
theorem Stk.up {H H' : Hp} {lb : Addr} {bks : List V} {rows : List (List Int)} (s : Stk H lb bks rows) (x : Ex H H') : Stk H' lb bks rows := s.tx x.tx (x _ _ s.at_)
theorem Stk.top {H : Hp} {lb : Addr} {bks : List V} {rows : List (List Int)} (s : Stk H lb bks rows) (hne : rows ≠ []) : ∃ bk, atI bks (-1) = some bk ∧ bks[bks.length - 1]? = some bk ∧ Bk (rows.getLastD []) H bk := by
  have hl := List.length_pos_iff.mpr hne
  have e : rows[rows.length - 1]? = some (rows.getLastD []) := by
    rw [List.getLastD_eq_getLast?, ← List.getLast?_eq_getElem?]
    cases h : rows.getLast? with
    | none => exact absurd (List.getLast?_eq_none_iff.mp h) hne
    | some r => rfl
  obtain ⟨bk, h1, h2⟩ := s.all _ _ e
  rw [← s.len] at h1
  refine ⟨bk, ?_, h1, h2⟩
  unfold atI ixN
  rw [if_neg (by omega), if_pos (by have := s.len; omega)]
  show bks[((-1 : Int) + (bks.length : Int)).toNat]? = some bk
  rw [show ((-1 : Int) + (bks.length : Int)).toNat = bks.length - 1 by omega]
  exact h1
theorem Stk.push {H : Hp} {lb : Addr} {bks : List V} {rows : List (List Int)} {bk : V} {row : List Int} (s : Stk H lb bks rows) (h : Bk row H bk) : Stk (upd H lb (.lst (bks ++ [bk]))) lb (bks ++ [bk]) (rows ++ [row]) := by
  have t : Tx H (upd H lb (.lst (bks ++ [bk]))) := Tx.lst s.at_
  refine ⟨upd_same, by rw [List.length_append, List.length_append, s.len]; rfl, fun j r hj => ?_⟩
  by_cases c : j < rows.length
  · rw [List.getElem?_append_left c] at hj
    obtain ⟨b, h1, h2⟩ := s.all j r hj
    exact ⟨b, by rw [List.getElem?_append_left (by rw [s.len]; exact c)]; exact h1, h2.tx t⟩
  · have e : j = rows.length := by
      have := (List.getElem?_eq_some_iff.mp hj).1
      rw [List.length_append, List.length_singleton] at this
      omega
    subst e
    rw [List.getElem?_concat_length] at hj
    cases hj
    exact ⟨bk, by rw [← s.len, List.getElem?_concat_length], h.tx t⟩
theorem Stk.pop {H : Hp} {lb : Addr} {bks : List V} {rows : List (List Int)} (s : Stk H lb bks rows) : Stk (upd H lb (.lst bks.dropLast)) lb bks.dropLast rows.dropLast := by
  have t : Tx H (upd H lb (.lst bks.dropLast)) := Tx.lst s.at_
  refine ⟨upd_same, by rw [List.length_dropLast, List.length_dropLast, s.len], fun j r hj => ?_⟩
  have hlt := (List.getElem?_eq_some_iff.mp hj).1
  rw [List.length_dropLast] at hlt
  rw [List.dropLast_eq_take, List.getElem?_take_of_lt hlt] at hj
  obtain ⟨b, h1, h2⟩ := s.all j r hj
  exact ⟨b, by rw [List.dropLast_eq_take, List.getElem?_take_of_lt (by rw [s.len]; exact hlt)]; exact h1, h2.tx t⟩
def RStep (H : Hp) (lb : Addr) (rows : List (List Int)) (dd : Deed) : Rm := fun v H2 => Ex (del H lb) H2 ∧ (∃ bks2, Stk H2 lb bks2 (stepS rows dd)) ∧ AtA (ansT (stepO rows dd)) H2 v ∧ ∀ xs, stepO rows dd = .row xs → ∃ p, v = .ref p ∧ H p = none
def spStep (CO CN CT : Addr) : Sp := fun vs H Q E => ∃ (lb d : Addr) (bks : List V) (rows : List (List Int)) (dd : Deed), vs = [.ref lb, .ref d] ∧ Stk H lb bks rows ∧ rows ≠ [] ∧ rows.length ≤ 1000 ∧ H d = some (.tup (deedV dd)) ∧ ((dd = .back ∨ ∀ b, stepO rows dd ≠ .bad b) → GivesM (RStep H lb rows dd) Q) ∧ (dd ≠ .back → ∀ b, stepO rows dd = .bad b → Rz (badC CO CN CT b) H E)

abbrev s_step : Stmt := topS 37
theorem sc_step : FnScope ["books", "deed"] ["books", "deed"] (defScope s_step) := ⟨rfl, rfl, rfl, by decide +kernel, rfl, by decide +kernel, by decide +kernel⟩
theorem ok_step {CO CN CT : Addr} (B : Bt mg) (F : Df K mg "step" s_step ["books", "deed"]) (G_told : Dn P w K mg base "told" 44 ["book", "deed"] (spTold14 CO CN CT)) (G_gone_on : Dn P w K mg base "gone_on" 45 ["book", "deed"] (spGone14 CO)) : Dn P w K mg base "step" 46 ["books", "deed"] (spStep CO CN CT) :=
  def_ok F sc_step (fun vs H Q E ⟨_, _, _, _, _, e, _⟩ => by rw [e] <;> rfl) fun f cdv A outer s H vs Q E hr h => by
    obtain ⟨lb, d, bks, rows, dd, rfl, S, hne, hz, hd, qN, qR⟩ := h
    have hl := S.at_
    have hlen := S.len
    have hpos := List.length_pos_iff.mpr hne
    obtain ⟨bk, ht, hlast, hB⟩ := S.top hne
    have dl : Ex (del H lb) H := del_ex

    cases dd with
    | back =>

      have q := qN (.inl rfl)
      refine sb_when (k := true) (TX.is (tx_eq (ex_ixT (ex_var 1) ex_i (SqT.of hd) rfl) ex_s) (by decide +kernel)) (fun _ => ?_) (fun c => by cases c)
      by_cases c1 : rows.length = 1
      · refine sb_when (k := true) (TX.is (tx_eqI (ex_len B.len (av_cons (ex_var 0) av_nil) (SqL.of hl)) ex_i) (decide_eq_true (by omega))) (fun _ => ?_) (fun c => by cases c)
        refine sb_retI ex_s fun H2 x => q _ H2 ⟨dl.trans x, ⟨bks, ?_⟩, ?_, fun xs e => ?_⟩
        · show Stk H2 lb bks (if _ then _ else _)
          rw [if_pos c1]
          exact S.up x
        · show AtA (ansT (if _ then _ else _)) _ _
          rw [if_pos c1]
          rfl
        · have e : (if rows.length = 1 then Out.bad .nothing else .num none) = .row xs := e
          rw [if_pos c1] at e
          cases e
      · refine sb_when (k := false) (TX.is (tx_eqI (ex_len B.len (av_cons (ex_var 0) av_nil) (SqL.of hl)) ex_i) (decide_eq_false (by omega))) (fun c => by cases c) (fun _ => ?_)
        refine sb_pop (ex_var 0) hl hlast ?_
        refine sb_retI ex_n fun H2 x => q _ H2 ⟨(Ex.mut dl del_same).trans x, ⟨bks.dropLast, ?_⟩, ?_, fun xs e => ?_⟩
        · show Stk H2 lb bks.dropLast (if _ then _ else _)
          rw [if_neg c1]
          exact S.pop.up x
        · show AtA (ansT (if _ then _ else _)) _ _
          rw [if_neg c1]
          rfl
        · have e : (if rows.length = 1 then Out.bad .nothing else .num none) = .row xs := e
          rw [if_neg c1] at e
          cases e
    | change fl lo hi v =>

      refine sb_when (k := false) (by cases fl <;> exact TX.is (tx_eq (ex_ixT (ex_var 1) ex_i (SqT.of hd) rfl) ex_s) (by decide +kernel)) (fun c => by cases c) (fun _ => ?_)
      refine sb_when (k := true) (by cases fl <;> exact TX.is (tx_w (wx_or (tx_eq (ex_ixT (ex_var 1) ex_i (SqT.of hd) rfl) ex_s) (fun z1 => (wx_or1 (tx_eq (ex_ixT (ex_var 1) ex_i (SqT.of hd) rfl) ex_s))))) (by decide +kernel)) (fun _ => ?_) (fun c => by cases c)

      by_cases hL : InRow (rows.getLastD []) lo hi
      · have e1 : stepO rows (.change fl lo hi v) = .num none := if_pos hL
        have e2 : stepS rows (.change fl lo hi v) = rows ++ [chg (chgB fl v) (rows.getLastD []) lo hi] := if_pos hL
        have q := qN (.inr fun b z => by rw [e1] at z; cases z)
        refine sb_app (R := Of (Bk (chg (chgF fl v) (rows.getLastD []) lo hi))) (ex_var 0) hl (by omega) (ex_callX (passes_call (takes_of rfl rfl rfl rfl) (fun _ _ _ _ h => h)) G_gone_on hr (av_cons (ex_ixL (ex_var 0) (ex_neg ex_i) (SqL.of hl) ht) (av_cons (ex_var 1) av_nil)) (fun H1 Q x q => ⟨_, d, rows.getLastD [], fl, lo, hi, v, rfl, hB.ex x, x _ _ hd, fun _ => q, fun z => absurd hL z⟩)) fun bn H2 x2 hBn => ?_
        have hBn : Bk (chg (chgB fl v) (rows.getLastD []) lo hi) H2 bn := hBn
        refine sb_retI ex_n fun H3 x3 => q _ H3 ⟨(Ex.mut (dl.trans x2) del_same).trans x3, ⟨bks ++ [bn], ?_⟩, ?_, fun xs e => ?_⟩
        · rw [e2]
          exact ((S.up x2).push hBn).up x3
        · rw [e1]
          rfl
        · rw [e1] at e
          cases e
      · have e1 : stepO rows (.change fl lo hi v) = .bad .out := if_neg hL
        exact sb_app (R := No) (ex_var 0) hl (by omega) (ex_callX (passes_call (takes_of rfl rfl rfl rfl) (fun _ _ _ _ h => h)) G_gone_on hr (av_cons (ex_ixL (ex_var 0) (ex_neg ex_i) (SqL.of hl) ht) (av_cons (ex_var 1) av_nil)) (fun H1 Q x q => ⟨_, d, rows.getLastD [], fl, lo, hi, v, rfl, hB.ex x, x _ _ hd, fun z => absurd z hL, fun _ => (qR (fun z => by cases z) .out e1).up x⟩)) fun bn H2 x2 hBn => hBn.elim
    | total a1 a2 =>

      refine sb_when (k := false) (TX.is (tx_eq (ex_ixT (ex_var 1) ex_i (SqT.of hd) rfl) ex_s) (by decide +kernel)) (fun c => by cases c) (fun _ => ?_)
      refine sb_when (k := false) (TX.is (tx_w (wx_or (tx_eq (ex_ixT (ex_var 1) ex_i (SqT.of hd) rfl) ex_s) (fun z1 => (wx_or1 (tx_eq (ex_ixT (ex_var 1) ex_i (SqT.of hd) rfl) ex_s))))) (by decide +kernel)) (fun c => by cases c) (fun _ => ?_)

      by_cases hbad : ∃ b, stepO rows (.total a1 a2) = .bad b
      · obtain ⟨b, hb⟩ := hbad
        exact sb_ret (R := No) (ex_callX (passes_call (takes_of rfl rfl rfl rfl) (fun _ _ _ _ h => h)) G_told hr (av_cons (ex_ixL (ex_var 0) (ex_neg ex_i) (SqL.of hl) ht) (av_cons (ex_var 1) av_nil)) (fun H1 Q x q => ⟨_, d, rows.getLastD [], .total a1 a2, rfl, hB.ex x, x _ _ hd, trivial, fun z => absurd hb (z b), fun b' hb' => (qR (fun z => by cases z) b' hb').up x⟩)) (fun _ _ _ z => z.elim)
      · have hg : ∀ b, stepO rows (.total a1 a2) ≠ .bad b := fun b z => hbad ⟨b, z⟩
        refine sb_ret (R := RA (ansT (outOf (rows.getLastD []) (.total a1 a2)))) (ex_callX (passes_call (takes_of rfl rfl rfl rfl) (fun _ _ _ _ h => h)) G_told hr (av_cons (ex_ixL (ex_var 0) (ex_neg ex_i) (SqL.of hl) ht) (av_cons (ex_var 1) av_nil)) (fun H1 Q x q => ⟨_, d, rows.getLastD [], .total a1 a2, rfl, hB.ex x, x _ _ hd, trivial, fun _ => q, fun b' hb' => absurd hb' (hg b')⟩)) (fun u H2 x r => qN (.inr hg) u H2 ⟨dl.trans x, ⟨bks, S.up x⟩, r.1, fun xs e => r.2 xs (by rw [show outOf (rows.getLastD []) (.total a1 a2) = .row xs from e]; rfl)⟩)
    | least a1 a2 =>

      refine sb_when (k := false) (TX.is (tx_eq (ex_ixT (ex_var 1) ex_i (SqT.of hd) rfl) ex_s) (by decide +kernel)) (fun c => by cases c) (fun _ => ?_)
      refine sb_when (k := false) (TX.is (tx_w (wx_or (tx_eq (ex_ixT (ex_var 1) ex_i (SqT.of hd) rfl) ex_s) (fun z1 => (wx_or1 (tx_eq (ex_ixT (ex_var 1) ex_i (SqT.of hd) rfl) ex_s))))) (by decide +kernel)) (fun c => by cases c) (fun _ => ?_)

      by_cases hbad : ∃ b, stepO rows (.least a1 a2) = .bad b
      · obtain ⟨b, hb⟩ := hbad
        exact sb_ret (R := No) (ex_callX (passes_call (takes_of rfl rfl rfl rfl) (fun _ _ _ _ h => h)) G_told hr (av_cons (ex_ixL (ex_var 0) (ex_neg ex_i) (SqL.of hl) ht) (av_cons (ex_var 1) av_nil)) (fun H1 Q x q => ⟨_, d, rows.getLastD [], .least a1 a2, rfl, hB.ex x, x _ _ hd, trivial, fun z => absurd hb (z b), fun b' hb' => (qR (fun z => by cases z) b' hb').up x⟩)) (fun _ _ _ z => z.elim)
      · have hg : ∀ b, stepO rows (.least a1 a2) ≠ .bad b := fun b z => hbad ⟨b, z⟩
        refine sb_ret (R := RA (ansT (outOf (rows.getLastD []) (.least a1 a2)))) (ex_callX (passes_call (takes_of rfl rfl rfl rfl) (fun _ _ _ _ h => h)) G_told hr (av_cons (ex_ixL (ex_var 0) (ex_neg ex_i) (SqL.of hl) ht) (av_cons (ex_var 1) av_nil)) (fun H1 Q x q => ⟨_, d, rows.getLastD [], .least a1 a2, rfl, hB.ex x, x _ _ hd, trivial, fun _ => q, fun b' hb' => absurd hb' (hg b')⟩)) (fun u H2 x r => qN (.inr hg) u H2 ⟨dl.trans x, ⟨bks, S.up x⟩, r.1, fun xs e => r.2 xs (by rw [show outOf (rows.getLastD []) (.least a1 a2) = .row xs from e]; rfl)⟩)
    | place a1 a2 =>

      refine sb_when (k := false) (TX.is (tx_eq (ex_ixT (ex_var 1) ex_i (SqT.of hd) rfl) ex_s) (by decide +kernel)) (fun c => by cases c) (fun _ => ?_)
      refine sb_when (k := false) (TX.is (tx_w (wx_or (tx_eq (ex_ixT (ex_var 1) ex_i (SqT.of hd) rfl) ex_s) (fun z1 => (wx_or1 (tx_eq (ex_ixT (ex_var 1) ex_i (SqT.of hd) rfl) ex_s))))) (by decide +kernel)) (fun c => by cases c) (fun _ => ?_)

      by_cases hbad : ∃ b, stepO rows (.place a1 a2) = .bad b
      · obtain ⟨b, hb⟩ := hbad
        exact sb_ret (R := No) (ex_callX (passes_call (takes_of rfl rfl rfl rfl) (fun _ _ _ _ h => h)) G_told hr (av_cons (ex_ixL (ex_var 0) (ex_neg ex_i) (SqL.of hl) ht) (av_cons (ex_var 1) av_nil)) (fun H1 Q x q => ⟨_, d, rows.getLastD [], .place a1 a2, rfl, hB.ex x, x _ _ hd, trivial, fun z => absurd hb (z b), fun b' hb' => (qR (fun z => by cases z) b' hb').up x⟩)) (fun _ _ _ z => z.elim)
      · have hg : ∀ b, stepO rows (.place a1 a2) ≠ .bad b := fun b z => hbad ⟨b, z⟩
        refine sb_ret (R := RA (ansT (outOf (rows.getLastD []) (.place a1 a2)))) (ex_callX (passes_call (takes_of rfl rfl rfl rfl) (fun _ _ _ _ h => h)) G_told hr (av_cons (ex_ixL (ex_var 0) (ex_neg ex_i) (SqL.of hl) ht) (av_cons (ex_var 1) av_nil)) (fun H1 Q x q => ⟨_, d, rows.getLastD [], .place a1 a2, rfl, hB.ex x, x _ _ hd, trivial, fun _ => q, fun b' hb' => absurd hb' (hg b')⟩)) (fun u H2 x r => qN (.inr hg) u H2 ⟨dl.trans x, ⟨bks, S.up x⟩, r.1, fun xs e => r.2 xs (by rw [show outOf (rows.getLastD []) (.place a1 a2) = .row xs from e]; rfl)⟩)
    | first a1 a2 =>

      refine sb_when (k := false) (TX.is (tx_eq (ex_ixT (ex_var 1) ex_i (SqT.of hd) rfl) ex_s) (by decide +kernel)) (fun c => by cases c) (fun _ => ?_)
      refine sb_when (k := false) (TX.is (tx_w (wx_or (tx_eq (ex_ixT (ex_var 1) ex_i (SqT.of hd) rfl) ex_s) (fun z1 => (wx_or1 (tx_eq (ex_ixT (ex_var 1) ex_i (SqT.of hd) rfl) ex_s))))) (by decide +kernel)) (fun c => by cases c) (fun _ => ?_)

      by_cases hbad : ∃ b, stepO rows (.first a1 a2) = .bad b
      · obtain ⟨b, hb⟩ := hbad
        exact sb_ret (R := No) (ex_callX (passes_call (takes_of rfl rfl rfl rfl) (fun _ _ _ _ h => h)) G_told hr (av_cons (ex_ixL (ex_var 0) (ex_neg ex_i) (SqL.of hl) ht) (av_cons (ex_var 1) av_nil)) (fun H1 Q x q => ⟨_, d, rows.getLastD [], .first a1 a2, rfl, hB.ex x, x _ _ hd, trivial, fun z => absurd hb (z b), fun b' hb' => (qR (fun z => by cases z) b' hb').up x⟩)) (fun _ _ _ z => z.elim)
      · have hg : ∀ b, stepO rows (.first a1 a2) ≠ .bad b := fun b z => hbad ⟨b, z⟩
        refine sb_ret (R := RA (ansT (outOf (rows.getLastD []) (.first a1 a2)))) (ex_callX (passes_call (takes_of rfl rfl rfl rfl) (fun _ _ _ _ h => h)) G_told hr (av_cons (ex_ixL (ex_var 0) (ex_neg ex_i) (SqL.of hl) ht) (av_cons (ex_var 1) av_nil)) (fun H1 Q x q => ⟨_, d, rows.getLastD [], .first a1 a2, rfl, hB.ex x, x _ _ hd, trivial, fun _ => q, fun b' hb' => absurd hb' (hg b')⟩)) (fun u H2 x r => qN (.inr hg) u H2 ⟨dl.trans x, ⟨bks, S.up x⟩, r.1, fun xs e => r.2 xs (by rw [show outOf (rows.getLastD []) (.first a1 a2) = .row xs from e]; rfl)⟩)
    | list a1 a2 =>

      refine sb_when (k := false) (TX.is (tx_eq (ex_ixT (ex_var 1) ex_i (SqT.of hd) rfl) ex_s) (by decide +kernel)) (fun c => by cases c) (fun _ => ?_)
      refine sb_when (k := false) (TX.is (tx_w (wx_or (tx_eq (ex_ixT (ex_var 1) ex_i (SqT.of hd) rfl) ex_s) (fun z1 => (wx_or1 (tx_eq (ex_ixT (ex_var 1) ex_i (SqT.of hd) rfl) ex_s))))) (by decide +kernel)) (fun c => by cases c) (fun _ => ?_)

      by_cases hbad : ∃ b, stepO rows (.list a1 a2) = .bad b
      · obtain ⟨b, hb⟩ := hbad
        exact sb_ret (R := No) (ex_callX (passes_call (takes_of rfl rfl rfl rfl) (fun _ _ _ _ h => h)) G_told hr (av_cons (ex_ixL (ex_var 0) (ex_neg ex_i) (SqL.of hl) ht) (av_cons (ex_var 1) av_nil)) (fun H1 Q x q => ⟨_, d, rows.getLastD [], .list a1 a2, rfl, hB.ex x, x _ _ hd, trivial, fun z => absurd hb (z b), fun b' hb' => (qR (fun z => by cases z) b' hb').up x⟩)) (fun _ _ _ z => z.elim)
      · have hg : ∀ b, stepO rows (.list a1 a2) ≠ .bad b := fun b z => hbad ⟨b, z⟩
        refine sb_ret (R := RA (ansT (outOf (rows.getLastD []) (.list a1 a2)))) (ex_callX (passes_call (takes_of rfl rfl rfl rfl) (fun _ _ _ _ h => h)) G_told hr (av_cons (ex_ixL (ex_var 0) (ex_neg ex_i) (SqL.of hl) ht) (av_cons (ex_var 1) av_nil)) (fun H1 Q x q => ⟨_, d, rows.getLastD [], .list a1 a2, rfl, hB.ex x, x _ _ hd, trivial, fun _ => q, fun b' hb' => absurd hb' (hg b')⟩)) (fun u H2 x r => qN (.inr hg) u H2 ⟨dl.trans x, ⟨bks, S.up x⟩, r.1, fun xs e => r.2 xs (by rw [show outOf (rows.getLastD []) (.list a1 a2) = .row xs from e]; rfl)⟩)

-- SPLIT
/-! ### deeds, answers in a list -/
structure DeedsV (H : Hp) (ds : List V) (dds : List Deed) : Prop where
  len : ds.length = dds.length
  at_ : ∀ (i : Nat) dd, dds[i]? = some dd → ∃ t, ds[i]? = some (.ref t) ∧ H t = some (.tup (deedV dd))
theorem DeedsV.tx {H H' : Hp} {ds : List V} {dds : List Deed} (h : DeedsV H ds dds) (x : Tx H H') : DeedsV H' ds dds := ⟨h.len, fun i r hr => by
  obtain ⟨q, h1, h2⟩ := h.at_ i r hr
  exact ⟨q, h1, x _ _ h2⟩⟩
theorem DeedsV.nil {H : Hp} : DeedsV H [] [] := ⟨rfl, fun i r hr => by simp at hr⟩
theorem DeedsV.push {H : Hp} {ds : List V} {dds : List Deed} {t : Addr} {dd : Deed} (h : DeedsV H ds dds) (ht : H t = some (.tup (deedV dd))) : DeedsV H (ds ++ [.ref t]) (dds ++ [dd]) := by
  refine ⟨by rw [List.length_append, List.length_append, h.len]; rfl, fun i r hr => ?_⟩
  by_cases c : i < dds.length
  · rw [List.getElem?_append_left c] at hr
    obtain ⟨p, h1, h2⟩ := h.at_ i r hr
    exact ⟨p, by rw [List.getElem?_append_left (by rw [h.len]; exact c)]; exact h1, h2⟩
  · have e : i = dds.length := by
      have := (List.getElem?_eq_some_iff.mp hr).1
      rw [List.length_append, List.length_singleton] at this
      omega
    subst e
    rw [List.getElem?_concat_length] at hr
    cases hr
    exact ⟨t, by rw [← h.len, List.getElem?_concat_length], ht⟩
theorem DeedsV.get {H : Hp} {ds : List V} {dds : List Deed} {i : Nat} {x : V} (h : DeedsV H ds dds) (hx : ds[i]? = some x) : ∃ t dd, x = .ref t ∧ dds[i]? = some dd ∧ H t = some (.tup (deedV dd)) := by
  have hi := (List.getElem?_eq_some_iff.mp hx).1
  obtain ⟨q, h1, h2⟩ := h.at_ i _ (List.getElem?_eq_getElem (by rw [← h.len]; exact hi))
  rw [hx] at h1
  cases h1
  exact ⟨q, _, rfl, List.getElem?_eq_getElem (by rw [← h.len]; exact hi), h2⟩
theorem AtA.keep {a : Ans} {H H' : Hp} {u : V} (k : ∀ q xs, u = .ref q → H q = some (.lst xs) → H' q = some (.lst xs)) (h : AtA a H u) : AtA a H' u := by
  cases a with
  | num o => exact h
  | txt s => exact h
  | row xs =>
    obtain ⟨p, h1, h2, h3⟩ := h
    exact ⟨p, h1, k _ _ h1 h2, h3⟩
theorem ansT_ref {o : Out} {H : Hp} {q : Addr} (h : AtA (ansT o) H (.ref q)) : ∃ xs, o = .row xs ∧ H q = some (.lst (xs.map V.int)) ∧ xs.length ≤ 2000 := by
  cases o with
  | num o => cases o <;> cases h
  | bad b => cases h
  | row xs =>
    obtain ⟨p, h1, h2, h3⟩ := h
    cases h1
    exact ⟨xs, rfl, h2, h3⟩
structure OutsV (H : Hp) (ws : List V) (os : List Out) : Prop where
  len : ws.length = os.length
  at_ : ∀ (i : Nat) o, os[i]? = some o → ∃ u, ws[i]? = some u ∧ AtA (ansT o) H u
theorem OutsV.nil {H : Hp} : OutsV H [] [] := ⟨rfl, fun i r hr => by simp at hr⟩
theorem OutsV.keep {H H' : Hp} {ws : List V} {os : List Out} (h : OutsV H ws os) (k : ∀ q xs, V.ref q ∈ ws → H q = some (.lst xs) → H' q = some (.lst xs)) : OutsV H' ws os := ⟨h.len, fun i o ho => by
  obtain ⟨u, h1, h2⟩ := h.at_ i o ho
  exact ⟨u, h1, h2.keep fun q xs e => k q xs (e ▸ List.mem_of_getElem? h1)⟩⟩
theorem OutsV.ex {H H' : Hp} {ws : List V} {os : List Out} (x : Ex H H') (h : OutsV H ws os) : OutsV H' ws os := h.keep fun q xs _ e => x _ _ e
theorem OutsV.push {H : Hp} {ws : List V} {os : List Out} {v : V} {o : Out} (h : OutsV H ws os) (hv : AtA (ansT o) H v) : OutsV H (ws ++ [v]) (os ++ [o]) := by
  refine ⟨by rw [List.length_append, List.length_append, h.len]; rfl, fun i r hr => ?_⟩
  by_cases c : i < os.length
  · rw [List.getElem?_append_left c] at hr
    obtain ⟨p, h1, h2⟩ := h.at_ i r hr
    exact ⟨p, by rw [List.getElem?_append_left (by rw [h.len]; exact c)]; exact h1, h2⟩
  · have e : i = os.length := by
      have := (List.getElem?_eq_some_iff.mp hr).1
      rw [List.length_append, List.length_singleton] at this
      omega
    subst e
    rw [List.getElem?_concat_length] at hr
    cases hr
    exact ⟨v, by rw [← h.len, List.getElem?_concat_length], hv⟩
theorem OutsV.get {H : Hp} {ws : List V} {os : List Out} {i : Nat} {u : V} (h : OutsV H ws os) (hu : ws[i]? = some u) : ∃ o, os[i]? = some o ∧ AtA (ansT o) H u := by
  have hi := (List.getElem?_eq_some_iff.mp hu).1
  have e := List.getElem?_eq_getElem (l := os) (i := i) (by rw [← h.len]; exact hi)
  obtain ⟨q, h1, h2⟩ := h.at_ i _ e
  rw [hu] at h1
  cases h1
  exact ⟨_, e, h2⟩
/-- the lists in ws are new ones, each another -/
structure NewV (H : Hp) (p : Addr) (ws : List V) : Prop where
  new : ∀ q, V.ref q ∈ ws → H q = none ∧ q ≠ p
  dis : ∀ (i j : Nat) q, ws[i]? = some (.ref q) → ws[j]? = some (.ref q) → i = j
theorem NewV.nil {H : Hp} {p : Addr} : NewV H p [] := ⟨fun q h => (by cases h), fun i j q h => (by simp at h)⟩
theorem NewV.push {H : Hp} {p : Addr} {ws : List V} {v : V} (h : NewV H p ws) (hv : ∀ q, v = .ref q → H q = none ∧ q ≠ p ∧ V.ref q ∉ ws) : NewV H p (ws ++ [v]) := by
  refine ⟨fun q hq => ?_, fun i j q hi hj => ?_⟩
  · rcases List.mem_append.mp hq with hq | hq
    · exact h.new q hq
    · have := hv q (List.mem_singleton.mp hq).symm
      exact ⟨this.1, this.2.1⟩
  · have spl : ∀ k : Nat, (ws ++ [v])[k]? = some (.ref q) → (k < ws.length ∧ ws[k]? = some (.ref q)) ∨ (k = ws.length ∧ v = .ref q) := fun k hk => by
      by_cases c : k < ws.length
      · rw [List.getElem?_append_left c] at hk
        exact .inl ⟨c, hk⟩
      · have e : k = ws.length := by
          have := (List.getElem?_eq_some_iff.mp hk).1
          rw [List.length_append, List.length_singleton] at this
          omega
        subst e
        rw [List.getElem?_concat_length] at hk
        cases hk
        exact .inr ⟨rfl, rfl⟩
    rcases spl i hi with ⟨a1, a2⟩ | ⟨a1, a2⟩ <;> rcases spl j hj with ⟨b1, b2⟩ | ⟨b1, b2⟩
    · exact h.dis i j q a2 b2
    · exact absurd (List.mem_of_getElem? a2) (hv q b2).2.2
    · exact absurd (List.mem_of_getElem? b2) (hv q a2).2.2
    · omega
theorem NewV.less {H H' : Hp} {p : Addr} {ws : List V} (x : Ex H H') (h : NewV H' p ws) : NewV H p ws := ⟨fun q hq => ⟨x.fresh (h.new q hq).1, (h.new q hq).2⟩, h.dis⟩
/-- a new list of answers -/
def RAns (os : List Out) : Rk := fun H1 u H2 => ∃ p ws, u = .ref p ∧ H1 p = none ∧ H2 p = some (.lst ws) ∧ OutsV H2 ws os ∧ NewV H1 p ws
instance (os : List Out) : RM (RAns os) := ⟨fun e0 e2 ⟨p, ws, h1, h2, h3, h4, h5⟩ => ⟨p, ws, h1, e0.fresh h2, e2 _ _ h3, h4.ex e2, h5.less e0⟩⟩
def spAnswers : Sp := fun vs H Q _ => ∃ (bk : V) (l : Addr) (ds : List V) (row : List Int) (dds : List Deed), vs = [bk, .ref l] ∧ Bk row H bk ∧ H l = some (.lst ds) ∧ DeedsV H ds dds ∧ dds.length ≤ 900 ∧ Gives (RAns (outs [row] dds)) H Q
theorem stepS_len (rows : List (List Int)) (d : Deed) : (stepS rows d).length ≤ rows.length + 1 := by
  cases d with
  | change fill lo hi v =>
    simp only [stepS]
    split
    · rw [List.length_append]; exact Nat.le_refl _
    · omega
  | back =>
    simp only [stepS]
    split
    · omega
    · rw [List.length_dropLast]; omega
  | total lo hi => exact Nat.le_succ _
  | least lo hi => exact Nat.le_succ _
  | place lo hi => exact Nat.le_succ _
  | first lo hi => exact Nat.le_succ _
  | list lo hi => exact Nat.le_succ _
theorem after_len : ∀ (rows : List (List Int)) (ds : List Deed), (after rows ds).length ≤ rows.length + ds.length
  | rows, [] => Nat.le_refl _
  | rows, d :: ds => by
    have h1 := after_len (stepS rows d) ds
    have h2 := stepS_len rows d
    rw [after, List.length_cons]
    omega
theorem stepS_bad {rows : List (List Int)} {d : Deed} {b : Bad} (hb : d ≠ .back) (h : stepO rows d = .bad b) : stepS rows d = rows := by
  cases d with
  | change fill lo hi v =>
    by_cases c : InRow (rows.getLastD []) lo hi
    · have e : stepO rows (.change fill lo hi v) = .num none := if_pos c
      rw [e] at h
      cases h
    · exact if_neg c
  | back => exact absurd rfl hb
  | total lo hi => rfl
  | least lo hi => rfl
  | place lo hi => rfl
  | first lo hi => rfl
  | list lo hi => rfl
theorem del_mono {H H' : Hp} {h : Addr} (x : Ex H H') : Ex (del H h) (del H' h) := fun a o e => by
  by_cases q : a = h
  · rw [q, del_same] at e; cases e
  · rw [del_ne q] at e ⊢; exact x a o e
theorem take_snoc {α : Type} {xs : List α} {i : Nat} {x : α} (h : xs[i]? = some x) : xs.take (i + 1) = xs.take i ++ [x] := by
  rw [List.take_succ, h]
  rfl

abbrev s_answers : Stmt := topS 38
theorem sc_answers : FnScope ["book", "deeds", "books", "found", "deed"] ["book", "deeds"] (defScope s_answers) := ⟨rfl, rfl, rfl, by decide +kernel, rfl, by decide +kernel, by decide +kernel⟩
theorem ok_answers {CO CN CT : Addr} (eO : Ec K mg "OutOfRow" CO) (eN : Ec K mg "Nothing" CN) (eT : Ec K mg "TooMany" CT) (xO : ExcC K CO) (xN : ExcC K CN) (xT : ExcC K CT)
    (s_O_O_t : PySem.W.subIn K (.ref CO) (.ref CO) = some true) (s_N_O_f : PySem.W.subIn K (.ref CN) (.ref CO) = some false) (s_N_N_t : PySem.W.subIn K (.ref CN) (.ref CN) = some true) (s_T_O_f : PySem.W.subIn K (.ref CT) (.ref CO) = some false) (s_T_N_f : PySem.W.subIn K (.ref CT) (.ref CN) = some false) (s_T_T_t : PySem.W.subIn K (.ref CT) (.ref CT) = some true)
    (F : Df K mg "answers" s_answers ["book", "deeds"]) (G_step : Dn P w K mg base "step" 46 ["books", "deed"] (spStep CO CN CT)) : Dn P w K mg base "answers" 47 ["book", "deeds"] spAnswers :=
  def_ok F sc_answers (fun vs H Q E ⟨_, _, _, _, _, e, _⟩ => by rw [e] <;> rfl) fun f cdv A outer s H vs Q E hr h => by
    obtain ⟨bk, l, ds, row, dds, rfl, hB, hl, hD, hz, q⟩ := h

    refine sb_new 2 sc_answers.nd (ex_lst (av_cons (ex_var 0) av_nil) (by exact Nat.le_of_ble_eq_true rfl)) fun lb hlb => ?_
    have x1 : Ex H (upd H lb (.lst [bk])) := Ex.new hlb
    refine sb_new 3 sc_answers.nd (ex_lst av_nil (by exact Nat.le_of_ble_eq_true rfl)) fun g hg => ?_
    have x2 := x1.trans (Ex.new (o := .lst []) hg)
    have gl : g ≠ lb := fun e => by rw [e, upd_same] at hg; cases hg
    have hgn : H g = none := x1.fresh hg
    have hl2 := x2 _ _ hl
    have at0 : Stk (upd (upd H lb (.lst [bk])) g (.lst [])) lb [bk] (after [row] (dds.take 0)) := by
      refine ⟨by rw [upd_ne (Ne.symm gl)]; exact upd_same, rfl, fun j r hj => ?_⟩
      cases j with
      | zero => cases hj; exact ⟨bk, rfl, hB.ex x2⟩
      | succ j => cases hj

    refine sb_forL 4 (passes_of rfl) sc_answers.nd (ex_var 1) (SqL.of hl2) (fun i σ' H' => ∃ (ws bks : List V) (v4 : Option V), Ex H H' ∧ H' g = some (.lst ws) ∧ Stk H' lb bks (after [row] (dds.take i)) ∧ OutsV H' ws (outs [row] (dds.take i)) ∧ NewV H g ws ∧ V.ref lb ∉ ws ∧ σ' = [some bk, some (.ref l), some (.ref lb), some (.ref g), v4]) ⟨[], [bk], none, x2, upd_same, at0, OutsV.nil, NewV.nil, (by simp), rfl⟩ (fun i σ' H' _ ⟨_, _, _, x, _⟩ => SqL.of (x _ _ hl)) (fun i x σ' H' hx W => ?_) (fun σ' H' W => ?_)
    · obtain ⟨ws, bks, v4, x3, hw, S, hO, hN, hlw, rfl⟩ := W
      obtain ⟨t, dd, rfl, hdd, ht⟩ := hD.get hx
      have hi := (List.getElem?_eq_some_iff.mp hdd).1
      have ht3 := x3 _ _ ht
      have hws : ws.length ≤ 900 := by
        rw [hO.len, outs_length, List.length_take]
        omega
      have hrl := after_len [row] (dds.take i)
      rw [List.length_take, List.length_singleton] at hrl
      have hne : after [row] (dds.take i) ≠ [] := after_ne _ (by simp)
      rw [take_snoc hdd, after_snoc, outs_snoc]
      generalize after [row] (dds.take i) = rows at S hne hrl ⊢
      generalize outs [row] (dds.take i) = os at hO ⊢
      have fin : ∀ (H2 : Hp) (v : V) (bks2 : List V), Ex (del H' lb) H2 → Stk H2 lb bks2 (stepS rows dd) → AtA (ansT (stepO rows dd)) H2 v → (∀ xs, stepO rows dd = .row xs → ∃ p, v = .ref p ∧ H' p = none) →
          H2 g = some (.lst ws) ∧ ∃ (ws' bks' : List V) (v4 : Option V), Ex H (upd H2 g (.lst (ws ++ [v]))) ∧ (upd H2 g (.lst (ws ++ [v]))) g = some (.lst ws') ∧ Stk (upd H2 g (.lst (ws ++ [v]))) lb bks' (stepS rows dd) ∧ OutsV (upd H2 g (.lst (ws ++ [v]))) ws' (os ++ [stepO rows dd]) ∧ NewV H g ws' ∧ V.ref lb ∉ ws' ∧ [some bk, some (.ref l), some (.ref lb), some (.ref g), some (.ref t)] = [some bk, some (.ref l), some (.ref lb), some (.ref g), v4] := by
        intro H2 v bks2 y S2 hv hnew
        have hg2 : H2 g = some (.lst ws) := y _ _ (by rw [del_ne gl]; exact hw)
        have new : ∀ q, v = .ref q → H' q = none := fun q e => by
          rw [e] at hv
          obtain ⟨xs, e1, _⟩ := ansT_ref hv
          obtain ⟨p, e2, h2⟩ := hnew xs e1
          rw [e] at e2
          cases e2
          exact h2
        have inw : ∀ q, V.ref q ∈ ws → ∃ xs, H' q = some (.lst xs) := fun q hq => by
          obtain ⟨j, hj⟩ := List.mem_iff_getElem?.mp hq
          obtain ⟨o, _, ho⟩ := hO.get hj
          obtain ⟨xs, _, e, _⟩ := ansT_ref ho
          exact ⟨_, e⟩
        refine ⟨hg2, ws ++ [v], bks2, _, Ex.mut ((del_in x3 hlb).trans y) hgn, upd_same, S2.tx (Tx.lst hg2) (by rw [upd_ne (Ne.symm gl)]; exact S2.at_), ?_, ?_, ?_, rfl⟩
        · refine OutsV.push (hO.keep fun q xs hq e => ?_) (hv.keep fun q xs e1 e => ?_)
          · rw [upd_ne (hN.new q hq).2]
            exact y _ _ (by rw [del_ne (fun e => hlw (by rw [← e]; exact hq))]; exact e)
          · rw [upd_ne (fun e => by have := new q e1; rw [e, hw] at this; cases this)]
            exact e
        · refine hN.push fun q e => ⟨x3.fresh (new q e), fun e1 => ?_, fun hq => ?_⟩
          · have := new q e
            rw [e1, hw] at this
            cases this
          · obtain ⟨xs, e1⟩ := inw q hq
            rw [new q e] at e1
            cases e1
        · intro hm
          rcases List.mem_append.mp hm with hm | hm
          · exact hlw hm
          · have := new lb (List.mem_singleton.mp hm).symm
            rw [S.at_] at this
            cases this
      have bad : ∀ b, dd ≠ .back ∧ stepO rows dd = .bad b → _ := fun b hb => (fin H' (.str (badS b)) bks del_ex (by rw [stepS_bad hb.1 hb.2]; exact S) (by rw [hb.2]; rfl) (fun xs e => by rw [hb.2] at e; cases e)).2

      refine sb_try3 (C1 := CO) (C2 := CN) (C3 := CT) (dd ≠ .back ∧ stepO rows dd = .bad .out) (dd ≠ .back ∧ stepO rows dd = .bad .nothing) (dd ≠ .back ∧ stepO rows dd = .bad .many) rfl rfl ⟨rfl, by decide, .inl eO.g⟩ ⟨rfl, by decide, .inl eN.g⟩ ⟨rfl, by decide, .inl eT.g⟩
        (exm_c eO xO s_O_O_t) (exm_c eO xO s_N_O_f) (exm_c eN xN s_N_N_t) (exm_c eO xO s_T_O_f) (exm_c eN xN s_T_N_f) (exm_c eT xT s_T_T_t) (takes_of rfl rfl rfl rfl) (fun hb a oe pn _ _ => ?_) (fun hb a oe pn _ _ => ?_) (fun hb a oe pn _ _ => ?_) (fun W pn xe tk pw hw' => ?_)
      · exact sb_appI (v := .str "out of row") (ex_var 3) hw (by omega) ex_s (sb_out (sb_next (bad .out hb)))
      · exact sb_appI (v := .str "nothing") (ex_var 3) hw (by omega) ex_s (sb_out (sb_next (bad .nothing hb)))
      · exact sb_appI (v := .str "too many") (ex_var 3) hw (by omega) ex_s (sb_out (sb_next (bad .many hb)))
      · refine sb_appM (R := fun v H2 => Ex (del H' lb) H2 ∧ (∃ bks2, Stk H2 lb bks2 (stepS rows dd)) ∧ AtA (ansT (stepO rows dd)) H2 v ∧ ∀ xs, stepO rows dd = .row xs → ∃ p, v = .ref p ∧ H' p = none) (ex_var 3) hw (ex_callMT' tk G_step hr (av_cons (ex_var 2) (av_cons (ex_var 4) av_nil)) (fun H1 Q y q => ⟨lb, t, bks, rows, dd, rfl, S.up y, hne, by omega, y _ _ ht3, fun _ v H2 ⟨a1, a2, a3, a4⟩ => q v H2 ⟨(del_mono y).trans a1, a2, a3, fun xs e => by
            obtain ⟨p, e1, e2⟩ := a4 xs e
            exact ⟨p, e1, y.fresh e2⟩⟩, fun nb b hb => by
            cases b with
            | out => exact fun H2 z => hw' CO (.inl ⟨rfl, nb, hb⟩) H2 (y.trans z)
            | nothing => exact fun H2 z => hw' CN (.inr (.inl ⟨rfl, nb, hb⟩)) H2 (y.trans z)
            | many => exact fun H2 z => hw' CT (.inr (.inr ⟨rfl, nb, hb⟩)) H2 (y.trans z)⟩)) fun v H2 ⟨a1, ⟨bks2, a2⟩, a3, a4⟩ => ?_
        have := fin H2 v bks2 a1 a2 a3 a4
        exact ⟨ws, this.1, by omega, sb_out (sb_next this.2)⟩
    · obtain ⟨ws, bks, v4, x3, hw, S, hO, hN, hlw, rfl⟩ := W
      rw [hD.len, List.take_length] at hO
      exact sb_retI (ex_var 3) fun H2 x => q _ H2 (x3.trans x) ⟨g, ws, rfl, hgn, x _ _ hw, hO.ex x, hN⟩

-- SPLIT
/-! ### the law's own helpers -/
def AnyI : Hp → V → Prop := fun _ u => ∃ k : Int, u = .int k
instance : PM AnyI := ⟨fun _ h => h⟩
def spEndBy14 : Sp := fun vs H Q _ => ∃ (u : V) (rs : List Run) (c n : Int), vs = [.int c, u, .int n] ∧ RunsP rs H u ∧ rs ≠ [] ∧ 0 ≤ n ∧ Gives (Of AnyI) H Q
def DeedP : Hp → V → Prop := fun H u => ∃ t dd, u = .ref t ∧ H t = some (.tup (deedV dd))
instance : PM DeedP := ⟨fun x ⟨t, dd, h1, h2⟩ => ⟨t, dd, h1, x _ _ h2⟩⟩
def MadeW (w : Str) : Prop := w = "add" ∨ w = "fill" ∨ w = "total" ∨ w = "least" ∨ w = "place" ∨ w = "list"
def spMade14 : Sp := fun vs H Q _ => ∃ (w : Str) (lo hi v : Int), vs = [.str w, .int lo, .int hi, .int v] ∧ MadeW w ∧ Gives (Of DeedP) H Q
def spDeedBy : Sp := fun vs H Q _ => ∃ (u : V) (rs : List Run) (c d n : Int), vs = [.int c, .int d, u, .int n] ∧ RunsP rs H u ∧ rs ≠ [] ∧ 0 ≤ n ∧ Gives (Of DeedP) H Q
def spAnswer : Sp := fun vs H Q _ => ∃ (u : V) (t : Addr) (rs : List Run) (n : Int) (dd : Deed), vs = [u, .int n, .ref t] ∧ RunsP rs H u ∧ rs.length ≤ 10000 ∧ Cov 0 rs n ∧ (0 < n → Str' rs) ∧ 0 ≤ n ∧ n ≤ 1000000000000 ∧ H t = some (.tup (deedV dd)) ∧ dd ≠ .back ∧ Gives (RA (ansT (outOf (rowOf rs) dd))) H Q
def runBy (ns : List Int) (k : Int) : Int := if ns.getD (0 : Int).toNat 0 / 100 % 4 = 1 then ns.getD k.toNat 0 / 11 % 90 else 0
def spRun (K : PySem.W.Frag) : Sp := fun vs H Q _ => ∃ (a : Addr) (ns : List Int) (k : Int), vs = [.ref a, .int k] ∧ SqL K H a (ns.map V.int) ∧ 0 ≤ k ∧ Gives (Is (.int (runBy ns k))) H Q


abbrev s__law_end_by : Stmt := topS 49
theorem sc__law_end_by : FnScope ["_law_cell", "_law_runs", "_law_many", "_law_at"] ["_law_cell", "_law_runs", "_law_many"] (defScope s__law_end_by) := ⟨rfl, rfl, rfl, by decide +kernel, rfl, by decide +kernel, by decide +kernel⟩
theorem ok__law_end_by (B : Bt mg) (F : Df K mg "_law_end_by" s__law_end_by ["_law_cell", "_law_runs", "_law_many"]) : Dn P w K mg base "_law_end_by" 1 ["_law_cell", "_law_runs", "_law_many"] spEndBy14 :=
  def_ok F sc__law_end_by (fun vs H Q E ⟨_, _, _, _, e, _⟩ => by rw [e] <;> rfl) fun f cdv A outer s H vs Q E hr h => by
    obtain ⟨_, rs, c, n, rfl, ⟨l, vs, rfl, hl, hV⟩, hne, n0, q⟩ := h
    have hlen : 0 < vs.length := by
      rw [hV.len]
      exact List.length_pos_iff.mpr hne
    have k0 := Int.emod_nonneg (c / 4) (show (vs.length : Int) ≠ 0 by omega)
    have k1 := Int.emod_lt_of_pos (c / 4) (show 0 < (vs.length : Int) by omega)
    obtain ⟨x0, hx0⟩ : ∃ x, vs[(c / 4 % (vs.length : Int)).toNat]? = some x := ⟨_, List.getElem?_eq_getElem (by omega)⟩
    obtain ⟨t, r, rfl, _, ht⟩ := hV.get hx0
    have hx1 := at_of (show c / 4 % (vs.length : Int) = (((c / 4 % (vs.length : Int)).toNat : Nat) : Int) by omega) hx0

    refine sb_set 3 sc__law_end_by.nd (ex_mod (ex_mulR (ex_fdiv (ex_var 0) ex_i ⟨by decide, by decide⟩) ex_i ⟨by decide, by decide⟩) (ex_add (ex_var 2) ex_i) (by omega)) ?_
    refine sb_join (fun σ' H1 => H1 = H ∧ ∃ k : Int, σ' = [some (.int c), some (.ref l), some (.int n), some (.int k)]) (tx_eqI (ex_mod (ex_var 0) ex_i (by decide +kernel)) ex_i) (fun _ => sb_set 3 sc__law_end_by.nd (ex_sub (ex_add (ex_ixT (ex_ixL (ex_var 1) (ex_mod (ex_fdiv (ex_var 0) ex_i ⟨by decide, by decide⟩) (ex_len B.len (av_cons (ex_var 1) av_nil) (SqL.of hl)) (by omega)) (SqL.of hl) hx1) ex_i (SqT.of ht) rfl) (ex_mod (ex_fdiv (ex_var 0) ex_i ⟨by decide, by decide⟩) ex_i (by decide +kernel))) ex_i) (sb_next (by exact ⟨rfl, _, rfl⟩))) (fun _ => sb_next (by exact ⟨rfl, _, rfl⟩)) ?_
    rintro σ' H1 ⟨rfl, k, rfl⟩
    refine sb_join (fun σ' H2 => H2 = H1 ∧ ∃ k : Int, σ' = [some (.int c), some (.ref l), some (.int n), some (.int k)]) (tx_eqI (ex_mod (ex_var 0) ex_i (by decide +kernel)) ex_i) (fun _ => sb_set 3 sc__law_end_by.nd (ex_add (ex_sub (ex_ixT (ex_ixL (ex_var 1) (ex_mod (ex_fdiv (ex_var 0) ex_i ⟨by decide, by decide⟩) (ex_len B.len (av_cons (ex_var 1) av_nil) (SqL.of hl)) (by omega)) (SqL.of hl) hx1) ex_i (SqT.of ht) rfl) (ex_mod (ex_fdiv (ex_var 0) ex_i ⟨by decide, by decide⟩) ex_i (by decide +kernel))) ex_i) (sb_next (by exact ⟨rfl, _, rfl⟩))) (fun _ => sb_next (by exact ⟨rfl, _, rfl⟩)) ?_
    rintro σ' H2 ⟨rfl, k, rfl⟩
    refine sb_join (fun σ' H3 => H3 = H2 ∧ ∃ k : Int, σ' = [some (.int c), some (.ref l), some (.int n), some (.int k)]) (tx_eqI (ex_mod (ex_var 0) ex_i (by decide +kernel)) ex_i) (fun _ => sb_set 3 sc__law_end_by.nd (ex_sub (ex_neg ex_i) (ex_mod (ex_fdiv (ex_var 0) ex_i ⟨by decide, by decide⟩) ex_i (by decide +kernel))) (sb_next (by exact ⟨rfl, _, rfl⟩))) (fun _ => sb_next (by exact ⟨rfl, _, rfl⟩)) ?_
    rintro σ' H3 ⟨rfl, k, rfl⟩
    refine sb_join (fun σ' H4 => H4 = H3 ∧ ∃ k : Int, σ' = [some (.int c), some (.ref l), some (.int n), some (.int k)]) (tx_eqI (ex_mod (ex_var 0) ex_i (by decide +kernel)) ex_i) (fun _ => sb_set 3 sc__law_end_by.nd (ex_add (ex_add (ex_var 2) ex_i) (ex_mod (ex_fdiv (ex_var 0) ex_i ⟨by decide, by decide⟩) ex_i (by decide +kernel))) (sb_next (by exact ⟨rfl, _, rfl⟩))) (fun _ => sb_next (by exact ⟨rfl, _, rfl⟩)) ?_
    rintro σ' H4 ⟨rfl, k, rfl⟩
    exact sb_retI (ex_var 3) fun H2 x => q _ H2 x ⟨k, rfl⟩

abbrev s__law_answer : Stmt := topS 50
theorem sc__law_answer : FnScope ["_law_runs", "_law_many", "_law_deed"] ["_law_runs", "_law_many", "_law_deed"] (defScope s__law_answer) := ⟨rfl, rfl, rfl, by decide +kernel, rfl, by decide +kernel, by decide +kernel⟩
theorem ok__law_answer (F : Df K mg "_law_answer" s__law_answer ["_law_runs", "_law_many", "_law_deed"]) (G__law_first : Dn P w K mg base "_law_first" 1 ["_law_runs", "_law_low", "_law_bound"] spFirR) (G__law_due : Dn P w K mg base "_law_due" 2 ["_law_runs", "_law_word", "_law_low", "_law_high"] spDue) : Dn P w K mg base "_law_answer" 3 ["_law_runs", "_law_many", "_law_deed"] spAnswer :=
  def_ok F sc__law_answer (fun vs H Q E ⟨_, _, _, _, _, e, _⟩ => by rw [e] <;> rfl) fun f cdv A outer s H vs Q E hr h => by
    obtain ⟨ru, t, rs, n, dd, rfl, hR, hz, hC, hs, n0, n1, hd, hnb, q⟩ := h
    have hl := hC.length
    rw [Int.sub_zero] at hl
    cases dd with
    | back => exact absurd rfl hnb
    | first lo bd =>

      refine sb_when (k := true) (TX.is (tx_eq (ex_ixT (ex_var 2) ex_i (SqT.of hd) rfl) ex_s) (by decide +kernel)) (fun _ => ?_) (fun c => by cases c)
      refine sb_when (tx_w (wx_or (tx_lt (ex_ixT (ex_var 2) ex_i (SqT.of hd) rfl) ex_i) (fun z1 => (wx_or1 (tx_gt (ex_ixT (ex_var 2) ex_i (SqT.of hd) rfl) (ex_var 1)))))) (fun c => ?_) (fun c => ?_)
      · have c : lo < 0 ∨ n < lo := by simpa using c
        have e : outOf (rowOf rs) (.first lo bd) = .bad .out := if_neg (by omega)
        rw [e] at q
        exact sb_retI ex_s fun H2 x => q _ H2 x RA.txt
      · have c : ¬ (lo < 0 ∨ n < lo) := by simpa using c
        have e : outOf (rowOf rs) (.first lo bd) = .num (fst (rowOf rs) lo bd) := if_pos (by omega)
        rw [e, ← firR_fst hC hs (by omega) (by omega)] at q
        exact sb_retI (v := optV (firR lo bd rs)) (ex_call G__law_first hr (av_cons (ex_var 0) (av_cons (ex_ixT (ex_var 2) ex_i (SqT.of hd) rfl) (av_cons (ex_ixT (ex_var 2) ex_i (SqT.of hd) rfl) av_nil))) (fun H1 Q x q => ⟨_, rs, lo, bd, rfl, hR.ex x, q⟩)) fun H2 x => q _ H2 x RA.num
    | change fl lo hi v =>

      refine sb_when (k := false) (by cases fl <;> exact TX.is (tx_eq (ex_ixT (ex_var 2) ex_i (SqT.of hd) rfl) ex_s) (by decide +kernel)) (fun c => by cases c) (fun _ => ?_)
      refine sb_when (tx_w (wx_or (tx_lt (ex_ixT (ex_var 2) ex_i (SqT.of hd) rfl) ex_i) (fun z1 => wx_or (tx_lt (ex_ixT (ex_var 2) ex_i (SqT.of hd) rfl) (ex_ixT (ex_var 2) ex_i (SqT.of hd) rfl)) (fun z2 => (wx_or1 (tx_gt (ex_ixT (ex_var 2) ex_i (SqT.of hd) rfl) (ex_var 1))))))) (fun c => ?_) (fun c => ?_)
      · have c : lo < 0 ∨ hi < lo ∨ n < hi := by simpa using c
        have e : outOf (rowOf rs) (.change fl lo hi v) = .bad .out := if_neg (by unfold InRow; omega)
        rw [e] at q
        exact sb_retI ex_s fun H2 x => q _ H2 x RA.txt
      · have c : ¬ (lo < 0 ∨ hi < lo ∨ n < hi) := by simpa using c
        have e : outOf (rowOf rs) (.change fl lo hi v) = .num none := if_pos (by unfold InRow; omega)
        rw [e] at q
        refine sb_when (k := true) (by cases fl <;> exact TX.is (tx_w (wx_or (tx_eq (ex_ixT (ex_var 2) ex_i (SqT.of hd) rfl) ex_s) (fun z1 => (wx_or1 (tx_eq (ex_ixT (ex_var 2) ex_i (SqT.of hd) rfl) ex_s))))) (by decide +kernel)) (fun _ => ?_) (fun c => by cases c)
        exact sb_retI ex_n fun H2 x => q _ H2 x RA.num
    | total lo hi =>

      refine sb_when (k := false) (TX.is (tx_eq (ex_ixT (ex_var 2) ex_i (SqT.of hd) rfl) ex_s) (by decide +kernel)) (fun c => by cases c) (fun _ => ?_)
      refine sb_when (tx_w (wx_or (tx_lt (ex_ixT (ex_var 2) ex_i (SqT.of hd) rfl) ex_i) (fun z1 => wx_or (tx_lt (ex_ixT (ex_var 2) ex_i (SqT.of hd) rfl) (ex_ixT (ex_var 2) ex_i (SqT.of hd) rfl)) (fun z2 => (wx_or1 (tx_gt (ex_ixT (ex_var 2) ex_i (SqT.of hd) rfl) (ex_var 1))))))) (fun c => ?_) (fun c => ?_)
      · have c : lo < 0 ∨ hi < lo ∨ n < hi := by simpa using c
        have e : outOf (rowOf rs) (.total lo hi) = .bad .out := if_neg (by unfold InRow; omega)
        rw [e] at q
        exact sb_retI ex_s fun H2 x => q _ H2 x RA.txt
      · have c : ¬ (lo < 0 ∨ hi < lo ∨ n < hi) := by simpa using c
        have e : outOf (rowOf rs) (.total lo hi) = .num (some (cut (rowOf rs) lo hi).sum) := if_pos (by unfold InRow; omega)
        rw [e] at q
        refine sb_when (k := false) (TX.is (tx_w (wx_or (tx_eq (ex_ixT (ex_var 2) ex_i (SqT.of hd) rfl) ex_s) (fun z1 => (wx_or1 (tx_eq (ex_ixT (ex_var 2) ex_i (SqT.of hd) rfl) ex_s))))) (by decide +kernel)) (fun c => by cases c) (fun _ => ?_)
        refine sb_when (k := false) (TX.is (tx_w (wx_and (tx_eq (ex_ixT (ex_var 2) ex_i (SqT.of hd) rfl) ex_s) (fun z1 => (wx_and1 (tx_gt (ex_sub (ex_ixT (ex_var 2) ex_i (SqT.of hd) rfl) (ex_ixT (ex_var 2) ex_i (SqT.of hd) rfl)) ex_i))))) (by rw [show decide (V.str "total" = V.str "list") = false by decide +kernel]; rfl)) (fun c => by cases c) (fun _ => ?_)
        refine sb_when (k := false) (TX.is (tx_w (wx_and (tx_eqI (ex_ixT (ex_var 2) ex_i (SqT.of hd) rfl) (ex_ixT (ex_var 2) ex_i (SqT.of hd) rfl)) (fun z1 => (wx_and1 (tx_w (wx_or (tx_eq (ex_ixT (ex_var 2) ex_i (SqT.of hd) rfl) ex_s) (fun z2 => (wx_or1 (tx_eq (ex_ixT (ex_var 2) ex_i (SqT.of hd) rfl) ex_s))))))))) (by rw [show decide (V.str "total" = V.str "least") = false by decide +kernel, show decide (V.str "total" = V.str "place") = false by decide +kernel]; simp)) (fun c => by cases c) (fun _ => ?_)
        exact sb_ret (R := RA (.num (some (cut (rowOf rs) lo hi).sum))) (ex_call G__law_due hr (av_cons (ex_var 0) (av_cons (ex_ixT (ex_var 2) ex_i (SqT.of hd) rfl) (av_cons (ex_ixT (ex_var 2) ex_i (SqT.of hd) rfl) (av_cons (ex_ixT (ex_var 2) ex_i (SqT.of hd) rfl) av_nil)))) (fun H1 Q x q => ⟨_, rs, "total", lo, hi, n, _, rfl, hR.ex x, hz, hC, n1, by omega, by omega, by omega, .inl ⟨rfl, rfl⟩, q⟩)) q
    | list lo hi =>
      refine sb_when (k := false) (TX.is (tx_eq (ex_ixT (ex_var 2) ex_i (SqT.of hd) rfl) ex_s) (by decide +kernel)) (fun c => by cases c) (fun _ => ?_)
      refine sb_when (tx_w (wx_or (tx_lt (ex_ixT (ex_var 2) ex_i (SqT.of hd) rfl) ex_i) (fun z1 => wx_or (tx_lt (ex_ixT (ex_var 2) ex_i (SqT.of hd) rfl) (ex_ixT (ex_var 2) ex_i (SqT.of hd) rfl)) (fun z2 => (wx_or1 (tx_gt (ex_ixT (ex_var 2) ex_i (SqT.of hd) rfl) (ex_var 1))))))) (fun c => ?_) (fun c => ?_)
      · have c : lo < 0 ∨ hi < lo ∨ n < hi := by simpa using c
        have e : outOf (rowOf rs) (.list lo hi) = .bad .out := if_pos (by unfold InRow; omega)
        rw [e] at q
        exact sb_retI ex_s fun H2 x => q _ H2 x RA.txt
      · have c : ¬ (lo < 0 ∨ hi < lo ∨ n < hi) := by simpa using c
        have hin : ¬ ¬ InRow (rowOf rs) lo hi := by unfold InRow; omega
        refine sb_when (k := false) (TX.is (tx_w (wx_or (tx_eq (ex_ixT (ex_var 2) ex_i (SqT.of hd) rfl) ex_s) (fun z1 => (wx_or1 (tx_eq (ex_ixT (ex_var 2) ex_i (SqT.of hd) rfl) ex_s))))) (by decide +kernel)) (fun c => by cases c) (fun _ => ?_)
        by_cases c2 : 1000 < hi - lo
        · have e : outOf (rowOf rs) (.list lo hi) = .bad .many := by show (if _ then _ else _) = _; rw [if_neg hin, if_pos c2]
          rw [e] at q
          refine sb_when (k := true) (TX.is (tx_w (wx_and (tx_eq (ex_ixT (ex_var 2) ex_i (SqT.of hd) rfl) ex_s) (fun z1 => (wx_and1 (tx_gt (ex_sub (ex_ixT (ex_var 2) ex_i (SqT.of hd) rfl) (ex_ixT (ex_var 2) ex_i (SqT.of hd) rfl)) ex_i))))) (by rw [show decide (V.str "list" = V.str "list") = true by decide +kernel, decide_eq_true c2]; rfl)) (fun _ => ?_) (fun c => by cases c)
          exact sb_retI ex_s fun H2 x => q _ H2 x RA.txt
        · have e : outOf (rowOf rs) (.list lo hi) = .row (cut (rowOf rs) lo hi) := by show (if _ then _ else _) = _; rw [if_neg hin, if_neg c2]
          rw [e] at q
          refine sb_when (k := false) (TX.is (tx_w (wx_and (tx_eq (ex_ixT (ex_var 2) ex_i (SqT.of hd) rfl) ex_s) (fun z1 => (wx_and1 (tx_gt (ex_sub (ex_ixT (ex_var 2) ex_i (SqT.of hd) rfl) (ex_ixT (ex_var 2) ex_i (SqT.of hd) rfl)) ex_i))))) (by rw [show decide (V.str "list" = V.str "list") = true by decide +kernel, decide_eq_false c2]; rfl)) (fun c => by cases c) (fun _ => ?_)
          refine sb_when (k := false) (TX.is (tx_w (wx_and (tx_eqI (ex_ixT (ex_var 2) ex_i (SqT.of hd) rfl) (ex_ixT (ex_var 2) ex_i (SqT.of hd) rfl)) (fun z1 => (wx_and1 (tx_w (wx_or (tx_eq (ex_ixT (ex_var 2) ex_i (SqT.of hd) rfl) ex_s) (fun z2 => (wx_or1 (tx_eq (ex_ixT (ex_var 2) ex_i (SqT.of hd) rfl) ex_s))))))))) (by rw [show decide (V.str "list" = V.str "least") = false by decide +kernel, show decide (V.str "list" = V.str "place") = false by decide +kernel]; simp)) (fun c => by cases c) (fun _ => ?_)
          exact sb_ret (R := RA (.row (cut (rowOf rs) lo hi))) (ex_call G__law_due hr (av_cons (ex_var 0) (av_cons (ex_ixT (ex_var 2) ex_i (SqT.of hd) rfl) (av_cons (ex_ixT (ex_var 2) ex_i (SqT.of hd) rfl) (av_cons (ex_ixT (ex_var 2) ex_i (SqT.of hd) rfl) av_nil)))) (fun H1 Q x q => ⟨_, rs, "list", lo, hi, n, _, rfl, hR.ex x, hz, hC, n1, by omega, by omega, by omega, .inr (.inl ⟨rfl, by omega, rfl⟩), q⟩)) q
    | least lo hi =>
      refine sb_when (k := false) (TX.is (tx_eq (ex_ixT (ex_var 2) ex_i (SqT.of hd) rfl) ex_s) (by decide +kernel)) (fun c => by cases c) (fun _ => ?_)
      refine sb_when (tx_w (wx_or (tx_lt (ex_ixT (ex_var 2) ex_i (SqT.of hd) rfl) ex_i) (fun z1 => wx_or (tx_lt (ex_ixT (ex_var 2) ex_i (SqT.of hd) rfl) (ex_ixT (ex_var 2) ex_i (SqT.of hd) rfl)) (fun z2 => (wx_or1 (tx_gt (ex_ixT (ex_var 2) ex_i (SqT.of hd) rfl) (ex_var 1))))))) (fun c => ?_) (fun c => ?_)
      · have c : lo < 0 ∨ hi < lo ∨ n < hi := by simpa using c
        have e : outOf (rowOf rs) (.least lo hi) = .bad .out := if_pos (by unfold InRow; omega)
        rw [e] at q
        exact sb_retI ex_s fun H2 x => q _ H2 x RA.txt
      · have c : ¬ (lo < 0 ∨ hi < lo ∨ n < hi) := by simpa using c
        have hin : ¬ ¬ InRow (rowOf rs) lo hi := by unfold InRow; omega
        refine sb_when (k := false) (TX.is (tx_w (wx_or (tx_eq (ex_ixT (ex_var 2) ex_i (SqT.of hd) rfl) ex_s) (fun z1 => (wx_or1 (tx_eq (ex_ixT (ex_var 2) ex_i (SqT.of hd) rfl) ex_s))))) (by decide +kernel)) (fun c => by cases c) (fun _ => ?_)
        refine sb_when (k := false) (TX.is (tx_w (wx_and (tx_eq (ex_ixT (ex_var 2) ex_i (SqT.of hd) rfl) ex_s) (fun z1 => (wx_and1 (tx_gt (ex_sub (ex_ixT (ex_var 2) ex_i (SqT.of hd) rfl) (ex_ixT (ex_var 2) ex_i (SqT.of hd) rfl)) ex_i))))) (by rw [show decide (V.str "least" = V.str "list") = false by decide +kernel]; rfl)) (fun c => by cases c) (fun _ => ?_)
        by_cases c2 : lo = hi
        · have e : outOf (rowOf rs) (.least lo hi) = .bad .nothing := by show (if _ then _ else _) = _; rw [if_neg hin, if_pos c2]
          rw [e] at q
          refine sb_when (k := true) (TX.is (tx_w (wx_and (tx_eqI (ex_ixT (ex_var 2) ex_i (SqT.of hd) rfl) (ex_ixT (ex_var 2) ex_i (SqT.of hd) rfl)) (fun z1 => (wx_and1 (tx_w (wx_or (tx_eq (ex_ixT (ex_var 2) ex_i (SqT.of hd) rfl) ex_s) (fun z2 => (wx_or1 (tx_eq (ex_ixT (ex_var 2) ex_i (SqT.of hd) rfl) ex_s))))))))) (by rw [show decide (V.str "least" = V.str "least") = true by decide +kernel, decide_eq_true c2]; rfl)) (fun _ => ?_) (fun c => by cases c)
          exact sb_retI ex_s fun H2 x => q _ H2 x RA.txt
        · have e : outOf (rowOf rs) (.least lo hi) = .num (some (minL (cut (rowOf rs) lo hi))) := by show (if _ then _ else _) = _; rw [if_neg hin, if_neg c2]
          rw [e] at q
          have hm := minL_is (cut_ne (show 0 ≤ lo by omega) (show lo < hi by omega) (by omega) : cut (rowOf rs) lo hi ≠ [])
          refine sb_when (k := false) (TX.is (tx_w (wx_and (tx_eqI (ex_ixT (ex_var 2) ex_i (SqT.of hd) rfl) (ex_ixT (ex_var 2) ex_i (SqT.of hd) rfl)) (fun z1 => (wx_and1 (tx_w (wx_or (tx_eq (ex_ixT (ex_var 2) ex_i (SqT.of hd) rfl) ex_s) (fun z2 => (wx_or1 (tx_eq (ex_ixT (ex_var 2) ex_i (SqT.of hd) rfl) ex_s))))))))) (by rw [decide_eq_false c2]; rfl)) (fun c => by cases c) (fun _ => ?_)
          exact sb_ret (R := RA (.num (some (minL (cut (rowOf rs) lo hi))))) (ex_call G__law_due hr (av_cons (ex_var 0) (av_cons (ex_ixT (ex_var 2) ex_i (SqT.of hd) rfl) (av_cons (ex_ixT (ex_var 2) ex_i (SqT.of hd) rfl) (av_cons (ex_ixT (ex_var 2) ex_i (SqT.of hd) rfl) av_nil)))) (fun H1 Q x q => ⟨_, rs, "least", lo, hi, n, _, rfl, hR.ex x, hz, hC, n1, by omega, by omega, by omega, .inr (.inr (.inl ⟨rfl, by omega, _, hm, rfl⟩)), q⟩)) q
    | place lo hi =>
      refine sb_when (k := false) (TX.is (tx_eq (ex_ixT (ex_var 2) ex_i (SqT.of hd) rfl) ex_s) (by decide +kernel)) (fun c => by cases c) (fun _ => ?_)
      refine sb_when (tx_w (wx_or (tx_lt (ex_ixT (ex_var 2) ex_i (SqT.of hd) rfl) ex_i) (fun z1 => wx_or (tx_lt (ex_ixT (ex_var 2) ex_i (SqT.of hd) rfl) (ex_ixT (ex_var 2) ex_i (SqT.of hd) rfl)) (fun z2 => (wx_or1 (tx_gt (ex_ixT (ex_var 2) ex_i (SqT.of hd) rfl) (ex_var 1))))))) (fun c => ?_) (fun c => ?_)
      · have c : lo < 0 ∨ hi < lo ∨ n < hi := by simpa using c
        have e : outOf (rowOf rs) (.place lo hi) = .bad .out := if_pos (by unfold InRow; omega)
        rw [e] at q
        exact sb_retI ex_s fun H2 x => q _ H2 x RA.txt
      · have c : ¬ (lo < 0 ∨ hi < lo ∨ n < hi) := by simpa using c
        have hin : ¬ ¬ InRow (rowOf rs) lo hi := by unfold InRow; omega
        refine sb_when (k := false) (TX.is (tx_w (wx_or (tx_eq (ex_ixT (ex_var 2) ex_i (SqT.of hd) rfl) ex_s) (fun z1 => (wx_or1 (tx_eq (ex_ixT (ex_var 2) ex_i (SqT.of hd) rfl) ex_s))))) (by decide +kernel)) (fun c => by cases c) (fun _ => ?_)
        refine sb_when (k := false) (TX.is (tx_w (wx_and (tx_eq (ex_ixT (ex_var 2) ex_i (SqT.of hd) rfl) ex_s) (fun z1 => (wx_and1 (tx_gt (ex_sub (ex_ixT (ex_var 2) ex_i (SqT.of hd) rfl) (ex_ixT (ex_var 2) ex_i (SqT.of hd) rfl)) ex_i))))) (by rw [show decide (V.str "place" = V.str "list") = false by decide +kernel]; rfl)) (fun c => by cases c) (fun _ => ?_)
        by_cases c2 : lo = hi
        · have e : outOf (rowOf rs) (.place lo hi) = .bad .nothing := by show (if _ then _ else _) = _; rw [if_neg hin, if_pos c2]
          rw [e] at q
          refine sb_when (k := true) (TX.is (tx_w (wx_and (tx_eqI (ex_ixT (ex_var 2) ex_i (SqT.of hd) rfl) (ex_ixT (ex_var 2) ex_i (SqT.of hd) rfl)) (fun z1 => (wx_and1 (tx_w (wx_or (tx_eq (ex_ixT (ex_var 2) ex_i (SqT.of hd) rfl) ex_s) (fun z2 => (wx_or1 (tx_eq (ex_ixT (ex_var 2) ex_i (SqT.of hd) rfl) ex_s))))))))) (by rw [show decide (V.str "place" = V.str "least") = false by decide +kernel, show decide (V.str "place" = V.str "place") = true by decide +kernel, decide_eq_true c2]; rfl)) (fun _ => ?_) (fun c => by cases c)
          exact sb_retI ex_s fun H2 x => q _ H2 x RA.txt
        · have e : outOf (rowOf rs) (.place lo hi) = .num (fst (rowOf rs) lo (minL (cut (rowOf rs) lo hi))) := by show (if _ then _ else _) = _; rw [if_neg hin, if_neg c2]
          rw [e] at q
          have hm := minL_is (cut_ne (show 0 ≤ lo by omega) (show lo < hi by omega) (by omega) : cut (rowOf rs) lo hi ≠ [])
          refine sb_when (k := false) (TX.is (tx_w (wx_and (tx_eqI (ex_ixT (ex_var 2) ex_i (SqT.of hd) rfl) (ex_ixT (ex_var 2) ex_i (SqT.of hd) rfl)) (fun z1 => (wx_and1 (tx_w (wx_or (tx_eq (ex_ixT (ex_var 2) ex_i (SqT.of hd) rfl) ex_s) (fun z2 => (wx_or1 (tx_eq (ex_ixT (ex_var 2) ex_i (SqT.of hd) rfl) ex_s))))))))) (by rw [decide_eq_false c2]; rfl)) (fun c => by cases c) (fun _ => ?_)
          exact sb_ret (R := RA (.num (fst (rowOf rs) lo (minL (cut (rowOf rs) lo hi))))) (ex_call G__law_due hr (av_cons (ex_var 0) (av_cons (ex_ixT (ex_var 2) ex_i (SqT.of hd) rfl) (av_cons (ex_ixT (ex_var 2) ex_i (SqT.of hd) rfl) (av_cons (ex_ixT (ex_var 2) ex_i (SqT.of hd) rfl) av_nil)))) (fun H1 Q x q => ⟨_, rs, "place", lo, hi, n, _, rfl, hR.ex x, hz, hC, n1, by omega, by omega, by omega, .inr (.inr (.inr ⟨rfl, by omega, _, hm, rfl⟩)), q⟩)) q

abbrev s__law_made : Stmt := topS 52
theorem sc__law_made : FnScope ["_law_word", "_law_low", "_law_high", "_law_number"] ["_law_word", "_law_low", "_law_high", "_law_number"] (defScope s__law_made) := ⟨rfl, rfl, rfl, by decide +kernel, rfl, by decide +kernel, by decide +kernel⟩
theorem ok__law_made (F : Df K mg "_law_made" s__law_made ["_law_word", "_law_low", "_law_high", "_law_number"]) : Dn P w K mg base "_law_made" 1 ["_law_word", "_law_low", "_law_high", "_law_number"] spMade14 :=
  def_ok F sc__law_made (fun vs H Q E ⟨_, _, _, _, e, _⟩ => by rw [e] <;> rfl) fun f cdv A outer s H vs Q E hr h => by
    obtain ⟨w, lo, hi, v, rfl, hw, q⟩ := h

    rcases hw with rfl | rfl | rfl | rfl | rfl | rfl
    · refine sb_when (k := true) (TX.is (tx_w (wx_or (tx_eq (ex_var 0) ex_s) (fun z1 => (wx_or1 (tx_eq (ex_var 0) ex_s))))) (by decide +kernel)) (fun _ => ?_) (fun c => by cases c)
      exact sb_ret (R := NT (deedV (.change false lo hi v))) (ex_tup (av_cons (ex_var 0) (av_cons (ex_var 1) (av_cons (ex_var 2) (av_cons (ex_var 3) av_nil)))) (by exact Nat.le_of_ble_eq_true rfl)) fun u H2 x ⟨t, h1, _, h2⟩ => q u H2 x ⟨t, _, h1, h2⟩
    · refine sb_when (k := true) (TX.is (tx_w (wx_or (tx_eq (ex_var 0) ex_s) (fun z1 => (wx_or1 (tx_eq (ex_var 0) ex_s))))) (by decide +kernel)) (fun _ => ?_) (fun c => by cases c)
      exact sb_ret (R := NT (deedV (.change true lo hi v))) (ex_tup (av_cons (ex_var 0) (av_cons (ex_var 1) (av_cons (ex_var 2) (av_cons (ex_var 3) av_nil)))) (by exact Nat.le_of_ble_eq_true rfl)) fun u H2 x ⟨t, h1, _, h2⟩ => q u H2 x ⟨t, _, h1, h2⟩
    · refine sb_when (k := false) (TX.is (tx_w (wx_or (tx_eq (ex_var 0) ex_s) (fun z1 => (wx_or1 (tx_eq (ex_var 0) ex_s))))) (by decide +kernel)) (fun c => by cases c) (fun _ => ?_)
      exact sb_ret (R := NT (deedV (.total lo hi))) (ex_tup (av_cons (ex_var 0) (av_cons (ex_var 1) (av_cons (ex_var 2) av_nil))) (by exact Nat.le_of_ble_eq_true rfl)) fun u H2 x ⟨t, h1, _, h2⟩ => q u H2 x ⟨t, _, h1, h2⟩
    · refine sb_when (k := false) (TX.is (tx_w (wx_or (tx_eq (ex_var 0) ex_s) (fun z1 => (wx_or1 (tx_eq (ex_var 0) ex_s))))) (by decide +kernel)) (fun c => by cases c) (fun _ => ?_)
      exact sb_ret (R := NT (deedV (.least lo hi))) (ex_tup (av_cons (ex_var 0) (av_cons (ex_var 1) (av_cons (ex_var 2) av_nil))) (by exact Nat.le_of_ble_eq_true rfl)) fun u H2 x ⟨t, h1, _, h2⟩ => q u H2 x ⟨t, _, h1, h2⟩
    · refine sb_when (k := false) (TX.is (tx_w (wx_or (tx_eq (ex_var 0) ex_s) (fun z1 => (wx_or1 (tx_eq (ex_var 0) ex_s))))) (by decide +kernel)) (fun c => by cases c) (fun _ => ?_)
      exact sb_ret (R := NT (deedV (.place lo hi))) (ex_tup (av_cons (ex_var 0) (av_cons (ex_var 1) (av_cons (ex_var 2) av_nil))) (by exact Nat.le_of_ble_eq_true rfl)) fun u H2 x ⟨t, h1, _, h2⟩ => q u H2 x ⟨t, _, h1, h2⟩
    · refine sb_when (k := false) (TX.is (tx_w (wx_or (tx_eq (ex_var 0) ex_s) (fun z1 => (wx_or1 (tx_eq (ex_var 0) ex_s))))) (by decide +kernel)) (fun c => by cases c) (fun _ => ?_)
      exact sb_ret (R := NT (deedV (.list lo hi))) (ex_tup (av_cons (ex_var 0) (av_cons (ex_var 1) (av_cons (ex_var 2) av_nil))) (by exact Nat.le_of_ble_eq_true rfl)) fun u H2 x ⟨t, h1, _, h2⟩ => q u H2 x ⟨t, _, h1, h2⟩

abbrev s__law_deed_by : Stmt := topS 51
theorem sc__law_deed_by : FnScope ["_law_one", "_law_two", "_law_runs", "_law_many", "_law_words", "_law_word", "_law_low", "_law_number", "_law_high"] ["_law_one", "_law_two", "_law_runs", "_law_many"] (defScope s__law_deed_by) := ⟨rfl, rfl, rfl, by decide +kernel, rfl, by decide +kernel, by decide +kernel⟩
theorem ok__law_deed_by (B : Bt mg) (F : Df K mg "_law_deed_by" s__law_deed_by ["_law_one", "_law_two", "_law_runs", "_law_many"]) (G__law_end_by : Dn P w K mg base "_law_end_by" 1 ["_law_cell", "_law_runs", "_law_many"] spEndBy14) (G__law_number_by : Dn P w K mg base "_law_number_by" 1 ["_law_cell"] spNumBy) (G__law_made : Dn P w K mg base "_law_made" 1 ["_law_word", "_law_low", "_law_high", "_law_number"] spMade14) : Dn P w K mg base "_law_deed_by" 2 ["_law_one", "_law_two", "_law_runs", "_law_many"] spDeedBy :=
  def_ok F sc__law_deed_by (fun vs H Q E ⟨_, _, _, _, _, e, _⟩ => by rw [e] <;> rfl) fun f cdv A outer s H vs Q E hr h => by
    obtain ⟨_, rs, c, d, n, rfl, ⟨l, vs, rfl, hl, hV⟩, hne, n0, q⟩ := h
    have hR : RunsP rs H (.ref l) := ⟨l, vs, rfl, hl, hV⟩
    have hlen : 0 < vs.length := by
      rw [hV.len]
      exact List.length_pos_iff.mpr hne
    have k0 := Int.emod_nonneg (d / 4) (show (vs.length : Int) ≠ 0 by omega)
    have k1 := Int.emod_lt_of_pos (d / 4) (show 0 < (vs.length : Int) by omega)
    obtain ⟨x0, hx0⟩ : ∃ x, vs[(d / 4 % (vs.length : Int)).toNat]? = some x := ⟨_, List.getElem?_eq_getElem (by omega)⟩
    obtain ⟨t, r, rfl, _, ht⟩ := hV.get hx0
    have hx1 := at_of (show d / 4 % (vs.length : Int) = (((d / 4 % (vs.length : Int)).toNat : Nat) : Int) by omega) hx0
    refine sb_new 4 sc__law_deed_by.nd (ex_lst (av_cons ex_s (av_cons ex_s (av_cons ex_s (av_cons ex_s (av_cons ex_s (av_cons ex_s (av_cons ex_s (av_cons ex_s (av_cons ex_s av_nil))))))))) (by exact Nat.le_of_ble_eq_true rfl)) fun p hp => ?_
    have x1 : Ex H (upd H p (.lst [.str "add", .str "fill", .str "total", .str "least", .str "place", .str "first", .str "list", .str "back", .str "add"])) := Ex.new hp
    have hp1 : (upd H p (.lst [.str "add", .str "fill", .str "total", .str "least", .str "place", .str "first", .str "list", .str "back", .str "add"])) p = some (.lst [.str "add", .str "fill", .str "total", .str "least", .str "place", .str "first", .str "list", .str "back", .str "add"]) := upd_same
    obtain ⟨w, hw, hw8⟩ : ∃ w : Str, atI [V.str "add", .str "fill", .str "total", .str "least", .str "place", .str "first", .str "list", .str "back", .str "add"] (c % 9) = some (.str w) ∧ (w = "back" ∨ w = "first" ∨ MadeW w) := by
      rcases (show c % 9 = 0 ∨ c % 9 = 1 ∨ c % 9 = 2 ∨ c % 9 = 3 ∨ c % 9 = 4 ∨ c % 9 = 5 ∨ c % 9 = 6 ∨ c % 9 = 7 ∨ c % 9 = 8 by omega) with e | e | e | e | e | e | e | e | e <;> rw [e]
      · exact ⟨_, rfl, .inr (.inr (.inl rfl))⟩
      · exact ⟨_, rfl, .inr (.inr (.inr (.inl rfl)))⟩
      · exact ⟨_, rfl, .inr (.inr (.inr (.inr (.inl rfl))))⟩
      · exact ⟨_, rfl, .inr (.inr (.inr (.inr (.inr (.inl rfl)))))⟩
      · exact ⟨_, rfl, .inr (.inr (.inr (.inr (.inr (.inr (.inl rfl))))))⟩
      · exact ⟨_, rfl, .inr (.inl rfl)⟩
      · exact ⟨_, rfl, .inr (.inr (.inr (.inr (.inr (.inr (.inr rfl))))))⟩
      · exact ⟨_, rfl, .inl rfl⟩
      · exact ⟨_, rfl, .inr (.inr (.inl rfl))⟩
    have q := q.up x1
    have hl1 := x1 _ _ hl
    have ht1 := x1 _ _ ht
    have hR1 := hR.ex x1
    generalize upd H p (.lst [.str "add", .str "fill", .str "total", .str "least", .str "place", .str "first", .str "list", .str "back", .str "add"]) = H1 at hp1 q hl1 ht1 hR1 ⊢

    refine sb_set 5 sc__law_deed_by.nd (ex_ixL (ex_var 4) (ex_mod (ex_var 0) ex_i (by decide +kernel)) (SqL.of hp1) hw) ?_
    refine sb_when (tx_eq (ex_var 5) ex_s) (fun c2 => ?_) (fun c2 => ?_)
    · exact sb_ret (R := NT (deedV .back)) (ex_tup (av_cons ex_s av_nil) (by exact Nat.le_of_ble_eq_true rfl)) fun u H2 x ⟨t, h1, _, h2⟩ => q u H2 x ⟨t, _, h1, h2⟩
    have nb : w ≠ "back" := fun e => by rw [e] at c2; revert c2; decide +kernel
    refine sb_asg (R := Of AnyI) 6 sc__law_deed_by.nd (ex_call G__law_end_by hr (av_cons (ex_fdiv (ex_var 0) ex_i ⟨by decide, by decide⟩) (av_cons (ex_var 2) (av_cons (ex_var 3) av_nil))) (fun H1 Q x q => ⟨_, rs, _, n, rfl, hR1.ex x, hne, n0, q⟩)) fun u H2 x2 hu => ?_
    obtain ⟨lo, rfl⟩ := hu
    refine sb_set 7 sc__law_deed_by.nd (ex_call G__law_number_by hr (av_cons (ex_var 1) av_nil) (fun H1 Q x q => ⟨_, rfl, q⟩)) ?_
    generalize numBy d = v
    have hl2 := x2 _ _ hl1
    have ht2 := x2 _ _ ht1

    refine sb_when (tx_eq (ex_var 5) ex_s) (fun c3 => ?_) (fun c3 => ?_)
    · have e : w = "first" := by have := of_decide_eq_true c3; injection this
      subst e
      obtain ⟨bd, hbd⟩ : ∃ bd : Int, atI [V.int v, .int (r.v + d % 3 - 1)] (d / 7 % 2) = some (.int bd) := by
        rcases (show d / 7 % 2 = 0 ∨ d / 7 % 2 = 1 by omega) with e | e <;> rw [e]
        · exact ⟨_, rfl⟩
        · exact ⟨_, rfl⟩
      exact sb_ret (R := NT (deedV (.first lo bd))) (ex_tup (av_cons (ex_var 5) (av_cons (ex_var 6) (av_cons (ex_ixN (ex_lst (av_cons (ex_var 7) (av_cons (ex_sub (ex_add (ex_ixT (ex_ixL (ex_var 2) (ex_mod (ex_fdiv (ex_var 1) ex_i ⟨by decide, by decide⟩) (ex_len B.len (av_cons (ex_var 2) av_nil) (SqL.of hl2)) (by omega)) (SqL.of hl2) hx1) ex_i (SqT.of ht2) rfl) (ex_mod (ex_var 1) ex_i (by decide +kernel))) ex_i) av_nil)) (by exact Nat.le_of_ble_eq_true rfl)) (ex_mod (ex_fdiv (ex_var 1) ex_i ⟨by decide, by decide⟩) ex_i (by decide +kernel)) hbd) av_nil))) (by exact Nat.le_of_ble_eq_true rfl)) fun u H2 x ⟨t, h1, _, h2⟩ => (q.up x2) u H2 x ⟨t, _, h1, h2⟩
    have nf : w ≠ "first" := fun e => by rw [e] at c3; revert c3; decide +kernel
    have hM : MadeW w := by
      rcases hw8 with e | e | e
      · exact absurd e nb
      · exact absurd e nf
      · exact e

    refine sb_asg (R := Of AnyI) 8 sc__law_deed_by.nd (EX.up (ex_call G__law_end_by hr (av_cons (ex_fdiv (ex_var 1) ex_i ⟨by decide, by decide⟩) (av_cons (ex_var 2) (av_cons (ex_var 3) av_nil))) (fun H1 Q x q => ⟨_, rs, _, n, rfl, hR1.ex x, hne, n0, q⟩)) x2) fun u H3 x3 hu => ?_
    obtain ⟨hi, rfl⟩ := hu
    have q := q.up (x2.trans x3)
    refine sb_when (tx_w (wx_and (tx_eq (ex_var 5) ex_s) (fun z1 => (wx_and1 (tx_eqI (ex_mod (ex_var 1) ex_i (by decide +kernel)) ex_i))))) (fun _ => ?_) (fun _ => ?_)
    · exact sb_ret (R := NT (deedV (.list lo (lo + 999 + d / 7 % 4)))) (ex_tup (av_cons ex_s (av_cons (ex_var 6) (av_cons (ex_add (ex_add (ex_var 6) ex_i) (ex_mod (ex_fdiv (ex_var 1) ex_i ⟨by decide, by decide⟩) ex_i (by decide +kernel))) av_nil))) (by exact Nat.le_of_ble_eq_true rfl)) fun u H2 x ⟨t, h1, _, h2⟩ => q u H2 x ⟨t, _, h1, h2⟩
    refine sb_when (tx_w (wx_and (tx_gt (ex_mod (ex_var 1) ex_i (by decide +kernel)) ex_i) (fun z1 => (wx_and1 (tx_lt (ex_var 8) (ex_var 6)))))) (fun _ => ?_) (fun _ => ?_)
    · exact sb_ret (R := Of DeedP) (ex_call G__law_made hr (av_cons (ex_var 5) (av_cons (ex_var 8) (av_cons (ex_var 6) (av_cons (ex_var 7) av_nil)))) (fun H1 Q x q => ⟨w, _, _, _, rfl, hM, q⟩)) q
    · exact sb_ret (R := Of DeedP) (ex_call G__law_made hr (av_cons (ex_var 5) (av_cons (ex_var 6) (av_cons (ex_var 8) (av_cons (ex_var 7) av_nil)))) (fun H1 Q x q => ⟨w, _, _, _, rfl, hM, q⟩)) q

abbrev s__law_run : Stmt := topS 53
theorem sc__law_run : FnScope ["_law_script", "_law_k"] ["_law_script", "_law_k"] (defScope s__law_run) := ⟨rfl, rfl, rfl, by decide +kernel, rfl, by decide +kernel, by decide +kernel⟩
theorem ok__law_run (F : Df K mg "_law_run" s__law_run ["_law_script", "_law_k"]) (G__law_cell_at : Dn P w K mg base "_law_cell_at" 1 ["_law_script", "_law_k"] (spCell K)) : Dn P w K mg base "_law_run" 2 ["_law_script", "_law_k"] (spRun K) :=
  def_ok F sc__law_run (fun vs H Q E ⟨_, _, _, e, _⟩ => by rw [e] <;> rfl) fun f cdv A outer s H vs Q E hr h => by
    obtain ⟨a, ns, k, rfl, hS, k0, q⟩ := h
    unfold runBy at q


    refine sb_when (tx_eqI (ex_mod (ex_fdiv (ex_call G__law_cell_at hr (av_cons (ex_var 0) (av_cons ex_i av_nil)) (cl hS (by first | decide | omega))) ex_i ⟨by decide, by decide⟩) ex_i (by decide +kernel)) ex_i) (fun c => ?_) (fun c => ?_)
    · rw [if_pos (of_decide_eq_true c)] at q
      exact sb_ret (ex_mod (ex_fdiv (ex_call G__law_cell_at hr (av_cons (ex_var 0) (av_cons (ex_var 1) av_nil)) (cl hS (by first | decide | omega))) ex_i ⟨by decide, by decide⟩) ex_i (by decide +kernel)) q
    · rw [if_neg (of_decide_eq_false c)] at q
      exact sb_ret ex_i q

-- SPLIT
/-! ### the law's own ledger: deeds, what is due, the rows ahead -/
/-- a row as runs: at most m of them -/
def RunRow (n : Int) (m : Nat) (row : List Int) : Hp → V → Prop := fun H u => ∃ rs, RunsP rs H u ∧ rs ≠ [] ∧ rs.length ≤ m ∧ Cov 0 rs n ∧ (0 < n → Str' rs) ∧ rowOf rs = row
instance (n : Int) (m : Nat) (row : List Int) : PM (RunRow n m row) := ⟨fun x ⟨rs, h1, h2⟩ => ⟨rs, h1.ex x, h2⟩⟩
theorem RunRow.more {n : Int} {m m' : Nat} {row : List Int} {H : Hp} {u : V} (h : RunRow n m row H u) (x : m ≤ m') : RunRow n m' row H u := by
  obtain ⟨rs, h1, h2, h3, h4⟩ := h
  exact ⟨rs, h1, h2, by omega, h4⟩
structure AhV (n : Int) (m : Nat) (H : Hp) (as : List V) (rows : List (List Int)) : Prop where
  len : as.length = rows.length
  at_ : ∀ (j : Nat) row, rows[j]? = some row → ∃ u, as[j]? = some u ∧ RunRow n m row H u
theorem AhV.ex {n : Int} {m m' : Nat} {H H' : Hp} {as : List V} {rows : List (List Int)} (h : AhV n m H as rows) (x : Ex H H') (e : m ≤ m') : AhV n m' H' as rows := ⟨h.len, fun j row hj => by
  obtain ⟨u, h1, h2⟩ := h.at_ j row hj
  exact ⟨u, h1, (PM.m x h2 : RunRow n m row H' u).more e⟩⟩
theorem AhV.push {n : Int} {m : Nat} {H : Hp} {as : List V} {rows : List (List Int)} {u : V} {row : List Int} (h : AhV n m H as rows) (hu : RunRow n m row H u) : AhV n m H (as ++ [u]) (rows ++ [row]) := by
  refine ⟨by rw [List.length_append, List.length_append, h.len]; rfl, fun i r hr => ?_⟩
  by_cases c : i < rows.length
  · rw [List.getElem?_append_left c] at hr
    obtain ⟨p, h1, h2⟩ := h.at_ i r hr
    exact ⟨p, by rw [List.getElem?_append_left (by rw [h.len]; exact c)]; exact h1, h2⟩
  · have e : i = rows.length := by
      have := (List.getElem?_eq_some_iff.mp hr).1
      rw [List.length_append, List.length_singleton] at this
      omega
    subst e
    rw [List.getElem?_concat_length] at hr
    cases hr
    exact ⟨u, by rw [← h.len, List.getElem?_concat_length], hu⟩
theorem AhV.pop {n : Int} {m : Nat} {H : Hp} {as : List V} {rows : List (List Int)} (h : AhV n m H as rows) : AhV n m H as.dropLast rows.dropLast := by
  refine ⟨by rw [List.length_dropLast, List.length_dropLast, h.len], fun j r hj => ?_⟩
  have hlt := (List.getElem?_eq_some_iff.mp hj).1
  rw [List.length_dropLast] at hlt
  rw [List.dropLast_eq_take, List.getElem?_take_of_lt hlt] at hj
  obtain ⟨b, h1, h2⟩ := h.at_ j r hj
  exact ⟨b, by rw [List.dropLast_eq_take, List.getElem?_take_of_lt (by rw [h.len]; exact hlt)]; exact h1, h2⟩
theorem AhV.top {n : Int} {m : Nat} {H : Hp} {as : List V} {rows : List (List Int)} (h : AhV n m H as rows) (hne : rows ≠ []) : ∃ u, atI as (-1) = some u ∧ as[as.length - 1]? = some u ∧ RunRow n m (rows.getLastD []) H u := by
  have hl := List.length_pos_iff.mpr hne
  have e : rows[rows.length - 1]? = some (rows.getLastD []) := by
    rw [List.getLastD_eq_getLast?, ← List.getLast?_eq_getElem?]
    cases h : rows.getLast? with
    | none => exact absurd (List.getLast?_eq_none_iff.mp h) hne
    | some r => rfl
  obtain ⟨u, h1, h2⟩ := h.at_ _ _ e
  rw [← h.len] at h1
  refine ⟨u, ?_, h1, h2⟩
  unfold atI ixN
  rw [if_neg (by omega), if_pos (by have := h.len; omega)]
  show as[((-1 : Int) + (as.length : Int)).toNat]? = some u
  rw [show ((-1 : Int) + (as.length : Int)).toNat = as.length - 1 by omega]
  exact h1
/-- the ledger: what never changes stands in Hc -/
def S14 (Hc : Hp) (D U A : Addr) (n : Int) (row0 : List Int) (dds : List Deed) : Hp → Prop := fun H => ∃ ds us as, Ex Hc (dels H [D, U, A]) ∧ H D = some (.lst ds) ∧ H U = some (.lst us) ∧ H A = some (.lst as) ∧
  DeedsV (dels H [D, U, A]) ds dds ∧ OutsV (dels H [D, U, A]) us (outs [row0] dds) ∧ AhV n (70 + 2 * dds.length) (dels H [D, U, A]) as (after [row0] dds)
def spNoted : Sp := fun vs H Q _ => ∃ (t D U A : Addr) (n : Int) (row0 : List Int) (dds : List Deed) (dd : Deed) (Hc : Hp), vs = [.ref t, .ref D, .ref U, .ref A, .int n] ∧ H t = some (.tup (deedV dd)) ∧ D ≠ U ∧ D ≠ A ∧ U ≠ A ∧ 0 ≤ n ∧ n ≤ 1000000000000 ∧ dds.length ≤ 400 ∧ S14 Hc D U A n row0 dds H ∧ GivesM (fun _ H2 => S14 Hc D U A n row0 (dds ++ [dd]) H2) Q
theorem S14.step {Hc H H2 : Hp} {D U A t : Addr} {n : Int} {row0 : List Int} {dds : List Deed} {dd : Deed} {ds us as' : List V} {v : V} (x : Ex Hc (dels H [D, U, A])) (hD : DeedsV (dels H [D, U, A]) ds dds) (hU : OutsV (dels H [D, U, A]) us (outs [row0] dds)) (y : Ex (dels H [D, U, A]) (dels H2 [D, U, A])) (d2 : H2 D = some (.lst (ds ++ [.ref t]))) (u2 : H2 U = some (.lst (us ++ [v]))) (a2 : H2 A = some (.lst as'))
    (ht : (dels H2 [D, U, A]) t = some (.tup (deedV dd))) (hv : AtA (ansT (stepO (after [row0] dds) dd)) (dels H2 [D, U, A]) v) (hA : AhV n (70 + 2 * (dds.length + 1)) (dels H2 [D, U, A]) as' (stepS (after [row0] dds) dd)) : S14 Hc D U A n row0 (dds ++ [dd]) H2 := by
  refine ⟨_, _, _, x.trans y, d2, u2, a2, (hD.tx y.tx).push ht, ?_, ?_⟩
  · rw [outs_snoc]
    exact (hU.ex y).push hv
  · rw [after_snoc, List.length_append, List.length_singleton]
    exact hA
theorem S14.up {Hc H H' : Hp} {D U A : Addr} {n : Int} {row0 : List Int} {dds : List Deed} (s : S14 Hc D U A n row0 dds H) (x : Ex H H') : S14 Hc D U A n row0 dds H' := by
  obtain ⟨ds, us, as, xc, hD, hU, hA, vD, vU, vA⟩ := s
  have y : Ex (dels H [D, U, A]) (dels H' [D, U, A]) := dels_mono x
  exact ⟨ds, us, as, xc.trans y, x _ _ hD, x _ _ hU, x _ _ hA, vD.tx y.tx, vU.ex y, vA.ex y (Nat.le_refl _)⟩
theorem stepO_out {rows : List (List Int)} {dd : Deed} (h : dd ≠ .back) : stepO rows dd = outOf (rows.getLastD []) dd := by
  cases dd with
  | back => exact absurd rfl h
  | _ => rfl
theorem at_last {xs : List V} {v : V} : atI (xs ++ [v]) (-1) = some v := by
  unfold atI ixN
  rw [List.length_append, List.length_singleton, if_neg (by omega), if_pos (by omega)]
  show (xs ++ [v])[((-1 : Int) + ((xs.length + 1 : Nat) : Int)).toNat]? = some v
  rw [show ((-1 : Int) + ((xs.length + 1 : Nat) : Int)).toNat = xs.length by omega, List.getElem?_concat_length]

abbrev s__law_noted : Stmt := topS 54
theorem sc__law_noted : FnScope ["_law_deed", "_law_deeds", "_law_due_here", "_law_ahead", "_law_many"] ["_law_deed", "_law_deeds", "_law_due_here", "_law_ahead", "_law_many"] (defScope s__law_noted) := ⟨rfl, rfl, rfl, by decide +kernel, rfl, by decide +kernel, by decide +kernel⟩
theorem ok__law_noted (B : Bt mg) (F : Df K mg "_law_noted" s__law_noted ["_law_deed", "_law_deeds", "_law_due_here", "_law_ahead", "_law_many"]) (G__law_answer : Dn P w K mg base "_law_answer" 3 ["_law_runs", "_law_many", "_law_deed"] spAnswer) (G__law_changed : Dn P w K mg base "_law_changed" 2 ["_law_runs", "_law_word", "_law_low", "_law_high", "_law_number"] spChanged) : Dn P w K mg base "_law_noted" 4 ["_law_deed", "_law_deeds", "_law_due_here", "_law_ahead", "_law_many"] spNoted :=
  def_ok F sc__law_noted (fun vs H Q E ⟨_, _, _, _, _, _, _, _, _, e, _⟩ => by rw [e] <;> rfl) fun f cdv A0 outer s H vs Q E hr h => by
    obtain ⟨t, D, U, A, n, row0, dds, dd, Hc, rfl, ht, nDU, nDA, nUA, n0, n1, hz, S, q⟩ := h
    obtain ⟨ds, us, as, xc, hD, hU, hA, vD, vU, vA⟩ := S
    have mD : D ∈ [D, U, A] := by simp
    have mU : U ∈ [D, U, A] := by simp
    have mA : A ∈ [D, U, A] := by simp
    have hdl := vD.len
    have hul := vU.len
    rw [outs_length] at hul
    have hal := vA.len
    have hrl := after_len [row0] dds
    rw [List.length_singleton] at hrl
    have hne : after [row0] dds ≠ [] := after_ne _ (by simp)
    have hpos := List.length_pos_iff.mpr hne
    obtain ⟨u, hu1, hulast, hu2⟩ := vA.top hne
    have tn : t ∉ [D, U, A] := fun hm => by
      rcases List.mem_cons.mp hm with e | hm
      · rw [e, hD] at ht; cases ht
      rcases List.mem_cons.mp hm with e | hm
      · rw [e, hU] at ht; cases ht
      · rw [List.mem_singleton.mp hm, hA] at ht; cases ht
    have fin := fun (H2 : Hp) (as' : List V) (v : V) => S14.step (n := n) (H2 := H2) (as' := as') (v := v) (t := t) (dd := dd) xc vD vU
    clear vD vU xc

    refine sb_appI (v := .ref t) (ex_var 1) hD (by omega) (ex_var 0) ?_
    have e1 : dels (upd H D (.lst (ds ++ [.ref t]))) [D, U, A] = dels H [D, U, A] := dels_upd mD
    have hD1 : (upd H D (.lst (ds ++ [.ref t]))) D = some (.lst (ds ++ [.ref t])) := upd_same
    have hU1 : (upd H D (.lst (ds ++ [.ref t]))) U = some (.lst us) := by rw [upd_ne (Ne.symm nDU)]; exact hU
    have hA1 : (upd H D (.lst (ds ++ [.ref t]))) A = some (.lst as) := by rw [upd_ne (Ne.symm nDA)]; exact hA
    have ht1 : (upd H D (.lst (ds ++ [.ref t]))) t = some (.tup (deedV dd)) := by rw [upd_ne (fun e => tn (by rw [e]; exact mD))]; exact ht
    generalize upd H D (.lst (ds ++ [.ref t])) = H1 at e1 hD1 hU1 hA1 ht1 ⊢
    rw [← e1] at fin hu2 vA
    clear e1 hD hU hA ht
    obtain ⟨rs, hR, hrne, hrl', hC, hs, hrow⟩ : RunRow n (70 + 2 * dds.length) ((after [row0] dds).getLastD []) H1 u := PM.m dels_ex hu2
    by_cases hb : dd = .back
    · subst hb

      refine sb_if (k := true) (TX.is (tx_eq (ex_ixT (ex_var 0) ex_i (SqT.of ht1) rfl) ex_s) (by decide +kernel)) (fun _ => ?_) (fun c => by cases c)
      obtain ⟨v, hv1, hv2⟩ : ∃ v, atI [V.str "nothing", V.non] (if decide (1 < (as.length : Int)) = true then 1 else 0) = some v ∧ ∀ G, AtA (ansT (stepO (after [row0] dds) .back)) G v := by
        by_cases c : (after [row0] dds).length = 1
        · refine ⟨.str "nothing", by rw [decide_eq_false (by omega)]; rfl, fun G => ?_⟩
          show AtA (ansT (if _ then _ else _)) _ _
          rw [if_pos c]
          rfl
        · refine ⟨.non, by rw [decide_eq_true (by omega)]; rfl, fun G => ?_⟩
          show AtA (ansT (if _ then _ else _)) _ _
          rw [if_neg c]
          rfl
      refine sb_appI (v := v) (ex_var 2) hU1 (by omega) (ex_ixN (ex_lst (av_cons ex_s (av_cons ex_n av_nil)) (by exact Nat.le_of_ble_eq_true rfl)) (ex_intB B.int (av_cons (ex_gt (ex_len B.len (av_cons (ex_var 3) av_nil) (SqL.of hA1)) ex_i) av_nil)) hv1) ?_
      have e2 : dels (upd H1 U (.lst (us ++ [v]))) [D, U, A] = dels H1 [D, U, A] := dels_upd mU
      have hD2 : (upd H1 U (.lst (us ++ [v]))) D = some (.lst (ds ++ [.ref t])) := by rw [upd_ne nDU]; exact hD1
      have hU2 : (upd H1 U (.lst (us ++ [v]))) U = some (.lst (us ++ [v])) := upd_same
      have hA2 : (upd H1 U (.lst (us ++ [v]))) A = some (.lst as) := by rw [upd_ne (Ne.symm nUA)]; exact hA1
      have ht2 : (upd H1 U (.lst (us ++ [v]))) t = some (.tup (deedV .back)) := by rw [upd_ne (fun e => tn (by rw [e]; exact mU))]; exact ht1
      generalize upd H1 U (.lst (us ++ [v])) = H2 at e2 hD2 hU2 hA2 ht2 ⊢
      rw [← e2] at fin vA

      refine sb_when (tx_gt (ex_len B.len (av_cons (ex_var 3) av_nil) (SqL.of hA2)) ex_i) (fun c => ?_) (fun c => ?_)
      · have c : 1 < (as.length : Int) := of_decide_eq_true c
        refine sb_pop (ex_var 3) hA2 hulast (sb_thru (sb_thru (sb_nil fun H3 x3 => q _ H3 (S14.up (fin _ as.dropLast v ?_ ?_ ?_ upd_same ?_ (hv2 _) ?_) x3))))
        · rw [dels_upd mA]
          exact Ex.refl _
        · rw [upd_ne nDA]
          exact hD2
        · rw [upd_ne nUA]
          exact hU2
        · rw [dels_upd mA, dels_ne tn]
          exact ht2
        · show AhV _ _ _ _ (if _ then _ else _)
          rw [if_neg (by omega), dels_upd mA]
          exact vA.pop.ex (Ex.refl _) (by omega)
      · have c : ¬ 1 < (as.length : Int) := of_decide_eq_false c
        refine sb_thru (sb_nil fun H3 x3 => q _ H3 (S14.up (fin _ as v (Ex.refl _) hD2 hU2 hA2 ?_ (hv2 _) ?_) x3))
        · rw [dels_ne tn]
          exact ht2
        · show AhV _ _ _ _ (if _ then _ else _)
          rw [if_pos (by omega)]
          exact vA.ex (Ex.refl _) (by omega)

    · refine sb_if (k := false) (by
        clear fin q vA hu2
        cases dd with
        | back => exact absurd rfl hb
        | change fl lo hi v => cases fl <;> exact TX.is (tx_eq (ex_ixT (ex_var 0) ex_i (SqT.of ht1) rfl) ex_s) (by decide +kernel)
        | _ => exact TX.is (tx_eq (ex_ixT (ex_var 0) ex_i (SqT.of ht1) rfl) ex_s) (by decide +kernel)) (fun c => by cases c) (fun _ => ?_)

      refine sb_app (R := RA (ansT (outOf (rowOf rs) dd))) (ex_var 2) hU1 (by omega) (ex_call G__law_answer hr (av_cons (ex_ixL (ex_var 3) (ex_neg ex_i) (SqL.of hA1) hu1) (av_cons (ex_var 4) (av_cons (ex_var 0) av_nil))) (fun H2 Q x q => ⟨_, t, rs, n, dd, rfl, hR.ex x, by omega, hC, hs, n0, n1, x _ _ ht1, hb, q⟩)) fun v H2 x2 hv => ?_
      have y2 : Ex (dels H1 [D, U, A]) (dels H2 [D, U, A]) := dels_mono x2
      have hv2 : AtA (ansT (stepO (after [row0] dds) dd)) (dels H2 [D, U, A]) v := by
        rw [stepO_out hb, ← hrow]
        refine hv.1.keep fun p xs e hp => ?_
        rw [e] at hv
        obtain ⟨zs, e2, _⟩ := ansT_ref hv.1
        obtain ⟨p', e3, hp'⟩ := hv.2 zs (by rw [e2]; rfl)
        cases e3
        rw [dels_ne (fun hm => by
          rcases List.mem_cons.mp hm with e | hm
          · rw [e, hD1] at hp'; cases hp'
          rcases List.mem_cons.mp hm with e | hm
          · rw [e, hU1] at hp'; cases hp'
          · rw [List.mem_singleton.mp hm, hA1] at hp'; cases hp')]
        exact hp
      have hD2 := x2 _ _ hD1
      have hA2 := x2 _ _ hA1
      have ht2 := x2 _ _ ht1
      have hR2 := hR.ex x2
      have e3 : dels (upd H2 U (.lst (us ++ [v]))) [D, U, A] = dels H2 [D, U, A] := dels_upd mU
      have hD3 : (upd H2 U (.lst (us ++ [v]))) D = some (.lst (ds ++ [.ref t])) := by rw [upd_ne nDU]; exact hD2
      have hU3 : (upd H2 U (.lst (us ++ [v]))) U = some (.lst (us ++ [v])) := upd_same
      have hA3 : (upd H2 U (.lst (us ++ [v]))) A = some (.lst as) := by rw [upd_ne (Ne.symm nUA)]; exact hA2
      have ht3 : (upd H2 U (.lst (us ++ [v]))) t = some (.tup (deedV dd)) := by rw [upd_ne (fun e => tn (by rw [e]; exact mU))]; exact ht2
      have hR3 : RunsP rs (upd H2 U (.lst (us ++ [v]))) u := by
        have hu2' := hu2
        obtain ⟨rs', hR', _, _, _, _, _⟩ := hu2'
        obtain ⟨l, vs, rfl, hl, hV⟩ := hR2
        refine ⟨l, vs, rfl, ?_, hV.tx (Tx.lst (x2 _ _ hU1))⟩
        rw [upd_ne (fun e => by
          obtain ⟨l', _, e1, hl', _⟩ := hR'
          cases e1
          rw [e, dels_in mU] at hl'
          cases hl')]
        exact hl
      rw [← e3] at hv2 y2
      generalize upd H2 U (.lst (us ++ [v])) = H3 at e3 hD3 hU3 hA3 ht3 hR3 hv2 y2 ⊢
      have hat := at_last (xs := us) (v := v)

      by_cases hc : ∃ fl lo hi b, dd = .change fl lo hi b ∧ InRow (rowOf rs) lo hi
      · obtain ⟨fl, lo, hi, b, rfl, hin⟩ := hc
        have eo : outOf (rowOf rs) (.change fl lo hi b) = .num none := if_pos hin
        rw [eo] at hv
        obtain rfl : v = .non := hv.1

        refine sb_when (k := true) (by clear fin q; cases fl <;> exact TX.is (tx_w (wx_and (tx_isN (ex_ixL (ex_var 2) (ex_neg ex_i) (SqL.of hU3) hat) ex_n) (fun z1 => (wx_and1 (tx_w (wx_or (tx_eq (ex_ixT (ex_var 0) ex_i (SqT.of ht3) rfl) ex_s) (fun z2 => (wx_or1 (tx_eq (ex_ixT (ex_var 0) ex_i (SqT.of ht3) rfl) ex_s))))))))) (by decide +kernel)) (fun _ => ?_) (fun c => by cases c)
        refine sb_app (R := Of (RunsP (chgR (chgF fl b) lo hi rs))) (ex_var 3) hA3 (by omega) (ex_call G__law_changed hr (av_cons (ex_ixL (ex_var 3) (ex_neg ex_i) (SqL.of hA3) hu1) (av_cons (ex_ixT (ex_var 0) ex_i (SqT.of ht3) rfl) (av_cons (ex_ixT (ex_var 0) ex_i (SqT.of ht3) rfl) (av_cons (ex_ixT (ex_var 0) ex_i (SqT.of ht3) rfl) (av_cons (ex_ixT (ex_var 0) ex_i (SqT.of ht3) rfl) av_nil))))) (fun H4 Q x q => ⟨_, rs, fl, lo, hi, b, rfl, hR3.ex x, hrne, by omega, q⟩)) fun u2 H4 x4 hu4 => ?_
        have hu4 : RunsP (chgR (chgF fl b) lo hi rs) H4 u2 := hu4
        have y4 : Ex (dels H3 [D, U, A]) (dels H4 [D, U, A]) := dels_mono x4
        have e5 : dels (upd H4 A (.lst (as ++ [u2]))) [D, U, A] = dels H4 [D, U, A] := dels_upd mA
        have hu5 : RunsP (chgR (chgF fl b) lo hi rs) (dels (upd H4 A (.lst (as ++ [u2]))) [D, U, A]) u2 := by
          rw [e5]
          obtain ⟨l2, vs2, rfl, hl2, hV2⟩ := hu4
          have nD : l2 ≠ D := fun e => by
            rw [e, x4 _ _ hD3] at hl2
            cases hl2
            obtain ⟨q0, r0, e0, _, hq0⟩ := hV2.get (i := ds.length) List.getElem?_concat_length
            cases e0
            rw [x4 _ _ ht3] at hq0
            cases hq0
          have nU : l2 ≠ U := fun e => by
            rw [e, x4 _ _ hU3] at hl2
            cases hl2
            obtain ⟨q0, r0, e0, _, hq0⟩ := hV2.get (i := us.length) List.getElem?_concat_length
            cases e0
          have nA : l2 ≠ A := fun e => by
            rw [e, x4 _ _ hA3] at hl2
            cases hl2
            obtain ⟨q0, r0, e0, _, hq0⟩ := hV2.get hulast
            obtain ⟨_, ⟨l', _, e1, hl', _⟩, _⟩ := hu2
            rw [e0] at e1
            cases e1
            rw [(dels_ex.trans x4) _ _ (y2 _ _ hl')] at hq0
            cases hq0
          have l2n : l2 ∉ [D, U, A] := fun hm => by
            rcases List.mem_cons.mp hm with e1 | hm
            · exact nD e1
            rcases List.mem_cons.mp hm with e1 | hm
            · exact nU e1
            · exact nA (List.mem_singleton.mp hm)
          have tx : Tx H4 (dels H4 [D, U, A]) := fun a zs e => by
            rw [dels_ne (fun hm => by
              rcases List.mem_cons.mp hm with e1 | hm
              · rw [e1, x4 _ _ hD3] at e; cases e
              rcases List.mem_cons.mp hm with e1 | hm
              · rw [e1, x4 _ _ hU3] at e; cases e
              · rw [List.mem_singleton.mp hm, x4 _ _ hA3] at e; cases e)]
            exact e
          exact ⟨l2, _, rfl, by rw [dels_ne l2n]; exact hl2, hV2.tx tx⟩
        refine sb_thru (sb_thru (sb_nil fun H6 x6 => q _ H6 (S14.up (fin _ (as ++ [u2]) .non ?_ ?_ ?_ upd_same ?_ ?_ ?_) x6)))
        · rw [e5]
          exact y2.trans y4
        · rw [upd_ne nDA]
          exact x4 _ _ hD3
        · rw [upd_ne nUA]
          exact x4 _ _ hU3
        · rw [dels_ne tn, upd_ne (fun e => tn (by rw [e]; exact mA))]
          exact x4 _ _ ht3
        · rw [e5]
          exact hv2.ex y4
        · have es : stepS (after [row0] dds) (.change fl lo hi b) = after [row0] dds ++ [chg (chgB fl b) ((after [row0] dds).getLastD []) lo hi] := if_pos (by rw [← hrow]; exact hin)
          rw [es]
          refine AhV.push ?_ ⟨_, hu5, chgR_ne hrne, ?_, chgR_cov hC, fun z => chgR_str (hs z), ?_⟩
          · rw [e5]
            exact vA.ex (y2.trans y4) (by omega)
          · have := chgR_length (f := chgF fl b) (lo := lo) (hi := hi) hC
            omega
          · rw [chgR_row hin.2.1 hC, hrow]
            rfl
      · have es : stepS (after [row0] dds) dd = after [row0] dds := by
          cases dd with
          | back => exact absurd rfl hb
          | change fl lo hi b => exact if_neg (fun z => hc ⟨fl, lo, hi, b, rfl, by rw [hrow]; exact z⟩)
          | _ => rfl
        refine sb_when (k := false) (by
          clear fin q vA hu2 hv2
          cases dd with
          | back => exact absurd rfl hb
          | change fl lo hi b =>
            have eo : outOf (rowOf rs) (.change fl lo hi b) = .bad .out := if_neg (fun z => hc ⟨fl, lo, hi, b, rfl, z⟩)
            rw [eo] at hv
            obtain rfl : v = .str "out of row" := hv.1

            cases fl <;> exact TX.is (tx_w (wx_and (tx_isN (ex_ixL (ex_var 2) (ex_neg ex_i) (SqL.of hU3) hat) ex_n) (fun z1 => (wx_and1 (tx_w (wx_or (tx_eq (ex_ixT (ex_var 0) ex_i (SqT.of ht3) rfl) ex_s) (fun z2 => (wx_or1 (tx_eq (ex_ixT (ex_var 0) ex_i (SqT.of ht3) rfl) ex_s))))))))) (by decide +kernel)

          | total a1 a2 => exact TX.is (tx_w (wx_and (tx_isN (ex_ixL (ex_var 2) (ex_neg ex_i) (SqL.of hU3) hat) ex_n) (fun z1 => (wx_and1 (tx_w (wx_or (tx_eq (ex_ixT (ex_var 0) ex_i (SqT.of ht3) rfl) ex_s) (fun z2 => (wx_or1 (tx_eq (ex_ixT (ex_var 0) ex_i (SqT.of ht3) rfl) ex_s))))))))) (by rw [show decide (V.str "total" = V.str "add") = false by decide +kernel, show decide (V.str "total" = V.str "fill") = false by decide +kernel]; simp)
          | least a1 a2 => exact TX.is (tx_w (wx_and (tx_isN (ex_ixL (ex_var 2) (ex_neg ex_i) (SqL.of hU3) hat) ex_n) (fun z1 => (wx_and1 (tx_w (wx_or (tx_eq (ex_ixT (ex_var 0) ex_i (SqT.of ht3) rfl) ex_s) (fun z2 => (wx_or1 (tx_eq (ex_ixT (ex_var 0) ex_i (SqT.of ht3) rfl) ex_s))))))))) (by rw [show decide (V.str "least" = V.str "add") = false by decide +kernel, show decide (V.str "least" = V.str "fill") = false by decide +kernel]; simp)
          | place a1 a2 => exact TX.is (tx_w (wx_and (tx_isN (ex_ixL (ex_var 2) (ex_neg ex_i) (SqL.of hU3) hat) ex_n) (fun z1 => (wx_and1 (tx_w (wx_or (tx_eq (ex_ixT (ex_var 0) ex_i (SqT.of ht3) rfl) ex_s) (fun z2 => (wx_or1 (tx_eq (ex_ixT (ex_var 0) ex_i (SqT.of ht3) rfl) ex_s))))))))) (by rw [show decide (V.str "place" = V.str "add") = false by decide +kernel, show decide (V.str "place" = V.str "fill") = false by decide +kernel]; simp)
          | first a1 a2 => exact TX.is (tx_w (wx_and (tx_isN (ex_ixL (ex_var 2) (ex_neg ex_i) (SqL.of hU3) hat) ex_n) (fun z1 => (wx_and1 (tx_w (wx_or (tx_eq (ex_ixT (ex_var 0) ex_i (SqT.of ht3) rfl) ex_s) (fun z2 => (wx_or1 (tx_eq (ex_ixT (ex_var 0) ex_i (SqT.of ht3) rfl) ex_s))))))))) (by rw [show decide (V.str "first" = V.str "add") = false by decide +kernel, show decide (V.str "first" = V.str "fill") = false by decide +kernel]; simp)
          | list a1 a2 => exact TX.is (tx_w (wx_and (tx_isN (ex_ixL (ex_var 2) (ex_neg ex_i) (SqL.of hU3) hat) ex_n) (fun z1 => (wx_and1 (tx_w (wx_or (tx_eq (ex_ixT (ex_var 0) ex_i (SqT.of ht3) rfl) ex_s) (fun z2 => (wx_or1 (tx_eq (ex_ixT (ex_var 0) ex_i (SqT.of ht3) rfl) ex_s))))))))) (by rw [show decide (V.str "list" = V.str "add") = false by decide +kernel, show decide (V.str "list" = V.str "fill") = false by decide +kernel]; simp)) (fun c => by cases c) (fun _ => ?_)
        refine sb_thru (sb_nil fun H6 x6 => q _ H6 (S14.up (fin _ as v y2 hD3 hU3 hA3 ?_ hv2 ?_) x6))
        · rw [dels_ne tn]
          exact ht3
        · rw [es]
          exact vA.ex y2 (by omega)

-- SPLIT
/-! ### where the law starts; data -/
def StartP : Hp → V → Prop := fun H u => ∃ (t : Addr) (bk ru : V) (n : Int) (row : List Int), u = .ref t ∧ H t = some (.tup [bk, ru, .int n]) ∧ Bk row H bk ∧ RunRow n 70 row H ru ∧ 0 ≤ n ∧ n ≤ 1000000000000
instance : PM StartP := ⟨fun x ⟨t, bk, ru, n, row, h1, h2, h3, h4, h5⟩ => ⟨t, bk, ru, n, row, h1, x _ _ h2, h3.ex x, PM.m x h4, h5⟩⟩
def spStart (K : PySem.W.Frag) : Sp := fun vs H Q _ => ∃ (a : Addr) (ns : List Int), vs = [.ref a] ∧ SqL K H a (ns.map V.int) ∧ Gives (Of StartP) H Q
def RunT (row : List Int) (i : Nat) : Hp → V → Prop := fun H u => ∃ (t : Addr) (x : Int), row[i]? = some x ∧ u = .ref t ∧ H t = some (.tup [.int i, .int (i + 1), .int x])
instance (row : List Int) (i : Nat) : TM (RunT row i) := ⟨fun x ⟨t, y, h0, h1, h2⟩ => ⟨t, y, h0, h1, x _ _ h2⟩⟩
theorem runs1_of {row : List Int} {H1 H2 : Hp} {u : V} (h : NLo (RunT row) row.length H1 u H2) : RunsP (runs1 row 0) H2 u := by
  obtain ⟨p, xs, rfl, _, h3, h4, h5⟩ := h
  refine ⟨p, xs, rfl, h3, by rw [h4, runs1_length], fun i r hr => ?_⟩
  rw [runs1_get] at hr
  cases hy : row[i]? with
  | none => rw [hy] at hr; cases hr
  | some y =>
    rw [hy] at hr
    cases hr
    have hi := (List.getElem?_eq_some_iff.mp hy).1
    have hx := List.getElem?_eq_getElem (l := xs) (i := i) (by omega)
    obtain ⟨t, y', e1, e2, e3⟩ := h5 i _ hx
    rw [hy] at e1
    cases e1
    refine ⟨t, by rw [hx, e2], ?_⟩
    rw [e3]
    simp only [Int.zero_add]

abbrev s__law_start : Stmt := topS 55
theorem sc__law_start : FnScope ["_law_script", "_law_many", "_law_row", "_law_k", "_law_book", "_law_runs"] ["_law_script"] (defScope s__law_start) := ⟨rfl, rfl, rfl, by decide +kernel, rfl, by decide +kernel, by decide +kernel⟩
theorem ok__law_start {CO CR : Addr} (B : Bt mg) (F : Df K mg "_law_start" s__law_start ["_law_script"]) (G__law_cell_at : Dn P w K mg base "_law_cell_at" 1 ["_law_script", "_law_k"] (spCell K)) (G__law_number_by : Dn P w K mg base "_law_number_by" 1 ["_law_cell"] spNumBy) (G_made : Dn P w K mg base "made" 13 ["numbers"] (spMade K CR)) (G_even : Dn P w K mg base "even" 2 ["many", "number"] (spEven CR))
    (G_added : Dn P w K mg base "added" 44 ["book", "low", "high", "by"] (spAdded CO)) (G__law_changed : Dn P w K mg base "_law_changed" 2 ["_law_runs", "_law_word", "_law_low", "_law_high", "_law_number"] spChanged) : Dn P w K mg base "_law_start" 45 ["_law_script"] (spStart K) :=
  def_ok F sc__law_start (fun vs H Q E ⟨_, _, e, _⟩ => by rw [e] <;> rfl) fun f cdv A outer s H vs Q E hr h => by
    obtain ⟨a, ns, rfl, hS, q⟩ := h


    refine sb_set 1 sc__law_start.nd (ex_mod (ex_fdiv (ex_call G__law_cell_at hr (av_cons (ex_var 0) (av_cons ex_i av_nil)) (cl hS (by first | decide | omega))) ex_i ⟨by decide, by decide⟩) ex_i (by decide +kernel)) ?_
    refine sb_join (fun σ' H1 => H1 = H ∧ ∃ n : Int, 0 ≤ n ∧ n ≤ 60 ∧ σ' = [some (.ref a), some (.int n), none, none, none, none]) (tx_eqI (ex_mod (ex_fdiv (ex_call G__law_cell_at hr (av_cons (ex_var 0) (av_cons ex_i av_nil)) (cl hS (by first | decide | omega))) ex_i ⟨by decide, by decide⟩) ex_i (by decide +kernel)) ex_i) (fun _ => sb_set 1 sc__law_start.nd (ex_mod (ex_fdiv (ex_call G__law_cell_at hr (av_cons (ex_var 0) (av_cons ex_i av_nil)) (cl hS (by first | decide | omega))) ex_i ⟨by decide, by decide⟩) ex_i (by decide +kernel)) (sb_next (by exact ⟨rfl, _, by omega, by omega, rfl⟩))) (fun _ => sb_next (by exact ⟨rfl, _, by omega, by omega, rfl⟩)) ?_
    rintro σ' H1 ⟨rfl, n, n0, n1, rfl⟩

    refine sb_asg (R := NL ((List.range n.toNat).map fun i : Nat => V.int (numBy (ns.getD (1 : Int).toNat 0 + (i : Int) * ns.getD (2 : Int).toNat 0)))) 2 sc__law_start.nd (ex_lcR 3 (fun i => V.int (numBy (ns.getD (1 : Int).toNat 0 + (i : Int) * ns.getD (2 : Int).toNat 0))) sc__law_start.nd B.range (av_cons (ex_var 1) av_nil) ⟨n0, by omega⟩ (blkOk_by (N := ["_law_script", "_law_many", "_law_row", "_law_k", "_law_book", "_law_runs"]) (sc := defScope s__law_start) (by decide +kernel)) (fun _ _ _ _ _ => pg_name (i := 3) sc__law_start.nd rfl (Or.inl rfl)) (fun s' H' C cl' fp i H2 x2 hi => (ex_call G__law_number_by hr (av_cons (ex_add (ex_call G__law_cell_at hr (av_cons (ex_var 0) (av_cons ex_i av_nil)) (cl (x2.l hS) (by first | decide | omega))) (ex_mulL (ex_var 3) (ex_call G__law_cell_at hr (av_cons (ex_var 0) (av_cons ex_i av_nil)) (cl (x2.l hS) (by first | decide | omega))) ⟨by omega, by omega⟩)) av_nil) (fun H1 Q x q => ⟨_, rfl, q⟩)))) (fun u H2 x2 hu => ?_)
    have hrow : ((List.range n.toNat).map fun i : Nat => V.int (numBy (ns.getD (1 : Int).toNat 0 + (i : Int) * ns.getD (2 : Int).toNat 0))) = ((List.range n.toNat).map fun i : Nat => numBy (ns.getD (1 : Int).toNat 0 + (i : Int) * ns.getD (2 : Int).toNat 0)).map V.int := by rw [List.map_map]; rfl
    rw [hrow] at hu
    have hz : ((((List.range n.toNat).map fun i : Nat => numBy (ns.getD (1 : Int).toNat 0 + (i : Int) * ns.getD (2 : Int).toNat 0)).length : Nat) : Int) = n := by rw [List.length_map, List.length_range]; omega
    generalize (List.range n.toNat).map (fun i : Nat => numBy (ns.getD (1 : Int).toNat 0 + (i : Int) * ns.getD (2 : Int).toNat 0)) = row at hu hz
    obtain ⟨p, rfl, _, hp⟩ := hu
    refine sb_asg (R := Of (Bk row)) 4 sc__law_start.nd (ex_call G_made hr (av_cons (ex_var 2) av_nil) (fun H3 Q x q => ⟨p, row, rfl, SqL.of (x _ _ hp), fun _ => q, fun z => by omega⟩)) fun bk H3 x3 hB => ?_
    have hB : Bk row H3 bk := hB
    have hp3 := x3 _ _ hp
    have en : n.toNat = row.length := by omega
    refine sb_lcRP 5 3 (RunT row) sc__law_start.nd B.range (av_cons (ex_var 1) av_nil) ⟨n0, by omega⟩ (blkOk_by (N := ["_law_script", "_law_many", "_law_row", "_law_k", "_law_book", "_law_runs"]) (sc := defScope s__law_start) (by decide +kernel)) (fun _ _ _ _ _ => pg_name (i := 3) sc__law_start.nd rfl (Or.inl rfl)) (fun s' H' C cl' fp i H4 x4 hi => by
      obtain ⟨y, hy⟩ := row_at (row := row) (k := (i : Int)) (by omega) (by omega)
      have hp4 := x4 _ _ hp3

      exact EX.mono (ex_tup (av_cons (ex_var 3) (av_cons (ex_add (ex_var 3) ex_i) (av_cons (ex_ixL (ex_var 2) (ex_var 3) (SqL.of hp4) (at_row (by omega) hy)) av_nil))) (by exact Nat.le_of_ble_eq_true rfl)) (fun _ u H5 _ _ ⟨t, e1, _, e2⟩ => ⟨t, y, hy, e1, e2⟩)) (fun u H4 x4 hu => ?_)
    rw [en] at hu
    have hu := runs1_of hu
    have x14 := (x2.trans x3).trans x4
    have hB4 := hB.ex x4
    have hS4 := x14.l hS


    refine sb_join (fun σ' H5 => Ex H4 H5 ∧ ∃ ru, RunRow n 62 row H5 ru ∧ σ' = [some (.ref a), some (.int n), some (.ref p), none, some bk, some ru]) (tx_eqI (ex_var 1) ex_i) (fun c => ?_) (fun c => ?_) ?_
    · have c : n = 0 := of_decide_eq_true c
      have er : row = [] := List.eq_nil_of_length_eq_zero (by omega)
      refine sb_asg (R := NLx [NT [.int 0, .int 0, .int 0]]) 5 sc__law_start.nd (ex_lstx (ax_cons (ex_tup (av_cons ex_i (av_cons ex_i (av_cons ex_i av_nil))) (by exact Nat.le_of_ble_eq_true rfl)) ax_nil) (by exact Nat.le_of_ble_eq_true rfl)) fun u H5 x5 hu => ?_
      obtain ⟨l0, _, rfl, _, hl0, _, _, rfl, ⟨t0, rfl, _, ht0⟩, rfl⟩ := hu
      exact sb_next (by exact ⟨x5, _, ⟨[⟨0, 0, 0⟩], ⟨l0, [.ref t0], rfl, hl0, RunsV.push (vs := []) (rs := []) RunsV.nil ht0⟩, by simp, by simp, ⟨rfl, Int.le_refl _, c.symm⟩, fun z => by omega, by rw [er] <;> rfl⟩, rfl⟩)
    · have c : ¬ n = 0 := of_decide_eq_false c
      refine sb_next ?_
      refine ⟨Ex.refl _, u, ⟨runs1 row 0, hu, fun e => ?_, by rw [runs1_length]; omega, ?_, fun _ => runs1_str row 0, runs1_row row 0⟩, rfl⟩
      · have := runs1_length row 0
        rw [e] at this
        have : row.length = 0 := this.symm
        omega
      · have := runs1_cov row 0
        rw [Int.zero_add, hz] at this
        exact this
    rintro σ' H5 ⟨x5, ru, hR, rfl⟩
    have hB5 := hB4.ex x5
    have hS5 := x5.l hS4


    refine sb_join (fun σ' H6 => Ex H5 H6 ∧ ∃ (n : Int) (bk ru : V) (row : List Int) (v2 : Option V), 0 ≤ n ∧ n ≤ 1000000000000 ∧ Bk row H6 bk ∧ RunRow n 62 row H6 ru ∧ σ' = [some (.ref a), some (.int n), v2, none, some bk, some ru]) (tx_eqI (ex_mod (ex_call G__law_cell_at hr (av_cons (ex_var 0) (av_cons ex_i av_nil)) (cl hS5 (by first | decide | omega))) ex_i (by decide +kernel)) ex_i) (fun _ => ?_) (fun _ => sb_next (by exact ⟨Ex.refl _, n, bk, ru, row, _, n0, by omega, hB5, hR, rfl⟩)) ?_
    · have eM : (10 : Int) ^ (12 : Int).toNat + 1 = 1000000000001 := by decide +kernel
      refine sb_set 1 sc__law_start.nd (ex_mod (ex_fdiv (ex_call G__law_cell_at hr (av_cons (ex_var 0) (av_cons ex_i av_nil)) (cl hS5 (by first | decide | omega))) ex_i ⟨by decide, by decide⟩) (ex_add (ex_pow ex_i ex_i ⟨by decide, by decide, by decide⟩) ex_i) (by decide +kernel)) ?_
      rw [eM]
      refine sb_join (fun σ' H6 => H6 = H5 ∧ ∃ m : Int, 0 ≤ m ∧ m ≤ 1000000000000 ∧ σ' = [some (.ref a), some (.int m), some (.ref p), none, some bk, some ru]) (tx_eqI (ex_mod (ex_call G__law_cell_at hr (av_cons (ex_var 0) (av_cons ex_i av_nil)) (cl hS5 (by first | decide | omega))) ex_i (by decide +kernel)) ex_i) (fun _ => sb_set 1 sc__law_start.nd (ex_mod (ex_fdiv (ex_call G__law_cell_at hr (av_cons (ex_var 0) (av_cons ex_i av_nil)) (cl hS5 (by first | decide | omega))) ex_i ⟨by decide, by decide⟩) ex_i (by decide +kernel)) (sb_next (by exact ⟨rfl, _, by omega, by omega, rfl⟩))) (fun _ => sb_next (by exact ⟨rfl, _, by omega, by omega, rfl⟩)) ?_
      rintro σ' H6 ⟨rfl, m, m0, m1, rfl⟩
      refine sb_asg (R := Of (Bk (List.replicate m.toNat (numBy (ns.getD (1 : Int).toNat 0))))) 4 sc__law_start.nd (ex_call G_even hr (av_cons (ex_var 1) (av_cons (ex_call G__law_number_by hr (av_cons (ex_call G__law_cell_at hr (av_cons (ex_var 0) (av_cons ex_i av_nil)) (cl hS5 (by first | decide | omega))) av_nil) (fun H1 Q x q => ⟨_, rfl, q⟩)) av_nil)) (fun H1 Q x q => ⟨m, _, rfl, fun _ => q, fun z => by omega⟩)) fun bk2 H7 x7 hB7 => ?_
      have hS7 := x7.l hS5


      refine sb_asg (R := NLx [NT [.int 0, .int m, .int (numBy (ns.getD (1 : Int).toNat 0))]]) 5 sc__law_start.nd (ex_lstx (ax_cons (ex_tup (av_cons ex_i (av_cons (ex_var 1) (av_cons (ex_call G__law_number_by hr (av_cons (ex_call G__law_cell_at hr (av_cons (ex_var 0) (av_cons ex_i av_nil)) (cl hS7 (by first | decide | omega))) av_nil) (fun H1 Q x q => ⟨_, rfl, q⟩)) av_nil))) (by exact Nat.le_of_ble_eq_true rfl)) ax_nil) (by exact Nat.le_of_ble_eq_true rfl)) fun u H8 x8 hu => ?_
      obtain ⟨l0, _, rfl, _, hl0, _, _, rfl, ⟨t0, rfl, _, ht0⟩, rfl⟩ := hu
      have hB8 : Bk (List.replicate m.toNat (numBy (ns.getD (1 : Int).toNat 0))) H8 bk2 := (show Bk _ H7 bk2 from hB7).ex x8
      refine sb_next ?_
      refine ⟨x7.trans x8, m, bk2, _, _, _, m0, m1, hB8, ⟨[⟨0, m, numBy (ns.getD (1 : Int).toNat 0)⟩], ⟨l0, [.ref t0], rfl, hl0, RunsV.push (vs := []) (rs := []) RunsV.nil ht0⟩, by simp, by simp, ⟨rfl, m0, rfl⟩, fun z r hr => by rw [List.mem_singleton.mp hr]; exact z, ?_⟩, rfl⟩
      show List.replicate (m - 0).toNat _ ++ [] = _
      rw [Int.sub_zero, List.append_nil]
    rintro σ' H6 ⟨x6, n, bk, ru, row, v2, n0, n1, hB, hR, rfl⟩
    have hS6 := x6.l hS5
    obtain ⟨rs, hR, hne, hrl, hC, hst, hrow⟩ := hR
    have hlr := hC.length
    rw [hrow, Int.sub_zero] at hlr


    refine sb_join (fun σ' H7 => Ex H6 H7 ∧ ∃ (bk ru : V) (row : List Int), Bk row H7 bk ∧ RunRow n 70 row H7 ru ∧ σ' = [some (.ref a), some (.int n), v2, none, some bk, some ru]) (tx_eqI (ex_mod (ex_call G__law_cell_at hr (av_cons (ex_var 0) (av_cons ex_i av_nil)) (cl hS6 (by first | decide | omega))) ex_i (by decide +kernel)) ex_i) (fun _ => ?_) (fun _ => sb_next (by exact ⟨Ex.refl _, bk, ru, row, hB, ⟨rs, hR, hne, by omega, hC, hst, hrow⟩, rfl⟩)) ?_
    · have c1 : Lies row (n / 2) n := ⟨by omega, by omega, by omega⟩

      refine sb_asg (R := Of (Bk (chg (fun x => x + 3) row (n / 2) n))) 4 sc__law_start.nd (ex_call G_added hr (av_cons (ex_var 4) (av_cons (ex_fdiv (ex_var 1) ex_i ⟨by decide, by decide⟩) (av_cons (ex_var 1) (av_cons ex_i av_nil)))) (fun H1 Q x q => ⟨_, row, _, _, _, rfl, hB.ex x, fun _ => q, fun z => absurd c1 z⟩)) fun bk2 H7 x7 hB7 => ?_
      refine sb_asg (R := Of (RunsP (chgR (chgF false 3) (n / 2) n rs))) 5 sc__law_start.nd (ex_call G__law_changed hr (av_cons (ex_var 5) (av_cons ex_s (av_cons (ex_fdiv (ex_var 1) ex_i ⟨by decide, by decide⟩) (av_cons (ex_var 1) (av_cons ex_i av_nil))))) (fun H1 Q x q => ⟨_, rs, false, _, _, _, rfl, hR.ex (x7.trans x), hne, by omega, q⟩)) fun ru2 H8 x8 hR8 => ?_
      refine sb_next ?_
      refine ⟨x7.trans x8, bk2, ru2, _, (show Bk _ H7 bk2 from hB7).ex x8, ⟨_, hR8, chgR_ne hne, ?_, chgR_cov hC, fun z => chgR_str (hst z), ?_⟩, rfl⟩
      · have := chgR_length (f := chgF false 3) (lo := n / 2) (hi := n) hC
        omega
      · rw [chgR_row c1.2.1 hC, hrow]
        rfl
    rintro σ' H7 ⟨x7, bk, ru, row, hB, hR, rfl⟩

    exact sb_ret (R := NT [bk, ru, .int n]) (ex_tup (av_cons (ex_var 4) (av_cons (ex_var 5) (av_cons (ex_var 1) av_nil))) (by exact Nat.le_of_ble_eq_true rfl)) fun u H8 x8 ⟨t, e1, _, e2⟩ => q u H8 ((((x14.trans x5).trans x6).trans x7).trans x8) ⟨t, bk, ru, n, row, e1, e2, hB.ex x8, PM.m x8 hR, n0, n1⟩

theorem lay_all : ∀ {ds : List PyData}, (∀ d ∈ ds, d.canLay0 = true) → PyData.canLayAll0 ds = true
  | [], _ => rfl
  | d :: ds, h => by
    rw [PyData.canLayAll0, h d List.mem_cons_self, lay_all fun e he => h e (List.mem_cons_of_mem _ he)]
    rfl
theorem depth_all {m : Nat} : ∀ {ds : List PyData}, (∀ d ∈ ds, d.depth ≤ m) → PyData.depthAll ds ≤ m
  | [], _ => Nat.zero_le _
  | d :: ds, h => by
    rw [PyData.depthAll]
    have h1 := h d List.mem_cons_self
    have h2 := depth_all fun e he => h e (List.mem_cons_of_mem _ he)
    omega
theorem shaped_list {ds : List PyData} (h : ∀ d ∈ ds, d.canLay0 = true ∧ d.depth ≤ 9) : SeqAt.shaped (.list ds) = true := by
  unfold SeqAt.shaped
  rw [Bool.and_eq_true]
  refine ⟨lay_all fun d hd => (h d hd).1, decide_eq_true ?_⟩
  rw [PyData.depth]
  have := depth_all (m := 9) fun d hd => (h d hd).2
  omega
/-- an answer as data, its list with a number more -/
def outD (z : Int) : Out → PyData
  | .num none => .none
  | .num (some k) => .int k
  | .bad b => .str (badS b)
  | .row xs => .list ((xs ++ [z]).map PyData.int)
theorem outD_ok (z : Int) (o : Out) : (outD z o).canLay0 = true ∧ (outD z o).depth ≤ 9 := by
  cases o with
  | num o =>
    cases o with
    | none => exact ⟨rfl, by rw [outD, PyData.depth] <;> decide⟩
    | some k => exact ⟨rfl, by rw [outD, PyData.depth] <;> decide⟩
  | bad b => exact ⟨by rw [outD, PyData.canLay0]; cases b <;> decide +kernel, by rw [outD, PyData.depth] <;> decide⟩
  | row xs =>
    refine ⟨lay_ints _, ?_⟩
    rw [outD, PyData.depth]
    have := depth_ints (xs ++ [z])
    omega
def deedD : Deed → PyData
  | .change fl lo hi v => .tuple [.str (wordF fl), .int lo, .int hi, .int v]
  | .total lo hi => .tuple [.str "total", .int lo, .int hi]
  | .least lo hi => .tuple [.str "least", .int lo, .int hi]
  | .place lo hi => .tuple [.str "place", .int lo, .int hi]
  | .first lo bd => .tuple [.str "first", .int lo, .int bd]
  | .list lo hi => .tuple [.str "list", .int lo, .int hi]
  | .back => .tuple [.str "back"]
theorem deedD_ok (d : Deed) : (deedD d).canLay0 = true ∧ (deedD d).depth ≤ 9 := by
  cases d with
  | change fl lo hi v => cases fl <;> exact ⟨by simp only [deedD, PyData.canLay0, PyData.canLayAll0, Bool.and_true] <;> decide +kernel, by simp [deedD, PyData.depth, PyData.depthAll]⟩
  | _ => exact ⟨by simp only [deedD, PyData.canLay0, PyData.canLayAll0, Bool.and_true] <;> decide +kernel, by simp [deedD, PyData.depth, PyData.depthAll]⟩
theorem deedD_dp {K : PySem.W.Frag} {H : Hp} {t : Addr} {d : Deed} (h : H t = some (.tup (deedV d))) : Dp K H (.ref t) (deedD d) := by
  cases d with
  | change fl lo hi v => exact .tup (SqT.of h) (.cons (.str _) (.cons (.int _) (.cons (.int _) (.cons (.int _) .nil))))
  | back => exact .tup (SqT.of h) (.cons (.str _) .nil)
  | _ => exact .tup (SqT.of h) (.cons (.str _) (.cons (.int _) (.cons (.int _) .nil)))
theorem DeedsV.dp {K : PySem.W.Frag} {H : Hp} {l : Addr} {ds : List V} {dds : List Deed} (h : DeedsV H ds dds) (hl : H l = some (.lst ds)) : Dp K H (.ref l) (.list (dds.map deedD)) := by
  refine .lst (SqL.of hl) (dpAll_at (by rw [h.len, List.length_map]) fun i d hd => ?_)
  rw [List.getElem?_map] at hd
  cases hdd : dds[i]? with
  | none => rw [hdd] at hd; cases hd
  | some dd =>
    rw [hdd] at hd
    cases hd
    obtain ⟨t, h1, h2⟩ := h.at_ i dd hdd
    exact ⟨_, h1, deedD_dp h2⟩
theorem deeds_shaped (dds : List Deed) : SeqAt.shaped (.list (dds.map deedD)) = true := shaped_list fun d hd => by
  obtain ⟨dd, _, rfl⟩ := List.mem_map.mp hd
  exact deedD_ok dd
/-- the places that are told of -/
def refsOf (vs : List V) : List Addr := vs.filterMap fun v => match v with
  | .ref a => some a
  | _ => none
theorem mem_refsOf {vs : List V} {a : Addr} : a ∈ refsOf vs ↔ V.ref a ∈ vs := by
  unfold refsOf
  rw [List.mem_filterMap]
  constructor
  · rintro ⟨v, h1, h2⟩
    cases v <;> simp at h2
    subst h2
    exact h1
  · intro h
    exact ⟨_, h, rfl⟩
-- SPLIT
/-- at most m deeds noted -/
def SD (Hc : Hp) (D U A : Addr) (n : Int) (row0 : List Int) (m : Nat) : Hp → Prop := fun H => ∃ dds, S14 Hc D U A n row0 dds H ∧ dds.length ≤ m
theorem SD.up {Hc H H' : Hp} {D U A : Addr} {n : Int} {row0 : List Int} {m : Nat} (s : SD Hc D U A n row0 m H) (x : Ex H H') : SD Hc D U A n row0 m H' := by
  obtain ⟨dds, s, h⟩ := s
  exact ⟨dds, s.up x, h⟩
theorem SD.more {Hc H : Hp} {D U A : Addr} {n : Int} {row0 : List Int} {m m' : Nat} (s : SD Hc D U A n row0 m H) (x : m ≤ m') : SD Hc D U A n row0 m' H := by
  obtain ⟨dds, s, h⟩ := s
  exact ⟨dds, s, by omega⟩
theorem SD.note {Hc H H1 : Hp} {D U A t : Addr} {n : Int} {row0 : List Int} {m : Nat} {dd : Deed} {Q : VK} {E : XK} (s : SD Hc D U A n row0 m H) (g : (D ≠ U ∧ D ≠ A ∧ U ≠ A) ∧ 0 ≤ n ∧ n ≤ 1000000000000) (hm : m ≤ 400) (x : Ex H H1) (ht : H1 t = some (.tup (deedV dd))) (q : GivesM (fun _ H2 => SD Hc D U A n row0 (m + 1) H2) Q) :
    spNoted [.ref t, .ref D, .ref U, .ref A, .int n] H1 Q E := by
  obtain ⟨dds, s, h⟩ := s
  exact ⟨t, D, U, A, n, row0, dds, dd, Hc, rfl, ht, g.1.1, g.1.2.1, g.1.2.2, g.2.1, g.2.2, by omega, s.up x, fun v H2 s2 => q v H2 ⟨_, s2, by rw [List.length_append, List.length_singleton]; omega⟩⟩
/-- the answers ahead of k are held as data, those from k on are as they came -/
def KSt (K : PySem.W.Frag) (Hc : Hp) (h F : Addr) (ws : List V) (os : List Out) (z : Int) (k N : Nat) : Hp → Prop := fun H => ∃ ps, Ex Hc (dels H (h :: F :: refsOf (ws.drop k))) ∧ H h = some (.lst ps) ∧ HeldG K (dels H (h :: F :: refsOf (ws.drop k))) ps ∧ ps.length ≤ N ∧ H F = some (.lst ws) ∧
  (∀ (j : Nat) o, k ≤ j → os[j]? = some o → ∃ u, ws[j]? = some u ∧ AtA (ansT o) H u) ∧ (∀ (j : Nat) o, j < k → os[j]? = some o → ∃ u, ws[j]? = some u ∧ Dp K (dels H (h :: F :: refsOf (ws.drop k))) u (outD z o))
/-- what never changes of it -/
structure KFix (h F : Addr) (ws : List V) (os : List Out) : Prop where
  ne : F ≠ h
  len : ws.length = os.length
  new : ∀ q, V.ref q ∈ ws → q ≠ h ∧ q ≠ F
  dis : ∀ (i j : Nat) q, ws[i]? = some (.ref q) → ws[j]? = some (.ref q) → i = j
theorem drop_sub {ws : List V} {h F : Addr} (k : Nat) : ∀ a ∈ h :: F :: refsOf (ws.drop (k + 1)), a ∈ h :: F :: refsOf (ws.drop k) := fun a ha => by
  rcases List.mem_cons.mp ha with e | ha
  · rw [e]; exact List.mem_cons_self
  rcases List.mem_cons.mp ha with e | ha
  · rw [e]; exact List.mem_cons_of_mem _ List.mem_cons_self
  refine List.mem_cons_of_mem _ (List.mem_cons_of_mem _ (mem_refsOf.mpr ?_))
  have := mem_refsOf.mp ha
  rw [← List.drop_drop] at this
  exact List.mem_of_mem_drop this
theorem mem_drop {ws : List V} {k : Nat} {v : V} (h : v ∈ ws.drop k) : ∃ j, k ≤ j ∧ ws[j]? = some v := by
  obtain ⟨i, hi⟩ := List.mem_iff_getElem?.mp h
  rw [List.getElem?_drop] at hi
  exact ⟨k + i, by omega, hi⟩
theorem KSt.start {K : PySem.W.Frag} {Hc H H2 : Hp} {h F : Addr} {ws ps : List V} {os : List Out} {z : Int} {N : Nat} (xc : Ex Hc (dels H [h])) (hh : H h = some (.lst ps)) (hg : HeldG K (dels H [h]) ps) (hN : ps.length ≤ N) (hF : H F = none) (x : Ex H H2) (hF2 : H2 F = some (.lst ws)) (hO : OutsV H2 ws os) (hW : NewV H F ws) :
    KFix h F ws os ∧ KSt K Hc h F ws os z 0 N H2 := by
  have y : Ex (dels H [h]) (dels H2 (h :: F :: refsOf ws)) := dels_of (dels_ex.trans x) fun a ha => by
    rcases List.mem_cons.mp ha with e | ha
    · rw [e]; exact dels_in (by simp)
    rcases List.mem_cons.mp ha with e | ha
    · rw [e]; exact dels_ex.fresh hF
    · exact dels_ex.fresh (hW.new a (mem_refsOf.mp ha)).1
  refine ⟨⟨fun e => (by rw [e, hh] at hF; cases hF), hO.len, fun q hq => ⟨fun e => ?_, (hW.new q hq).2⟩, hW.dis⟩, ps, xc.trans y, x _ _ hh, hg.ex y, hN, hF2, fun j o _ ho => hO.at_ j o ho, fun j o hj => by omega⟩
  have := (hW.new q hq).1
  rw [e, hh] at this
  cases this
theorem KSt.skip {K : PySem.W.Frag} {Hc H : Hp} {h F : Addr} {ws : List V} {os : List Out} {z : Int} {k N : Nat} {o : Out} {u : V} (s : KSt K Hc h F ws os z k N H) (hk : os[k]? = some o) (hu : ws[k]? = some u) (hd : ∀ G, Dp K G u (outD z o)) : KSt K Hc h F ws os z (k + 1) (N + 1) H := by
  obtain ⟨ps, e1, e2, e3, e4, e5, e6, e7⟩ := s
  have c1 : Ex (dels H (h :: F :: refsOf (ws.drop k))) (dels H (h :: F :: refsOf (ws.drop (k + 1)))) := dels_sub (drop_sub k)
  refine ⟨ps, e1.trans c1, e2, e3.ex c1, by omega, e5, fun j o' hj ho => e6 j o' (by omega) ho, fun j o' hj ho => ?_⟩
  by_cases c : j < k
  · obtain ⟨w, a1, a2⟩ := e7 j o' c ho
    exact ⟨w, a1, Dp.up c1 _ _ a2⟩
  · have e : j = k := by omega
    subst e
    rw [hk] at ho
    cases ho
    exact ⟨u, hu, hd _⟩
theorem KSt.row {K : PySem.W.Frag} {Hc H H2 : Hp} {h F p : Addr} {ws ps : List V} {os : List Out} {z : Int} {k N : Nat} {xs : List Int} {v : V} (f : KFix h F ws os) (e1 : Ex Hc (dels H (h :: F :: refsOf (ws.drop k)))) (e2 : H h = some (.lst ps)) (e3 : HeldG K (dels H (h :: F :: refsOf (ws.drop k))) ps) (e4 : ps.length ≤ N) (e5 : H F = some (.lst ws))
    (e6 : ∀ (j : Nat) o, k ≤ j → os[j]? = some o → ∃ u, ws[j]? = some u ∧ AtA (ansT o) H u) (e7 : ∀ (j : Nat) o, j < k → os[j]? = some o → ∃ u, ws[j]? = some u ∧ Dp K (dels H (h :: F :: refsOf (ws.drop k))) u (outD z o))
    (hk : os[k]? = some (.row xs)) (hu : ws[k]? = some (.ref p)) (hp : H p = some (.lst (xs.map V.int))) (x : Ex (upd H p (.lst ((xs ++ [z]).map V.int))) H2) (r : NTx [Is (.ref p), NL ((xs ++ [z]).map V.int)] (upd H p (.lst ((xs ++ [z]).map V.int))) v H2) : KSt K Hc h F ws os z (k + 1) (N + 1) (upd H2 h (.lst (ps ++ [v]))) := by
  obtain ⟨nhp, nFp⟩ := f.new p (List.mem_of_getElem? hu)
  have hpS : p ∈ h :: F :: refsOf (ws.drop k) := List.mem_cons_of_mem _ (List.mem_cons_of_mem _ (mem_refsOf.mpr (List.mem_iff_getElem?.mpr ⟨0, by rw [List.getElem?_drop]; exact hu⟩)))
  have hin : ∀ a ∈ h :: F :: refsOf (ws.drop (k + 1)), a ≠ p ∧ ∃ o, H a = some o := fun a ha => by
    rcases List.mem_cons.mp ha with e | ha
    · rw [e]; exact ⟨Ne.symm nhp, _, e2⟩
    rcases List.mem_cons.mp ha with e | ha
    · rw [e]; exact ⟨Ne.symm nFp, _, e5⟩
    obtain ⟨j, hj, hja⟩ := mem_drop (mem_refsOf.mp ha)
    have hlt := (List.getElem?_eq_some_iff.mp hja).1
    obtain ⟨w, h1, h2⟩ := e6 j _ (by omega) (List.getElem?_eq_getElem (by rw [← f.len]; exact hlt))
    rw [hja] at h1
    cases h1
    obtain ⟨_, _, h3, _⟩ := ansT_ref h2
    refine ⟨fun e => ?_, _, h3⟩
    rw [e] at hja
    have := f.dis j k p hja hu
    omega
  have hpS' : p ∉ h :: F :: refsOf (ws.drop (k + 1)) := fun hm => (hin p hm).1 rfl
  have fresh : ∀ b, (upd H p (.lst ((xs ++ [z]).map V.int))) b = none → b ∉ h :: F :: refsOf (ws.drop (k + 1)) := fun b hb hm => by
    obtain ⟨n1, o, h1⟩ := hin b hm
    rw [upd_ne n1, h1] at hb
    cases hb
  obtain ⟨q, vs, rfl, nq, hq, u0, _, rfl, e0, u2, _, rfl, ⟨y, rfl, ny, hy⟩, rfl⟩ := r
  cases e0
  have c1 : Ex (dels H (h :: F :: refsOf (ws.drop k))) (dels H2 (h :: F :: refsOf (ws.drop (k + 1)))) := by
    rw [← dels_upd (H := H) (o := .lst ((xs ++ [z]).map V.int)) hpS]
    exact (dels_sub (drop_sub k)).trans (dels_mono x)
  have dS : dels (upd H2 h (.lst (ps ++ [.ref q]))) (h :: F :: refsOf (ws.drop (k + 1))) = dels H2 (h :: F :: refsOf (ws.drop (k + 1))) := dels_upd List.mem_cons_self
  have hpv : (dels H2 (h :: F :: refsOf (ws.drop (k + 1)))) p = some (.lst ((xs ++ [z]).map V.int)) := by rw [dels_ne hpS']; exact x _ _ upd_same
  refine ⟨ps ++ [.ref q], by rw [dS]; exact e1.trans c1, upd_same, ?_, by rw [List.length_append, List.length_singleton]; omega, ?_, fun j o hj ho => ?_, fun j o hj ho => ?_⟩
  · rw [dS]
    intro w hw
    rcases List.mem_append.mp hw with hw | hw
    · exact e3.ex c1 w hw
    · exact ⟨q, p, y, .list ((xs ++ [z]).map PyData.int), List.mem_singleton.mp hw, by rw [dels_ne (fresh q nq)]; exact hq, shaped_ints _, dp_list (SqL.of hpv), dp_list (SqL.of (by rw [dels_ne (fresh y ny)]; exact hy))⟩
  · rw [upd_ne f.ne]
    refine x _ _ ?_
    rw [upd_ne (Ne.symm nFp)]
    exact e5
  · obtain ⟨w, h1, h2⟩ := e6 j o (by omega) ho
    refine ⟨w, h1, h2.keep fun b zs e hb => ?_⟩
    rw [e] at h1
    rw [upd_ne (f.new b (List.mem_of_getElem? h1)).1]
    refine x _ _ ?_
    rw [upd_ne (fun e3 => by
      rw [e3] at h1
      have := f.dis j k p h1 hu
      omega)]
    exact hb
  · rw [dS]
    by_cases c : j < k
    · obtain ⟨w, a1, a2⟩ := e7 j o c ho
      exact ⟨w, a1, Dp.up c1 _ _ a2⟩
    · have e : j = k := by omega
      subst e
      rw [hk] at ho
      cases ho
      exact ⟨_, hu, dp_list (SqL.of hpv)⟩
theorem KSt.fin {K : PySem.W.Frag} {Hc H H2 : Hp} {h F : Addr} {ws ps : List V} {os : List Out} {z : Int} {k : Nat} {v : V} (f : KFix h F ws os) (hk : k = ws.length) (e1 : Ex Hc (dels H (h :: F :: refsOf (ws.drop k)))) (e2 : H h = some (.lst ps)) (e3 : HeldG K (dels H (h :: F :: refsOf (ws.drop k))) ps)
    (e7 : ∀ (j : Nat) o, j < k → os[j]? = some o → ∃ u, ws[j]? = some u ∧ Dp K (dels H (h :: F :: refsOf (ws.drop k))) u (outD z o))
    (x : Ex (upd H F (.lst (ws ++ [.int z]))) H2) (r : NTx [Is (.ref F), NL (ws ++ [.int z])] (upd H F (.lst (ws ++ [.int z]))) v H2) : Ex Hc (dels (upd H2 h (.lst (ps ++ [v]))) [h]) ∧ HeldG K (dels (upd H2 h (.lst (ps ++ [v]))) [h]) (ps ++ [v]) := by
  subst hk
  rw [List.drop_length] at e1 e3 e7
  obtain ⟨q, vs, rfl, nq, hq, u0, _, rfl, e0, u2, _, rfl, ⟨y, rfl, ny, hy⟩, rfl⟩ := r
  cases e0
  have hFS : F ∈ h :: F :: refsOf [] := List.mem_cons_of_mem _ List.mem_cons_self
  have c1 : Ex (dels H (h :: F :: refsOf [])) (dels H2 [h]) := by
    rw [← dels_upd (H := H) (o := .lst (ws ++ [.int z])) hFS]
    exact (dels_sub (fun a ha => by rw [List.mem_singleton.mp ha]; exact List.mem_cons_self)).trans (dels_mono x)
  have dS : dels (upd H2 h (.lst (ps ++ [.ref q]))) [h] = dels H2 [h] := dels_upd List.mem_cons_self
  have fresh : ∀ b, (upd H F (.lst (ws ++ [.int z]))) b = none → b ∉ [h] := fun b hb hm => by
    rw [List.mem_singleton.mp hm, upd_ne (Ne.symm f.ne), e2] at hb
    cases hb
  rw [dS]
  refine ⟨e1.trans c1, fun w hw => ?_⟩
  rcases List.mem_append.mp hw with hw | hw
  · exact e3.ex c1 w hw
  · have ha : DpAll K (dels H2 [h]) (ws ++ [.int z]) (os.map (outD z) ++ [.int z]) := by
      refine dpAll_at (by rw [List.length_append, List.length_append, List.length_map, f.len]; rfl) fun i d hd => ?_
      by_cases c : i < os.length
      · rw [List.getElem?_append_left (by rw [List.length_map]; exact c), List.getElem?_map, List.getElem?_eq_getElem c] at hd
        cases hd
        obtain ⟨u, a1, a2⟩ := e7 i _ (by rw [f.len]; exact c) (List.getElem?_eq_getElem c)
        exact ⟨u, by rw [List.getElem?_append_left (by rw [f.len]; exact c)]; exact a1, Dp.up c1 _ _ a2⟩
      · have e : i = os.length := by
          have := (List.getElem?_eq_some_iff.mp hd).1
          rw [List.length_append, List.length_map, List.length_singleton] at this
          omega
        subst e
        rw [show os.length = (os.map (outD z)).length by rw [List.length_map], List.getElem?_concat_length] at hd
        cases hd
        exact ⟨.int z, by rw [← f.len, List.getElem?_concat_length], .int z⟩
    refine ⟨q, F, y, .list (os.map (outD z) ++ [.int z]), List.mem_singleton.mp hw, by rw [dels_ne (fresh q nq)]; exact hq, shaped_list fun d hd => ?_, .lst (SqL.of ?_) ha, .lst (SqL.of ?_) ha⟩
    · rcases List.mem_append.mp hd with hd | hd
      · obtain ⟨o, _, rfl⟩ := List.mem_map.mp hd
        exact outD_ok z o
      · rw [List.mem_singleton.mp hd]
        exact ⟨rfl, by rw [PyData.depth] <;> decide⟩
    · rw [dels_ne (fun hm => f.ne (List.mem_singleton.mp hm))]
      exact x _ _ upd_same
    · rw [dels_ne (fresh y ny)]
      exact hy
theorem runBy_b (ns : List Int) (k : Int) : 0 ≤ runBy ns k ∧ runBy ns k ≤ 89 := by
  unfold runBy
  split <;> omega
-- SPLIT

abbrev s_law : Stmt := topS 56
theorem sc_law : FnScope ["_law_script", "_law_start_here", "_law_book", "_law_runs", "_law_many", "_law_ahead", "_law_deeds", "_law_due_here", "_law_k", "_law_handed", "_law_held", "_law_turn", "_law_found", "_law_pair"] ["_law_script"] (defScope s_law) := ⟨rfl, rfl, rfl, by decide +kernel, rfl, by decide +kernel, by decide +kernel⟩
theorem ok_law {CO : Addr} (B : Bt mg) (F : Df K mg "law" s_law ["_law_script"]) (G_length : Dn P w K mg base "length" 1 ["book"] spLength) (G_total : Dn P w K mg base "total" 42 ["book", "low", "high"] (spTotal CO)) (G_answers : Dn P w K mg base "answers" 47 ["book", "deeds"] spAnswers)
    (G__law_start : Dn P w K mg base "_law_start" 45 ["_law_script"] (spStart K)) (G__law_run : Dn P w K mg base "_law_run" 2 ["_law_script", "_law_k"] (spRun K)) (G__law_noted : Dn P w K mg base "_law_noted" 4 ["_law_deed", "_law_deeds", "_law_due_here", "_law_ahead", "_law_many"] spNoted)
    (G__law_deed_by : Dn P w K mg base "_law_deed_by" 2 ["_law_one", "_law_two", "_law_runs", "_law_many"] spDeedBy) (G__law_alike : Dn P w K mg base "_law_alike" 2 ["_law_found", "_law_due_here"] spAlike) (G__law_due : Dn P w K mg base "_law_due" 2 ["_law_runs", "_law_word", "_law_low", "_law_high"] spDue) :
    Dn P w K mg base "law" 60 ["_law_script"] (spLaw K) :=
  def_ok F sc_law (fun vs H Q E ⟨_, _, e, _⟩ => by rw [e] <;> rfl) fun f cdv A0 outer s H vs Q E hr h => by
    obtain ⟨a, ns, rfl, hS, hlen, q⟩ := h
    have hsl : ((ns.map V.int).length : Int) = (ns.length : Int) := by rw [List.length_map]
    refine sb_asg (R := Of StartP) 1 sc_law.nd (ex_call G__law_start hr (av_cons (ex_var 0) av_nil) (fun H1 Q x q => ⟨a, ns, rfl, x.l hS, q⟩)) fun u H1 x1 hu => ?_
    obtain ⟨t0, bk, ru, n, row, rfl, ht0, hB, hR, n0, n1⟩ := hu

    refine sb_set 2 sc_law.nd (ex_ixT (ex_var 1) ex_i (SqT.of ht0) rfl) ?_
    refine sb_set 3 sc_law.nd (ex_ixT (ex_var 1) ex_i (SqT.of ht0) rfl) ?_
    refine sb_set 4 sc_law.nd (ex_ixT (ex_var 1) ex_i (SqT.of ht0) rfl) ?_
    refine sb_new 5 sc_law.nd (ex_lst (av_cons (ex_var 3) av_nil) (by exact Nat.le_of_ble_eq_true rfl)) fun A hA => ?_
    refine sb_new 6 sc_law.nd (ex_lst av_nil (by exact Nat.le_of_ble_eq_true rfl)) fun D hD => ?_
    refine sb_new 7 sc_law.nd (ex_lst av_nil (by exact Nat.le_of_ble_eq_true rfl)) fun U hU => ?_
    have xA : Ex H1 (upd H1 A (.lst [ru])) := Ex.new hA
    have xD := xA.trans (Ex.new (o := .lst []) hD)
    have xU := xD.trans (Ex.new (o := .lst []) hU)
    have nDA : D ≠ A := fun e => by rw [e, upd_same] at hD; cases hD
    have nUD : U ≠ D := fun e => by rw [e, upd_same] at hU; cases hU
    have nUA : U ≠ A := fun e => by rw [e, upd_ne (Ne.symm nDA), upd_same] at hU; cases hU
    have gg : (D ≠ U ∧ D ≠ A ∧ U ≠ A) ∧ 0 ≤ n ∧ n ≤ 1000000000000 := ⟨⟨Ne.symm nUD, nDA, nUA⟩, n0, n1⟩
    have s0 : SD H1 D U A n row 0 (upd (upd (upd H1 A (.lst [ru])) D (.lst [])) U (.lst [])) := by
      have y : Ex H1 (dels (upd (upd (upd H1 A (.lst [ru])) D (.lst [])) U (.lst [])) [D, U, A]) := dels_of xU fun b hb => by
        rcases List.mem_cons.mp hb with e | hb
        · rw [e]; exact xA.fresh hD
        rcases List.mem_cons.mp hb with e | hb
        · rw [e]; exact xD.fresh hU
        · rw [List.mem_singleton.mp hb]; exact hA
      refine ⟨[], ⟨[], [], [ru], y, ?_, upd_same, ?_, DeedsV.nil, OutsV.nil, rfl, fun j r hj => ?_⟩, Nat.le_refl _⟩
      · rw [upd_ne (Ne.symm nUD)]
        exact upd_same
      · rw [upd_ne (Ne.symm nUA), upd_ne (Ne.symm nDA)]
        exact upd_same
      · cases j with
        | zero => cases hj; exact ⟨ru, rfl, PM.m y hR⟩
        | succ j => cases hj
    have kn : ∀ {m : Nat} {G : Hp}, SD H1 D U A n row m G → Ex H1 G := fun ⟨dds, ⟨_, _, _, y, _⟩, _⟩ => y.trans dels_ex
    generalize upd (upd (upd H1 A (.lst [ru])) D (.lst [])) U (.lst []) = H2 at s0 ⊢
    clear xA xD xU hA hD hU
    have hS2 := (x1.trans (kn s0)).l hS
    have rb := runBy_b ns
    -- adds ahead

    refine sb_forR1 8 (passes_of rfl) sc_law.nd B.range (av_cons (ex_call G__law_run hr (av_cons (ex_var 0) (av_cons ex_i av_nil)) (fun H1 Q x q => ⟨a, ns, _, rfl, x.l hS2, by omega, q⟩)) av_nil) ⟨by have := rb 1; omega, by have := rb 1; omega⟩ (fun i σ' G => (SD H1 D U A n row i G ∧ i ≤ 89) ∧ ∃ v8 : Option V, σ' = [some (.ref a), some (.ref t0), some bk, some ru, some (.int n), some (.ref A), some (.ref D), some (.ref U), v8, none, none, none, none, none]) ⟨⟨s0, by omega⟩, none, rfl⟩ (fun i σ' G hi W => ?_) (fun σ' G W => ?_)
    · obtain ⟨⟨s1, _⟩, v8, rfl⟩ := W
      have := rb 1
      refine sb_exprM (R := fun _ H2 => SD H1 D U A n row (i + 1) H2) (ex_callMx G__law_noted hr (ax_cons (ex_tup (av_cons ex_s (av_cons (ex_mulR (ex_fdiv (ex_var 4) ex_i ⟨by decide, by decide⟩) (ex_mod (ex_var 8) ex_i (by decide +kernel)) ⟨by omega, by omega⟩) (av_cons (ex_var 4) (av_cons (ex_add (ex_var 8) ex_i) av_nil)))) (by exact Nat.le_of_ble_eq_true rfl)) (ax_cons (ex_var 6) (ax_cons (ex_var 7) (ax_cons (ex_var 5) (ax_cons (ex_var 4) ax_nil))))) (fun vs G1 G2 Q x0 x1 hv q => by
        obtain ⟨_, _, rfl, ⟨t, rfl, _, ht⟩, _, _, rfl, e1, _, _, rfl, e2, _, _, rfl, e3, _, _, rfl, e4, rfl⟩ := hv
        cases e1
        cases e2
        cases e3
        cases e4
        exact s1.note (dd := .change false _ _ _) gg (by omega) (x0.trans x1) ht q)) (fun _ H3 s3 => ?_)
      exact sb_next (by exact ⟨⟨s3, by omega⟩, _, rfl⟩)
    obtain ⟨⟨s1, _⟩, v8, rfl⟩ := W
    have s1 := s1.more (m' := 89) (by have := rb 1; omega)
    have hS3 := (x1.trans (kn s1)).l hS
    -- deeds of the script

    refine sb_forR3 8 (passes_of rfl) sc_law.nd B.range (lo := 3) (st := 2) (av_cons ex_i (av_cons (ex_sub (ex_min B.min (av_cons (ex_len B.len (av_cons (ex_var 0) av_nil) (hS3)) (av_cons ex_i av_nil))) ex_i) (av_cons ex_i av_nil))) ⟨by omega, by rw [minI]; omega, by omega⟩ (fun i σ' G => (SD H1 D U A n row (89 + i) G ∧ i ≤ 40) ∧ ∃ v8 : Option V, σ' = [some (.ref a), some (.ref t0), some bk, some ru, some (.int n), some (.ref A), some (.ref D), some (.ref U), v8, none, none, none, none, none]) ⟨⟨s1, by omega⟩, v8, rfl⟩ (fun i σ' G hi W => ?_) (fun i σ' G W => ?_)
    · obtain ⟨⟨s2, i40⟩, v8, rfl⟩ := W
      rw [minI, hsl] at hi
      obtain ⟨y1, hy1⟩ := row_at (row := ns) (k := 3 + (i : Int) * 2) (by omega)
      obtain ⟨y2, hy2⟩ := row_at (row := ns) (k := 3 + (i : Int) * 2 + 1) (by omega)
      have hS4 := (x1.trans (kn s2)).l hS
      obtain ⟨dds, ⟨ds, us, as, yc, hD, hU, hA, vD, vU, vA⟩, hdl⟩ := id s2
      have hne : after [row] dds ≠ [] := after_ne _ (by simp)
      obtain ⟨u, hu1, _, hu2⟩ := vA.top hne
      obtain ⟨rs, hRs, hrne, _⟩ : RunRow n (70 + 2 * dds.length) ((after [row] dds).getLastD []) G u := PM.m dels_ex hu2

      refine sb_exprM (R := fun _ H2 => SD H1 D U A n row (89 + i + 1) H2) (ex_callMx G__law_noted hr (ax_cons (R := Of DeedP) (ex_call G__law_deed_by hr (av_cons (ex_ixL (ex_var 0) (ex_var 8) (hS4) (at_row (by omega) hy1)) (av_cons (ex_ixL (ex_var 0) (ex_add (ex_var 8) ex_i) (hS4) (at_row (by omega) hy2)) (av_cons (ex_ixL (ex_var 5) (ex_neg ex_i) (SqL.of hA) hu1) (av_cons (ex_var 4) av_nil)))) (fun G1 Q x q => ⟨u, rs, _, _, n, rfl, hRs.ex x, hrne, n0, q⟩)) (ax_cons (ex_var 6) (ax_cons (ex_var 7) (ax_cons (ex_var 5) (ax_cons (ex_var 4) ax_nil))))) (fun vs G1 G2 Q x0 x1 hv q => by
        obtain ⟨_, _, rfl, ⟨t, dd, rfl, ht⟩, _, _, rfl, e1, _, _, rfl, e2, _, _, rfl, e3, _, _, rfl, e4, rfl⟩ := hv
        cases e1
        cases e2
        cases e3
        cases e4
        exact s2.note (dd := dd) gg (by omega) (x0.trans x1) ht q)) (fun _ H3 s3 => ?_)
      exact sb_next (by exact ⟨⟨s3, by omega⟩, _, rfl⟩)
    obtain ⟨⟨s2, i40⟩, v8, rfl⟩ := W
    have s2 := s2.more (m' := 130) (by omega)
    have hS4 := (x1.trans (kn s2)).l hS
    -- backs behind

    refine sb_forR1 8 (passes_of rfl) sc_law.nd B.range (av_cons (ex_call G__law_run hr (av_cons (ex_var 0) (av_cons ex_i av_nil)) (fun H1 Q x q => ⟨a, ns, _, rfl, x.l hS4, by omega, q⟩)) av_nil) ⟨by have := rb 2; omega, by have := rb 2; omega⟩ (fun i σ' G => (SD H1 D U A n row (130 + 2 * i) G ∧ i ≤ 89) ∧ ∃ v8 : Option V, σ' = [some (.ref a), some (.ref t0), some bk, some ru, some (.int n), some (.ref A), some (.ref D), some (.ref U), v8, none, none, none, none, none]) ⟨⟨s2, by omega⟩, v8, rfl⟩ (fun i σ' G hi W => ?_) (fun σ' G W => ?_)
    · obtain ⟨⟨s3, _⟩, v8, rfl⟩ := W
      have := rb 2
      refine sb_exprM (R := fun _ H2 => SD H1 D U A n row (130 + 2 * i + 1) H2) (ex_callMx G__law_noted hr (ax_cons (ex_tup (av_cons ex_s av_nil) (by exact Nat.le_of_ble_eq_true rfl)) (ax_cons (ex_var 6) (ax_cons (ex_var 7) (ax_cons (ex_var 5) (ax_cons (ex_var 4) ax_nil))))) (fun vs G1 G2 Q x0 x1 hv q => by
        obtain ⟨_, _, rfl, ⟨t, rfl, _, ht⟩, _, _, rfl, e1, _, _, rfl, e2, _, _, rfl, e3, _, _, rfl, e4, rfl⟩ := hv
        cases e1
        cases e2
        cases e3
        cases e4
        exact s3.note (dd := .back) gg (by omega) (x0.trans x1) ht q)) (fun _ G3 s4 => ?_)
      refine sb_exprM (R := fun _ H2 => SD H1 D U A n row (130 + 2 * i + 1 + 1) H2) (ex_callMx G__law_noted hr (ax_cons (ex_tup (av_cons ex_s (av_cons ex_i (av_cons (ex_var 4) av_nil))) (by exact Nat.le_of_ble_eq_true rfl)) (ax_cons (ex_var 6) (ax_cons (ex_var 7) (ax_cons (ex_var 5) (ax_cons (ex_var 4) ax_nil))))) (fun vs G1 G2 Q x0 x1 hv q => by
        obtain ⟨_, _, rfl, ⟨t, rfl, _, ht⟩, _, _, rfl, e1, _, _, rfl, e2, _, _, rfl, e3, _, _, rfl, e4, rfl⟩ := hv
        cases e1
        cases e2
        cases e3
        cases e4
        exact s4.note (dd := .total _ _) gg (by omega) (x0.trans x1) ht q)) (fun _ G4 s5 => ?_)
      exact sb_next (by exact ⟨⟨s5, by omega⟩, _, rfl⟩)
    obtain ⟨⟨s3, _⟩, v8, rfl⟩ := W
    obtain ⟨dds, ⟨ds, us, as, yc, hD, hU, hA, vD, vU, vA⟩, hdl⟩ := s3
    have hdl : dds.length ≤ 310 := by have := rb 2; omega
    have x1G : Ex H (dels G [D, U, A]) := x1.trans yc
    have hBG : Bk row G bk := hB.ex (yc.trans dels_ex)
    have hRG : RunRow n 70 row G ru := PM.m (yc.trans dels_ex) hR
    have vDG : DeedsV G ds dds := vD.tx dels_ex.tx
    have vUG : OutsV G us (outs [row] dds) := vU.ex dels_ex
    have q := q.up (x1G.trans dels_ex)
    clear vD vU vA hA yc x1G hB hR kn s0 s1 s2 hS2 hS3 hS4 rb
    have hul := vUG.len
    generalize hos : outs [row] dds = os at vUG hul ⊢
    have hol : os.length ≤ 310 := by rw [← hos, outs_length]; exact hdl

    refine sb_new 9 sc_law.nd (ex_list B.list (av_cons (ex_var 6) av_nil) (SqL.of hD)) fun Hd hHd => ?_
    have z1 : Ex G (upd G Hd (.lst ds)) := Ex.new hHd
    have hHd1 : (upd G Hd (.lst ds)) Hd = some (.lst ds) := upd_same
    have hD := z1 _ _ hD
    have hU := z1 _ _ hU
    have hBG := hBG.ex z1
    have hRG : RunRow n 70 row _ ru := PM.m z1 hRG
    have vDG := vDG.tx z1.tx
    have vUG := vUG.ex z1
    have q := q.up z1
    generalize upd G Hd (.lst ds) = G1 at hHd1 hD hU hBG hRG vDG vUG q ⊢
    refine sb_new 10 sc_law.nd (ex_lst av_nil (by exact Nat.le_of_ble_eq_true rfl)) fun hh hhh => ?_
    have z2 : Ex G1 (upd G1 hh (.lst [])) := Ex.new hhh
    refine sb_forN 11 (passes_of rfl) sc_law.nd (xs := [.int 0, .int 1]) (ex_lst (av_cons ex_i (av_cons ex_i av_nil)) (by exact Nat.le_of_ble_eq_true rfl)) (fun l i σ' G2 => ∃ (ps : List V) (v8 v11 v12 : Option V), Ex (upd G1 l (.lst [.int 0, .int 1])) (dels G2 [hh]) ∧ G1 l = none ∧ G2 hh = some (.lst ps) ∧ HeldG K (dels G2 [hh]) ps ∧ (ps.length ≤ 1000 * i ∧ i ≤ 2) ∧ σ' = [some (.ref a), some (.ref t0), some bk, some ru, some (.int n), some (.ref A), some (.ref D), some (.ref U), v8, some (.ref Hd), some (.ref hh), v11, v12, none])
      (fun l hl => ?_) (fun l i σ' G2 hi W => ?_) (fun l i x σ' G2 hx W => ?_) (fun l σ' G2 W => ?_)
    · have lh : l ≠ hh := fun e => by rw [e, upd_same] at hl; cases hl
      have hln := z2.fresh hl
      refine ⟨[], v8, none, none, ?_, hln, by rw [upd_ne (Ne.symm lh)]; exact upd_same, fun v hv => (by cases hv), by simp, rfl⟩
      refine dels_of (fun b o e => ?_) (fun b hb => ?_)
      · by_cases c : b = l
        · rw [c, upd_same] at e ⊢
          exact e
        · rw [upd_ne c] at e ⊢
          exact z2 _ _ e
      · rw [List.mem_singleton.mp hb, upd_ne (Ne.symm lh)]
        exact hhh
    · obtain ⟨ps, _, _, _, y, _⟩ := W
      exact SqL.of ((y.trans dels_ex) _ _ upd_same)
    · obtain ⟨ps, v8, v11, v12, y, hln, hh2, hg, ⟨hps, i2⟩, rfl⟩ := W
      have i1 : i < 2 := (List.getElem?_eq_some_iff.mp hx).1
      obtain ⟨z, rfl⟩ : ∃ z : Int, x = .int z := by
        have hi : i = 0 ∨ i = 1 := by omega
        rcases hi with e | e <;> rw [e] at hx <;> cases hx <;> exact ⟨_, rfl⟩
      have xl : Ex G1 (upd G1 l (.lst [.int 0, .int 1])) := Ex.new hln
      generalize upd G1 l (.lst [.int 0, .int 1]) = Gl at y xl ⊢
      have yG := xl.trans (y.trans dels_ex)
      have hB2 := hBG.ex yG
      have hD2 := yG _ _ hD
      have hHd2 := yG _ _ hHd1
      have hU2 := yG _ _ hU
      have vD2 := vDG.tx yG.tx

      refine sb_asg (R := RAns os) 12 sc_law.nd (ex_call G_answers hr (av_cons (ex_var 2) (av_cons (ex_var 9) av_nil)) (fun G3 Q x q => ⟨bk, Hd, ds, row, dds, rfl, hB2.ex x, x _ _ hHd2, vD2.tx x.tx, by omega, by rw [hos]; exact q⟩)) fun u G3 x3 hu => ?_
      obtain ⟨Fo, ws, rfl, hF0, hF, hO, hN⟩ := hu
      obtain ⟨kf, ks⟩ := KSt.start (z := z) (K := K) (y) hh2 hg hps hF0 x3 hF hO hN
      have hwl : (ws.length : Int) = (us.length : Int) := by rw [kf.len, hul]
      have hD3 := x3 _ _ hD2
      have hHd3 := x3 _ _ hHd2
      have hU3 := x3 _ _ hU2
      have vD3 := vD2.tx x3.tx

      refine sb_when (k := false) (TX.is (tx_w (wx_or (tx_not (tx_val (ex_isi B.isinstance (av_cons (ex_var 12) (av_cons (ex_bltn rfl B.list boot_list' rfl) av_nil)) (fun _ x => ty_lst (x _ _ hF)) (k := true) (by decide +kernel)))) (fun z1 => wx_or (tx_neI (ex_len B.len (av_cons (ex_var 12) av_nil) (SqL.of hF)) (ex_len B.len (av_cons (ex_var 7) av_nil) (SqL.of hU3))) (fun z2 => (wx_or1 (tx_neD (ex_var 9) (ex_var 6) hr (.list (dds.map deedD)) (deeds_shaped dds) (fun G4 v G5 x y r => by cases r; exact (vD3.tx (x.trans y).tx).dp ((x.trans y) _ _ hHd3)) (fun G4 v G5 x y r => by cases r; exact (vD3.tx (x.trans y).tx).dp ((x.trans y) _ _ hD3)))))))) (by simp [hwl])) (fun c => by cases c) (fun _ => ?_)
      clear hD3 hHd3 vD3 hO hN hF
      refine sb_forR1 8 (passes_of rfl) sc_law.nd B.range (av_cons (ex_len B.len (av_cons (ex_var 7) av_nil) (SqL.of hU3)) av_nil) ⟨by omega, by omega⟩ (fun k σ' G4 => KSt K Gl hh Fo ws os z k (1000 * i + k) G4 ∧ ∃ v8 : Option V, σ' = [some (.ref a), some (.ref t0), some bk, some ru, some (.int n), some (.ref A), some (.ref D), some (.ref U), v8, some (.ref Hd), some (.ref hh), some (.int z), some (.ref Fo), none]) ⟨ks, _, rfl⟩ (fun k σ' G4 hk W => ?_) (fun σ' G4 W => ?_)
      · obtain ⟨ks, v8, rfl⟩ := W
        have hk' : k < os.length := by omega
        have ho := List.getElem?_eq_getElem hk'
        generalize os[k]'hk' = o at ho
        obtain ⟨ps, e1, e2, e3, e4, e5, e6, e7⟩ := id ks
        obtain ⟨u, hu, hau⟩ := e6 k o (Nat.le_refl _) ho
        have y4 := xl.trans (e1.trans dels_ex)
        have hU4 := y4 _ _ hU
        obtain ⟨ud, hud, hadu⟩ := (vUG.ex y4).at_ k o ho
        have ku : atI ws (k : Int) = some u := at_of rfl hu
        have kd : atI us (k : Int) = some ud := at_of rfl hud

        refine sb_when (k := false) (TX.is (tx_not (tx_val (ex_call G__law_alike hr (av_cons (ex_ixL (ex_var 12) (ex_var 8) (SqL.of e5) ku) (av_cons (ex_ixL (ex_var 7) (ex_var 8) (SqL.of hU4) kd) av_nil)) (fun G5 Q x q => ⟨ansT o, u, ud, rfl, hau.ex x, hadu.ex x, q⟩)))) rfl) (fun c => by cases c) (fun _ => ?_)
        cases o with
        | num o =>
          cases o with
          | none =>
            obtain rfl : u = .non := hau
            refine sb_when (k := false) (TX.is (tx_val (ex_isi B.isinstance (av_cons (ex_ixL (ex_var 12) (ex_var 8) (SqL.of e5) ku) (av_cons (ex_bltn rfl B.list boot_list' rfl) av_nil)) (fun _ _ => ty_non) (k := false) (by decide +kernel))) rfl) (fun c => by cases c) (fun _ => ?_)
            exact sb_next (by exact ⟨ks.skip ho hu fun _ => .non, _, rfl⟩)
          | some m =>
            obtain rfl : u = .int m := hau
            refine sb_when (k := false) (TX.is (tx_val (ex_isi B.isinstance (av_cons (ex_ixL (ex_var 12) (ex_var 8) (SqL.of e5) ku) (av_cons (ex_bltn rfl B.list boot_list' rfl) av_nil)) (fun _ _ => ty_int) (k := false) (by decide +kernel))) rfl) (fun c => by cases c) (fun _ => ?_)
            exact sb_next (by exact ⟨ks.skip ho hu fun _ => .int m, _, rfl⟩)
        | bad b =>
          obtain rfl : u = .str (badS b) := hau
          refine sb_when (k := false) (TX.is (tx_val (ex_isi B.isinstance (av_cons (ex_ixL (ex_var 12) (ex_var 8) (SqL.of e5) ku) (av_cons (ex_bltn rfl B.list boot_list' rfl) av_nil)) (fun _ _ => ty_str) (k := false) (by decide +kernel))) rfl) (fun c => by cases c) (fun _ => ?_)
          exact sb_next (by exact ⟨ks.skip ho hu fun _ => .str _, _, rfl⟩)
        | row xs =>
          obtain ⟨p, rfl, hp, hxl⟩ := hau
          refine sb_when (k := true) (TX.is (tx_val (ex_isi B.isinstance (av_cons (ex_ixL (ex_var 12) (ex_var 8) (SqL.of e5) ku) (av_cons (ex_bltn rfl B.list boot_list' rfl) av_nil)) (fun _ x => ty_lst (x _ _ hp)) (k := true) (by decide +kernel))) rfl) (fun _ => ?_) (fun c => by cases c)
          refine sb_appI (v := .int z) (ex_ixL (ex_var 12) (ex_var 8) (SqL.of e5) ku) hp (by rw [List.length_map]; omega) (ex_var 11) ?_
          have ex : xs.map V.int ++ [V.int z] = (xs ++ [z]).map V.int := by rw [List.map_append]; rfl
          rw [ex]
          have nn := kf.new p (List.mem_of_getElem? hu)
          have e2' : (upd G4 p (.lst ((xs ++ [z]).map V.int))) hh = some (.lst ps) := by rw [upd_ne (Ne.symm nn.1)]; exact e2
          have e5' : (upd G4 p (.lst ((xs ++ [z]).map V.int))) Fo = some (.lst ws) := by rw [upd_ne (Ne.symm nn.2)]; exact e5
          have hp' : (upd G4 p (.lst ((xs ++ [z]).map V.int))) p = some (.lst ((xs ++ [z]).map V.int)) := upd_same

          refine sb_app (R := NTx [Is (.ref p), NL ((xs ++ [z]).map V.int)]) (ex_var 10) e2' (by omega) (ex_tupx (ax_cons (ex_ixL (ex_var 12) (ex_var 8) (SqL.of e5') ku) (ax_cons (ex_list B.list (av_cons (ex_ixL (ex_var 12) (ex_var 8) (SqL.of e5') ku) av_nil) (SqL.of hp')) ax_nil)) (by exact Nat.le_of_ble_eq_true rfl)) fun v G5 x5 r => ?_
          exact sb_thru (sb_next (by exact ⟨KSt.row kf e1 e2 e3 e4 e5 e6 e7 ho hu hp x5 r, _, rfl⟩))
      · obtain ⟨⟨ps, e1, e2, e3, e4, e5, e6, e7⟩, v8, rfl⟩ := W
        rw [show ((us.length : Int)).toNat = ws.length by omega] at e1 e3 e4 e6 e7
        have hwl2 : ws.length ≤ 310 := by rw [kf.len]; exact hol

        refine sb_appI (v := .int z) (ex_var 12) e5 (by omega) (ex_var 11) ?_
        have e2' : (upd G4 Fo (.lst (ws ++ [.int z]))) hh = some (.lst ps) := by rw [upd_ne (Ne.symm kf.ne)]; exact e2
        have e5' : (upd G4 Fo (.lst (ws ++ [.int z]))) Fo = some (.lst (ws ++ [.int z])) := upd_same

        refine sb_app (R := NTx [Is (.ref Fo), NL (ws ++ [.int z])]) (ex_var 10) e2' (by omega) (ex_tupx (ax_cons (ex_var 12) (ax_cons (ex_list B.list (av_cons (ex_var 12) av_nil) (SqL.of e5')) ax_nil)) (by exact Nat.le_of_ble_eq_true rfl)) fun v G5 x5 r => ?_
        obtain ⟨c1, c2⟩ := KSt.fin kf rfl e1 e2 e3 e7 x5 r
        refine sb_next ?_
        refine ⟨ps ++ [v], _, _, _, c1, hln, upd_same, c2, ⟨by rw [List.length_append, List.length_singleton]; omega, by omega⟩, rfl⟩
    · obtain ⟨ps, v8, v11, v12, y, hln, hh2, hg, _, rfl⟩ := W
      have xl : Ex G1 (upd G1 l (.lst [.int 0, .int 1])) := Ex.new hln
      have yG := xl.trans (y.trans dels_ex)
      have hB2 := hBG.ex yG
      obtain ⟨rs, hR2, hrne, hrl, hC, hst, hrow⟩ : RunRow n 70 row G2 ru := PM.m yG hRG
      have q := q.up yG
      have hlr := hC.length
      rw [hrow, Int.sub_zero] at hlr
      have c0 : Lies row 0 n := ⟨Int.le_refl _, n0, by omega⟩

      refine sb_when (k := false) (TX.is (tx_neD (ex_lcF (xs := ps) 13 sc_law.nd (ex_var 10) (SqL.of hh2) (blkOk_by (N := ["_law_script", "_law_start_here", "_law_book", "_law_runs", "_law_many", "_law_ahead", "_law_deeds", "_law_due_here", "_law_k", "_law_handed", "_law_held", "_law_turn", "_law_found", "_law_pair"]) (sc := defScope s_law) (by decide +kernel)) (fun _ _ _ _ _ => pg_name (i := 13) sc_law.nd rfl (Or.inl rfl)) (fun s' H' C cl fp x H1 y hx => heldTXg hr hg (dels_ex.trans y) hx (ex_var 13) (ex_var 13) ex_i ex_i (fun _ _ => rfl) (fun _ _ => rfl)) (fun _ _ _ _ _ => PE.weak (pv 13) (fun _ _ _ z => z.elim))) (ex_lst av_nil (by exact Nat.le_of_ble_eq_true rfl)) hr (.list []) (by decide) (fun H1 v H2 x y r => nl_dp (ns := []) r) (fun H1 v H2 x y r => nl_dp (ns := []) r)) rfl) (fun c => by cases c) (fun _ => ?_)
      refine sb_when (k := false) (TX.is (tx_not (tx_val (ex_call G__law_alike hr (av_cons (ex_call G_length hr (av_cons (ex_var 2) av_nil) (fun H1 Q x q => ⟨_, row, rfl, hB2.ex x, q⟩)) (av_cons (ex_var 4) av_nil)) (fun H1 Q x q => ⟨.num (some n), _, _, rfl, (by show V.int _ = V.int n; congr 1), rfl, q⟩)))) rfl) (fun c => by cases c) (fun _ => ?_)
      exact sb_ret (EX.is (ex_callx G__law_alike hr (ax_cons (ex_call G_total hr (av_cons (ex_var 2) (av_cons ex_i (av_cons (ex_var 4) av_nil))) (fun H1 Q x q => ⟨_, row, 0, n, rfl, hB2.ex x, fun _ => q, fun z => absurd c0 z⟩)) (ax_cons (ex_call G__law_due hr (av_cons (ex_var 3) (av_cons ex_s (av_cons ex_i (av_cons (ex_var 4) av_nil)))) (Q' := RA (.num (some (cut row 0 n).sum))) (fun H1 Q x q => ⟨_, rs, "total", 0, n, n, _, rfl, hR2.ex x, by omega, hC, n1, Int.le_refl _, n0, Int.le_refl _, .inl ⟨rfl, by rw [hrow]⟩, q⟩)) ax_nil)) (fun vs H1 Q x hv q => by
        obtain ⟨_, _, rfl, e1, _, _, rfl, hw, rfl⟩ := hv
        cases e1
        exact ⟨.num (some (cut row 0 n).sum), _, _, rfl, rfl, hw.1, q⟩)) rfl) q

end
section
variable {P : Program} {w : World} {K : PySem.W.Frag} {mg : Str → Option Value} {base : Heap}
theorem b_even_node : BdOk "even_node" s_even_node ["many", "number"] := fun _ _ _ _ _ _ us hl => match us, hl with | [_, _], _ => rfl
theorem b_node_of : BdOk "node_of" s_node_of ["left", "right", "by"] := fun _ _ _ _ _ _ us hl => match us, hl with | [_, _, _], _ => rfl
theorem b_node_of_row : BdOk "node_of_row" s_node_of_row ["row"] := fun _ _ _ _ _ _ us hl => match us, hl with | [_], _ => rfl
theorem b_parted : BdOk "parted" s_parted ["node"] := fun _ _ _ _ _ _ us hl => match us, hl with | [_], _ => rfl
theorem b_raised : BdOk "raised" s_raised ["node", "by"] := fun _ _ _ _ _ _ us hl => match us, hl with | [_, _], _ => rfl
theorem b_total_in : BdOk "total_in" s_total_in ["node", "low", "high"] := fun _ _ _ _ _ _ us hl => match us, hl with | [_, _, _], _ => rfl
theorem b_least_in : BdOk "least_in" s_least_in ["node", "low", "high"] := fun _ _ _ _ _ _ us hl => match us, hl with | [_, _, _], _ => rfl
theorem b_first_in : BdOk "first_in" s_first_in ["node", "low", "bound"] := fun _ _ _ _ _ _ us hl => match us, hl with | [_, _, _], _ => rfl
theorem b_listed_in : BdOk "listed_in" s_listed_in ["node", "low", "high", "by"] := fun _ _ _ _ _ _ us hl => match us, hl with | [_, _, _, _], _ => rfl
theorem b_added_in : BdOk "added_in" s_added_in ["node", "low", "high", "by"] := fun _ _ _ _ _ _ us hl => match us, hl with | [_, _, _, _], _ => rfl
theorem b_filled_in : BdOk "filled_in" s_filled_in ["node", "low", "high", "number"] := fun _ _ _ _ _ _ us hl => match us, hl with | [_, _, _, _], _ => rfl
theorem b_made : BdOk "made" s_made ["numbers"] := fun _ _ _ _ _ _ us hl => match us, hl with | [_], _ => rfl
theorem b_even : BdOk "even" s_even ["many", "number"] := fun _ _ _ _ _ _ us hl => match us, hl with | [_, _], _ => rfl
theorem b_length : BdOk "length" s_length ["book"] := fun _ _ _ _ _ _ us hl => match us, hl with | [_], _ => rfl
theorem b_check_stretch : BdOk "check_stretch" s_check_stretch ["book", "low", "high"] := fun _ _ _ _ _ _ us hl => match us, hl with | [_, _, _], _ => rfl
theorem b_listed : BdOk "listed" s_listed ["book", "low", "high"] := fun _ _ _ _ _ _ us hl => match us, hl with | [_, _, _], _ => rfl
theorem b_total : BdOk "total" s_total ["book", "low", "high"] := fun _ _ _ _ _ _ us hl => match us, hl with | [_, _, _], _ => rfl
theorem b_least : BdOk "least" s_least ["book", "low", "high"] := fun _ _ _ _ _ _ us hl => match us, hl with | [_, _, _], _ => rfl
theorem b_place : BdOk "place" s_place ["book", "low", "high"] := fun _ _ _ _ _ _ us hl => match us, hl with | [_, _, _], _ => rfl
theorem b_first : BdOk "first" s_first ["book", "low", "bound"] := fun _ _ _ _ _ _ us hl => match us, hl with | [_, _, _], _ => rfl
theorem b_added : BdOk "added" s_added ["book", "low", "high", "by"] := fun _ _ _ _ _ _ us hl => match us, hl with | [_, _, _, _], _ => rfl
theorem b_filled : BdOk "filled" s_filled ["book", "low", "high", "number"] := fun _ _ _ _ _ _ us hl => match us, hl with | [_, _, _, _], _ => rfl
theorem b_told : BdOk "told" s_told ["book", "deed"] := fun _ _ _ _ _ _ us hl => match us, hl with | [_, _], _ => rfl
theorem b_gone_on : BdOk "gone_on" s_gone_on ["book", "deed"] := fun _ _ _ _ _ _ us hl => match us, hl with | [_, _], _ => rfl
theorem b_step : BdOk "step" s_step ["books", "deed"] := fun _ _ _ _ _ _ us hl => match us, hl with | [_, _], _ => rfl
theorem b_answers : BdOk "answers" s_answers ["book", "deeds"] := fun _ _ _ _ _ _ us hl => match us, hl with | [_, _], _ => rfl
theorem b__law_whole : BdOk "_law_whole" s__law_whole ["_law_found"] := fun _ _ _ _ _ _ us hl => match us, hl with | [_], _ => rfl
theorem b__law_cell_at : BdOk "_law_cell_at" s__law_cell_at ["_law_script", "_law_k"] := fun _ _ _ _ _ _ us hl => match us, hl with | [_, _], _ => rfl
theorem b__law_number_by : BdOk "_law_number_by" s__law_number_by ["_law_cell"] := fun _ _ _ _ _ _ us hl => match us, hl with | [_], _ => rfl
theorem b__law_cut : BdOk "_law_cut" s__law_cut ["_law_runs", "_law_at"] := fun _ _ _ _ _ _ us hl => match us, hl with | [_, _], _ => rfl
theorem b__law_changed : BdOk "_law_changed" s__law_changed ["_law_runs", "_law_word", "_law_low", "_law_high", "_law_number"] := fun _ _ _ _ _ _ us hl => match us, hl with | [_, _, _, _, _], _ => rfl
theorem b__law_within : BdOk "_law_within" s__law_within ["_law_runs", "_law_low", "_law_high"] := fun _ _ _ _ _ _ us hl => match us, hl with | [_, _, _], _ => rfl
theorem b__law_due : BdOk "_law_due" s__law_due ["_law_runs", "_law_word", "_law_low", "_law_high"] := fun _ _ _ _ _ _ us hl => match us, hl with | [_, _, _, _], _ => rfl
theorem b__law_first : BdOk "_law_first" s__law_first ["_law_runs", "_law_low", "_law_bound"] := fun _ _ _ _ _ _ us hl => match us, hl with | [_, _, _], _ => rfl
theorem b__law_alike : BdOk "_law_alike" s__law_alike ["_law_found", "_law_due_here"] := fun _ _ _ _ _ _ us hl => match us, hl with | [_, _], _ => rfl
theorem b__law_end_by : BdOk "_law_end_by" s__law_end_by ["_law_cell", "_law_runs", "_law_many"] := fun _ _ _ _ _ _ us hl => match us, hl with | [_, _, _], _ => rfl
theorem b__law_answer : BdOk "_law_answer" s__law_answer ["_law_runs", "_law_many", "_law_deed"] := fun _ _ _ _ _ _ us hl => match us, hl with | [_, _, _], _ => rfl
theorem b__law_made : BdOk "_law_made" s__law_made ["_law_word", "_law_low", "_law_high", "_law_number"] := fun _ _ _ _ _ _ us hl => match us, hl with | [_, _, _, _], _ => rfl
theorem b__law_deed_by : BdOk "_law_deed_by" s__law_deed_by ["_law_one", "_law_two", "_law_runs", "_law_many"] := fun _ _ _ _ _ _ us hl => match us, hl with | [_, _, _, _], _ => rfl
theorem b__law_run : BdOk "_law_run" s__law_run ["_law_script", "_law_k"] := fun _ _ _ _ _ _ us hl => match us, hl with | [_, _], _ => rfl
theorem b__law_noted : BdOk "_law_noted" s__law_noted ["_law_deed", "_law_deeds", "_law_due_here", "_law_ahead", "_law_many"] := fun _ _ _ _ _ _ us hl => match us, hl with | [_, _, _, _, _], _ => rfl
theorem b__law_start : BdOk "_law_start" s__law_start ["_law_script"] := fun _ _ _ _ _ _ us hl => match us, hl with | [_], _ => rfl
theorem b_law : BdOk "law" s_law ["_law_script"] := fun _ _ _ _ _ _ us hl => match us, hl with | [_], _ => rfl
theorem top {CR CO CT CN : Addr} (B : Bt mg) (g_MOST_LISTED : Gi mg "MOST_LISTED" 1000) (g_MOST_PLACES : Gi mg "MOST_PLACES" 1000000000000) (eR : Ec K mg "NoRow" CR) (eO : Ec K mg "OutOfRow" CO) (eT : Ec K mg "TooMany" CT) (eN : Ec K mg "Nothing" CN) (xO : ExcC K CO) (xN : ExcC K CN) (xT : ExcC K CT) (s_O_O_t : PySem.W.subIn K (.ref CO) (.ref CO) = some true) (s_N_O_f : PySem.W.subIn K (.ref CN) (.ref CO) = some false) (s_N_N_t : PySem.W.subIn K (.ref CN) (.ref CN) = some true) (s_T_O_f : PySem.W.subIn K (.ref CT) (.ref CO) = some false) (s_T_N_f : PySem.W.subIn K (.ref CT) (.ref CN) = some false) (s_T_T_t : PySem.W.subIn K (.ref CT) (.ref CT) = some true) (D_even_node : Df K mg "even_node" s_even_node ["many", "number"]) (D_node_of : Df K mg "node_of" s_node_of ["left", "right", "by"]) (D_node_of_row : Df K mg "node_of_row" s_node_of_row ["row"]) (D_parted : Df K mg "parted" s_parted ["node"]) (D_raised : Df K mg "raised" s_raised ["node", "by"]) (D_total_in : Df K mg "total_in" s_total_in ["node", "low", "high"]) (D_least_in : Df K mg "least_in" s_least_in ["node", "low", "high"]) (D_first_in : Df K mg "first_in" s_first_in ["node", "low", "bound"]) (D_listed_in : Df K mg "listed_in" s_listed_in ["node", "low", "high", "by"]) (D_added_in : Df K mg "added_in" s_added_in ["node", "low", "high", "by"]) (D_filled_in : Df K mg "filled_in" s_filled_in ["node", "low", "high", "number"]) (D_made : Df K mg "made" s_made ["numbers"]) (D_even : Df K mg "even" s_even ["many", "number"]) (D_length : Df K mg "length" s_length ["book"]) (D_check_stretch : Df K mg "check_stretch" s_check_stretch ["book", "low", "high"]) (D_listed : Df K mg "listed" s_listed ["book", "low", "high"]) (D_total : Df K mg "total" s_total ["book", "low", "high"]) (D_least : Df K mg "least" s_least ["book", "low", "high"]) (D_place : Df K mg "place" s_place ["book", "low", "high"]) (D_first : Df K mg "first" s_first ["book", "low", "bound"]) (D_added : Df K mg "added" s_added ["book", "low", "high", "by"]) (D_filled : Df K mg "filled" s_filled ["book", "low", "high", "number"]) (D_told : Df K mg "told" s_told ["book", "deed"]) (D_gone_on : Df K mg "gone_on" s_gone_on ["book", "deed"]) (D_step : Df K mg "step" s_step ["books", "deed"]) (D_answers : Df K mg "answers" s_answers ["book", "deeds"]) (D__law_whole : Df K mg "_law_whole" s__law_whole ["_law_found"]) (D__law_cell_at : Df K mg "_law_cell_at" s__law_cell_at ["_law_script", "_law_k"]) (D__law_number_by : Df K mg "_law_number_by" s__law_number_by ["_law_cell"]) (D__law_cut : Df K mg "_law_cut" s__law_cut ["_law_runs", "_law_at"]) (D__law_changed : Df K mg "_law_changed" s__law_changed ["_law_runs", "_law_word", "_law_low", "_law_high", "_law_number"]) (D__law_within : Df K mg "_law_within" s__law_within ["_law_runs", "_law_low", "_law_high"]) (D__law_due : Df K mg "_law_due" s__law_due ["_law_runs", "_law_word", "_law_low", "_law_high"]) (D__law_first : Df K mg "_law_first" s__law_first ["_law_runs", "_law_low", "_law_bound"]) (D__law_alike : Df K mg "_law_alike" s__law_alike ["_law_found", "_law_due_here"]) (D__law_end_by : Df K mg "_law_end_by" s__law_end_by ["_law_cell", "_law_runs", "_law_many"]) (D__law_answer : Df K mg "_law_answer" s__law_answer ["_law_runs", "_law_many", "_law_deed"]) (D__law_made : Df K mg "_law_made" s__law_made ["_law_word", "_law_low", "_law_high", "_law_number"]) (D__law_deed_by : Df K mg "_law_deed_by" s__law_deed_by ["_law_one", "_law_two", "_law_runs", "_law_many"]) (D__law_run : Df K mg "_law_run" s__law_run ["_law_script", "_law_k"]) (D__law_noted : Df K mg "_law_noted" s__law_noted ["_law_deed", "_law_deeds", "_law_due_here", "_law_ahead", "_law_many"]) (D__law_start : Df K mg "_law_start" s__law_start ["_law_script"]) (D_law : Df K mg "law" s_law ["_law_script"]) : Dn P w K mg base "law" 60 ["_law_script"] (spLaw K) := by
  have G_even_node := ok_even_node (P := P) (w := w) (base := base) D_even_node
  have G_node_of := ok_node_of (P := P) (w := w) (base := base) B D_node_of
  have G_node_of_row := ok_node_of_row (P := P) (w := w) (base := base) B D_node_of_row G_even_node G_node_of 10
  have G_parted := ok_parted (P := P) (w := w) (base := base) D_parted G_even_node G_node_of
  have G_raised := ok_raised (P := P) (w := w) (base := base) D_raised G_even_node G_node_of
  have G_total_in := ok_total_in (P := P) (w := w) (base := base) B D_total_in 40
  have G_least_in := ok_least_in (P := P) (w := w) (base := base) B D_least_in 40
  have G_first_in := ok_first_in (P := P) (w := w) (base := base) B D_first_in 40
  have G_listed_in := ok_listed_in (P := P) (w := w) (base := base) B D_listed_in 40
  have G_added_in := ok_added_in (P := P) (w := w) (base := base) D_added_in G_raised G_parted G_node_of 40
  have G_filled_in := ok_filled_in (P := P) (w := w) (base := base) D_filled_in G_even_node G_parted G_node_of 40
  have G_made := ok_made (P := P) (w := w) (base := base) B g_MOST_LISTED eR D_made G_even_node G_node_of_row
  have G_even := ok_even (P := P) (w := w) (base := base) g_MOST_PLACES eR D_even G_even_node
  have G_length := ok_length (P := P) (w := w) (base := base) D_length
  have G_check_stretch := ok_check_stretch (P := P) (w := w) (base := base) eO D_check_stretch
  have G_listed := ok_listed (P := P) (w := w) (base := base) g_MOST_LISTED eT D_listed G_check_stretch G_listed_in
  have G_total := ok_total (P := P) (w := w) (base := base) D_total G_check_stretch G_total_in
  have G_least := ok_least (P := P) (w := w) (base := base) eN D_least G_check_stretch G_least_in
  have G_place := ok_place (P := P) (w := w) (base := base) D_place G_least G_first_in
  have G_first := ok_first (P := P) (w := w) (base := base) D_first G_check_stretch G_first_in
  have G_added := ok_added (P := P) (w := w) (base := base) D_added G_check_stretch G_added_in
  have G_filled := ok_filled (P := P) (w := w) (base := base) D_filled G_check_stretch G_filled_in
  have G_told := ok_told (P := P) (w := w) (base := base) D_told G_total G_least G_place G_first G_listed
  have G_gone_on := ok_gone_on (P := P) (w := w) (base := base) D_gone_on G_added G_filled
  have G_step := ok_step (P := P) (w := w) (base := base) B D_step G_told G_gone_on
  have G_answers := ok_answers (P := P) (w := w) (base := base) eO eN eT xO xN xT s_O_O_t s_N_O_f s_N_N_t s_T_O_f s_T_N_f s_T_T_t D_answers G_step
  have G__law_whole := ok__law_whole (P := P) (w := w) (base := base) B D__law_whole
  have G__law_cell_at := ok__law_cell_at (P := P) (w := w) (base := base) B D__law_cell_at
  have G__law_number_by := ok__law_number_by (P := P) (w := w) (base := base) D__law_number_by
  have G__law_cut := ok__law_cut (P := P) (w := w) (base := base) D__law_cut
  have G__law_changed := ok__law_changed (P := P) (w := w) (base := base) D__law_changed G__law_cut
  have G__law_within := ok__law_within (P := P) (w := w) (base := base) B D__law_within
  have G__law_due := ok__law_due (P := P) (w := w) (base := base) B D__law_due G__law_within
  have G__law_first := ok__law_first (P := P) (w := w) (base := base) B D__law_first
  have G__law_alike := ok__law_alike (P := P) (w := w) (base := base) B D__law_alike G__law_whole
  have G__law_end_by := ok__law_end_by (P := P) (w := w) (base := base) B D__law_end_by
  have G__law_answer := ok__law_answer (P := P) (w := w) (base := base) D__law_answer G__law_first G__law_due
  have G__law_made := ok__law_made (P := P) (w := w) (base := base) D__law_made
  have G__law_deed_by := ok__law_deed_by (P := P) (w := w) (base := base) B D__law_deed_by G__law_end_by G__law_number_by G__law_made
  have G__law_run := ok__law_run (P := P) (w := w) (base := base) D__law_run G__law_cell_at
  have G__law_noted := ok__law_noted (P := P) (w := w) (base := base) B D__law_noted G__law_answer G__law_changed
  have G__law_start := ok__law_start (P := P) (w := w) (base := base) B D__law_start G__law_cell_at G__law_number_by G_made G_even G_added G__law_changed
  have G_law := ok_law (P := P) (w := w) (base := base) B D_law G_length G_total G_answers G__law_start G__law_run G__law_noted G__law_deed_by G__law_alike G__law_due
  exact G_law
end
end RB
open PySem PySem.W PyProof.Rows
set_option maxRecDepth 100000 in
set_option maxHeartbeats 0 in
theorem PySem.Challenge.cw_rangebook_k14_whole_deeds_answered_holds : PySem.Challenge.rw_rangebook_k14_whole_deeds_answered.Holds := by
  w_on; o_law; k_head; (case hw => w_witness2)
  k_fill
  refine RB.walk (l := PySem.Challenge.rw_rangebook_k14_whole_deeds_answered) (st := RB.s_law) rfl rfl rfl RB.b_law (fun w h Y => PySem.W.kIn_of Y) ?F
  case F =>
    intro w mg h KX G
    have z_len : mg "len" = none := by
      refine' PySem.W.mg_none_of KX G ?z
      (case z => k_is)
    have z_min : mg "min" = none := by
      refine' PySem.W.mg_none_of KX G ?z
      (case z => k_is)
    have z_max : mg "max" = none := by
      refine' PySem.W.mg_none_of KX G ?z
      (case z => k_is)
    have z_list : mg "list" = none := by
      refine' PySem.W.mg_none_of KX G ?z
      (case z => k_is)
    have z_range : mg "range" = none := by
      refine' PySem.W.mg_none_of KX G ?z
      (case z => k_is)
    have z_isinstance : mg "isinstance" = none := by
      refine' PySem.W.mg_none_of KX G ?z
      (case z => k_is)
    have z_int : mg "int" = none := by
      refine' PySem.W.mg_none_of KX G ?z
      (case z => k_is)
    have z_bool : mg "bool" = none := by
      refine' PySem.W.mg_none_of KX G ?z
      (case z => k_is)
    have z_ValueError : mg "ValueError" = none := by
      refine' PySem.W.mg_none_of KX G ?z
      (case z => k_is)
    have z_str : mg "str" = none := by
      refine' PySem.W.mg_none_of KX G ?z
      (case z => k_is)
    have z_tuple : mg "tuple" = none := by
      refine' PySem.W.mg_none_of KX G ?z
      (case z => k_is)
    have z_sum : mg "sum" = none := by
      refine' PySem.W.mg_none_of KX G ?z
      (case z => k_is)
    have z_sorted : mg "sorted" = none := by
      refine' PySem.W.mg_none_of KX G ?z
      (case z => k_is)
    have z_abs : mg "abs" = none := by
      refine' PySem.W.mg_none_of KX G ?z
      (case z => k_is)
    have B : RB.Bt mg := ⟨z_len, z_min, z_max, z_list, z_range, z_isinstance, z_int, z_bool, z_ValueError, z_str, z_tuple, z_sum, z_sorted, z_abs⟩
    have g_MOST_LISTED : RB.Gi mg "MOST_LISTED" 1000 := by
      refine' RB.gi_mk KX G ?a
      (case a => k_is)
    have g_MOST_PLACES : RB.Gi mg "MOST_PLACES" 1000000000000 := by
      refine' RB.gi_mk KX G ?a
      (case a => k_is)
    refine' RB.ec_use (n := "NoRow") KX G ?aR ?xR ?kR ?bR ?tR ?rR
    (case aR => k_is); (case xR => k_exc); (case kR => k_is); (case bR => k_is); (case tR => k_is)
    intro eR
    refine' RB.ec_use (n := "OutOfRow") KX G ?aO ?xO ?kO ?bO ?tO ?rO
    (case aO => k_is); (case xO => k_exc); (case kO => k_is); (case bO => k_is); (case tO => k_is)
    intro eO
    refine' RB.ec_use (n := "TooMany") KX G ?aT ?xT ?kT ?bT ?tT ?rT
    (case aT => k_is); (case xT => k_exc); (case kT => k_is); (case bT => k_is); (case tT => k_is)
    intro eT
    refine' RB.ec_use (n := "Nothing") KX G ?aN ?xN ?kN ?bN ?tN ?rN
    (case aN => k_is); (case xN => k_exc); (case kN => k_is); (case bN => k_is); (case tN => k_is)
    intro eN
    refine' RB.xc_use eO ?hgO ?hkO ?hsO ?hdO ?haO ?hnO ?htO ?hmO ?hrO
    (case hgO => k_is); (case hkO => k_is); (case hsO => k_is); (case hdO => k_is); (case haO => k_is); (case hnO => k_is); (case htO => k_is); (case hmO => k_is)
    intro xO
    refine' RB.xc_use eN ?hgN ?hkN ?hsN ?hdN ?haN ?hnN ?htN ?hmN ?hrN
    (case hgN => k_is); (case hkN => k_is); (case hsN => k_is); (case hdN => k_is); (case haN => k_is); (case hnN => k_is); (case htN => k_is); (case hmN => k_is)
    intro xN
    refine' RB.xc_use eT ?hgT ?hkT ?hsT ?hdT ?haT ?hnT ?htT ?hmT ?hrT
    (case hgT => k_is); (case hkT => k_is); (case hsT => k_is); (case hdT => k_is); (case haT => k_is); (case hnT => k_is); (case htT => k_is); (case hmT => k_is)
    intro xT
    refine' RB.sub_use eO eO (b := true) ?fs_O_O_t ?gs_O_O_t
    (case fs_O_O_t => first | rfl | k_is)
    intro s_O_O_t
    refine' RB.sub_use eN eO (b := false) ?fs_N_O_f ?gs_N_O_f
    (case fs_N_O_f => first | rfl | k_is)
    intro s_N_O_f
    refine' RB.sub_use eN eN (b := true) ?fs_N_N_t ?gs_N_N_t
    (case fs_N_N_t => first | rfl | k_is)
    intro s_N_N_t
    refine' RB.sub_use eT eO (b := false) ?fs_T_O_f ?gs_T_O_f
    (case fs_T_O_f => first | rfl | k_is)
    intro s_T_O_f
    refine' RB.sub_use eT eN (b := false) ?fs_T_N_f ?gs_T_N_f
    (case fs_T_N_f => first | rfl | k_is)
    intro s_T_N_f
    refine' RB.sub_use eT eT (b := true) ?fs_T_T_t ?gs_T_T_t
    (case fs_T_T_t => first | rfl | k_is)
    intro s_T_T_t
    refine' RB.df_use KX G RB.b_even_node ?a_even_node ?l_even_node ?c_even_node ?k_even_node ?r_even_node
    (case a_even_node => k_is); (case l_even_node => k_is); (case c_even_node => k_is); (case k_even_node => k_is)
    intro D_even_node
    refine' RB.df_use KX G RB.b_node_of ?a_node_of ?l_node_of ?c_node_of ?k_node_of ?r_node_of
    (case a_node_of => k_is); (case l_node_of => k_is); (case c_node_of => k_is); (case k_node_of => k_is)
    intro D_node_of
    refine' RB.df_use KX G RB.b_node_of_row ?a_node_of_row ?l_node_of_row ?c_node_of_row ?k_node_of_row ?r_node_of_row
    (case a_node_of_row => k_is); (case l_node_of_row => k_is); (case c_node_of_row => k_is); (case k_node_of_row => k_is)
    intro D_node_of_row
    refine' RB.df_use KX G RB.b_parted ?a_parted ?l_parted ?c_parted ?k_parted ?r_parted
    (case a_parted => k_is); (case l_parted => k_is); (case c_parted => k_is); (case k_parted => k_is)
    intro D_parted
    refine' RB.df_use KX G RB.b_raised ?a_raised ?l_raised ?c_raised ?k_raised ?r_raised
    (case a_raised => k_is); (case l_raised => k_is); (case c_raised => k_is); (case k_raised => k_is)
    intro D_raised
    refine' RB.df_use KX G RB.b_total_in ?a_total_in ?l_total_in ?c_total_in ?k_total_in ?r_total_in
    (case a_total_in => k_is); (case l_total_in => k_is); (case c_total_in => k_is); (case k_total_in => k_is)
    intro D_total_in
    refine' RB.df_use KX G RB.b_least_in ?a_least_in ?l_least_in ?c_least_in ?k_least_in ?r_least_in
    (case a_least_in => k_is); (case l_least_in => k_is); (case c_least_in => k_is); (case k_least_in => k_is)
    intro D_least_in
    refine' RB.df_use KX G RB.b_first_in ?a_first_in ?l_first_in ?c_first_in ?k_first_in ?r_first_in
    (case a_first_in => k_is); (case l_first_in => k_is); (case c_first_in => k_is); (case k_first_in => k_is)
    intro D_first_in
    refine' RB.df_use KX G RB.b_listed_in ?a_listed_in ?l_listed_in ?c_listed_in ?k_listed_in ?r_listed_in
    (case a_listed_in => k_is); (case l_listed_in => k_is); (case c_listed_in => k_is); (case k_listed_in => k_is)
    intro D_listed_in
    refine' RB.df_use KX G RB.b_added_in ?a_added_in ?l_added_in ?c_added_in ?k_added_in ?r_added_in
    (case a_added_in => k_is); (case l_added_in => k_is); (case c_added_in => k_is); (case k_added_in => k_is)
    intro D_added_in
    refine' RB.df_use KX G RB.b_filled_in ?a_filled_in ?l_filled_in ?c_filled_in ?k_filled_in ?r_filled_in
    (case a_filled_in => k_is); (case l_filled_in => k_is); (case c_filled_in => k_is); (case k_filled_in => k_is)
    intro D_filled_in
    refine' RB.df_use KX G RB.b_made ?a_made ?l_made ?c_made ?k_made ?r_made
    (case a_made => k_is); (case l_made => k_is); (case c_made => k_is); (case k_made => k_is)
    intro D_made
    refine' RB.df_use KX G RB.b_even ?a_even ?l_even ?c_even ?k_even ?r_even
    (case a_even => k_is); (case l_even => k_is); (case c_even => k_is); (case k_even => k_is)
    intro D_even
    refine' RB.df_use KX G RB.b_length ?a_length ?l_length ?c_length ?k_length ?r_length
    (case a_length => k_is); (case l_length => k_is); (case c_length => k_is); (case k_length => k_is)
    intro D_length
    refine' RB.df_use KX G RB.b_check_stretch ?a_check_stretch ?l_check_stretch ?c_check_stretch ?k_check_stretch ?r_check_stretch
    (case a_check_stretch => k_is); (case l_check_stretch => k_is); (case c_check_stretch => k_is); (case k_check_stretch => k_is)
    intro D_check_stretch
    refine' RB.df_use KX G RB.b_listed ?a_listed ?l_listed ?c_listed ?k_listed ?r_listed
    (case a_listed => k_is); (case l_listed => k_is); (case c_listed => k_is); (case k_listed => k_is)
    intro D_listed
    refine' RB.df_use KX G RB.b_total ?a_total ?l_total ?c_total ?k_total ?r_total
    (case a_total => k_is); (case l_total => k_is); (case c_total => k_is); (case k_total => k_is)
    intro D_total
    refine' RB.df_use KX G RB.b_least ?a_least ?l_least ?c_least ?k_least ?r_least
    (case a_least => k_is); (case l_least => k_is); (case c_least => k_is); (case k_least => k_is)
    intro D_least
    refine' RB.df_use KX G RB.b_place ?a_place ?l_place ?c_place ?k_place ?r_place
    (case a_place => k_is); (case l_place => k_is); (case c_place => k_is); (case k_place => k_is)
    intro D_place
    refine' RB.df_use KX G RB.b_first ?a_first ?l_first ?c_first ?k_first ?r_first
    (case a_first => k_is); (case l_first => k_is); (case c_first => k_is); (case k_first => k_is)
    intro D_first
    refine' RB.df_use KX G RB.b_added ?a_added ?l_added ?c_added ?k_added ?r_added
    (case a_added => k_is); (case l_added => k_is); (case c_added => k_is); (case k_added => k_is)
    intro D_added
    refine' RB.df_use KX G RB.b_filled ?a_filled ?l_filled ?c_filled ?k_filled ?r_filled
    (case a_filled => k_is); (case l_filled => k_is); (case c_filled => k_is); (case k_filled => k_is)
    intro D_filled
    refine' RB.df_use KX G RB.b_told ?a_told ?l_told ?c_told ?k_told ?r_told
    (case a_told => k_is); (case l_told => k_is); (case c_told => k_is); (case k_told => k_is)
    intro D_told
    refine' RB.df_use KX G RB.b_gone_on ?a_gone_on ?l_gone_on ?c_gone_on ?k_gone_on ?r_gone_on
    (case a_gone_on => k_is); (case l_gone_on => k_is); (case c_gone_on => k_is); (case k_gone_on => k_is)
    intro D_gone_on
    refine' RB.df_use KX G RB.b_step ?a_step ?l_step ?c_step ?k_step ?r_step
    (case a_step => k_is); (case l_step => k_is); (case c_step => k_is); (case k_step => k_is)
    intro D_step
    refine' RB.df_use KX G RB.b_answers ?a_answers ?l_answers ?c_answers ?k_answers ?r_answers
    (case a_answers => k_is); (case l_answers => k_is); (case c_answers => k_is); (case k_answers => k_is)
    intro D_answers
    refine' RB.df_use KX G RB.b__law_whole ?a__law_whole ?l__law_whole ?c__law_whole ?k__law_whole ?r__law_whole
    (case a__law_whole => k_is); (case l__law_whole => k_is); (case c__law_whole => k_is); (case k__law_whole => k_is)
    intro D__law_whole
    refine' RB.df_use KX G RB.b__law_cell_at ?a__law_cell_at ?l__law_cell_at ?c__law_cell_at ?k__law_cell_at ?r__law_cell_at
    (case a__law_cell_at => k_is); (case l__law_cell_at => k_is); (case c__law_cell_at => k_is); (case k__law_cell_at => k_is)
    intro D__law_cell_at
    refine' RB.df_use KX G RB.b__law_number_by ?a__law_number_by ?l__law_number_by ?c__law_number_by ?k__law_number_by ?r__law_number_by
    (case a__law_number_by => k_is); (case l__law_number_by => k_is); (case c__law_number_by => k_is); (case k__law_number_by => k_is)
    intro D__law_number_by
    refine' RB.df_use KX G RB.b__law_cut ?a__law_cut ?l__law_cut ?c__law_cut ?k__law_cut ?r__law_cut
    (case a__law_cut => k_is); (case l__law_cut => k_is); (case c__law_cut => k_is); (case k__law_cut => k_is)
    intro D__law_cut
    refine' RB.df_use KX G RB.b__law_changed ?a__law_changed ?l__law_changed ?c__law_changed ?k__law_changed ?r__law_changed
    (case a__law_changed => k_is); (case l__law_changed => k_is); (case c__law_changed => k_is); (case k__law_changed => k_is)
    intro D__law_changed
    refine' RB.df_use KX G RB.b__law_within ?a__law_within ?l__law_within ?c__law_within ?k__law_within ?r__law_within
    (case a__law_within => k_is); (case l__law_within => k_is); (case c__law_within => k_is); (case k__law_within => k_is)
    intro D__law_within
    refine' RB.df_use KX G RB.b__law_due ?a__law_due ?l__law_due ?c__law_due ?k__law_due ?r__law_due
    (case a__law_due => k_is); (case l__law_due => k_is); (case c__law_due => k_is); (case k__law_due => k_is)
    intro D__law_due
    refine' RB.df_use KX G RB.b__law_first ?a__law_first ?l__law_first ?c__law_first ?k__law_first ?r__law_first
    (case a__law_first => k_is); (case l__law_first => k_is); (case c__law_first => k_is); (case k__law_first => k_is)
    intro D__law_first
    refine' RB.df_use KX G RB.b__law_alike ?a__law_alike ?l__law_alike ?c__law_alike ?k__law_alike ?r__law_alike
    (case a__law_alike => k_is); (case l__law_alike => k_is); (case c__law_alike => k_is); (case k__law_alike => k_is)
    intro D__law_alike
    refine' RB.df_use KX G RB.b__law_end_by ?a__law_end_by ?l__law_end_by ?c__law_end_by ?k__law_end_by ?r__law_end_by
    (case a__law_end_by => k_is); (case l__law_end_by => k_is); (case c__law_end_by => k_is); (case k__law_end_by => k_is)
    intro D__law_end_by
    refine' RB.df_use KX G RB.b__law_answer ?a__law_answer ?l__law_answer ?c__law_answer ?k__law_answer ?r__law_answer
    (case a__law_answer => k_is); (case l__law_answer => k_is); (case c__law_answer => k_is); (case k__law_answer => k_is)
    intro D__law_answer
    refine' RB.df_use KX G RB.b__law_made ?a__law_made ?l__law_made ?c__law_made ?k__law_made ?r__law_made
    (case a__law_made => k_is); (case l__law_made => k_is); (case c__law_made => k_is); (case k__law_made => k_is)
    intro D__law_made
    refine' RB.df_use KX G RB.b__law_deed_by ?a__law_deed_by ?l__law_deed_by ?c__law_deed_by ?k__law_deed_by ?r__law_deed_by
    (case a__law_deed_by => k_is); (case l__law_deed_by => k_is); (case c__law_deed_by => k_is); (case k__law_deed_by => k_is)
    intro D__law_deed_by
    refine' RB.df_use KX G RB.b__law_run ?a__law_run ?l__law_run ?c__law_run ?k__law_run ?r__law_run
    (case a__law_run => k_is); (case l__law_run => k_is); (case c__law_run => k_is); (case k__law_run => k_is)
    intro D__law_run
    refine' RB.df_use KX G RB.b__law_noted ?a__law_noted ?l__law_noted ?c__law_noted ?k__law_noted ?r__law_noted
    (case a__law_noted => k_is); (case l__law_noted => k_is); (case c__law_noted => k_is); (case k__law_noted => k_is)
    intro D__law_noted
    refine' RB.df_use KX G RB.b__law_start ?a__law_start ?l__law_start ?c__law_start ?k__law_start ?r__law_start
    (case a__law_start => k_is); (case l__law_start => k_is); (case c__law_start => k_is); (case k__law_start => k_is)
    intro D__law_start
    refine' RB.df_use KX G RB.b_law ?a_law ?l_law ?c_law ?k_law ?r_law
    (case a_law => k_is); (case l_law => k_is); (case c_law => k_is); (case k_law => k_is)
    intro D_law
    exact ⟨D_law, fun base => RB.top B g_MOST_LISTED g_MOST_PLACES eR eO eT eN xO xN xT s_O_O_t s_N_O_f s_N_N_t s_T_O_f s_T_N_f s_T_T_t D_even_node D_node_of D_node_of_row D_parted D_raised D_total_in D_least_in D_first_in D_listed_in D_added_in D_filled_in D_made D_even D_length D_check_stretch D_listed D_total D_least D_place D_first D_added D_filled D_told D_gone_on D_step D_answers D__law_whole D__law_cell_at D__law_number_by D__law_cut D__law_changed D__law_within D__law_due D__law_first D__law_alike D__law_end_by D__law_answer D__law_made D__law_deed_by D__law_run D__law_noted D__law_start D_law⟩
#print axioms PySem.Challenge.cw_rangebook_k14_whole_deeds_answered_holds

