import PyProof.Rows.All
import Wide.All
import OpenK.AllK
import Wide.FinOn
import HandS.ForMost
import HandS.Exc
import HandS.ExcOwn
import HandS.TryOnly
import HandS.TryMany
import HandS.WordsExc
import HandS.IsInst
import HandS.Wide
import HandS.Evl
import HandS.ExcIs
import HandS.Text
import KE.IntTextLaws
import KE.GoesRaise
import HandS.More
import HandS.RaiseMore
import PySem.Challenge.RW_rangebook_k09_lines_read_and_written
set_option Elab.async false
set_option linter.all false
set_option maxRecDepth 100000
set_option maxHeartbeats  4000000
set_option autoImplicit false
/-! rows, plain lists of numbers: cut, changed, least, first -/
namespace RB
/-- the part of a row from lo on, ahead of hi -/
def cut (xs : List Int) (lo hi : Int) : List Int := (xs.drop lo.toNat).take (hi.toNat - lo.toNat)
/-- f at each place from lo on, ahead of hi -/
def chg (f : Int → Int) : List Int → Int → Int → List Int
  | [], _, _ => []
  | x :: xs, lo, hi => (if lo ≤ 0 ∧ 0 < hi then f x else x) :: chg f xs (lo - 1) (hi - 1)
/-- m is the least of xs -/
def IsMin (m : Int) (xs : List Int) : Prop := m ∈ xs ∧ ∀ y ∈ xs, m ≤ y
/-- the first place from lo on with a number no greater than b -/
def fst (xs : List Int) (lo : Int) (b : Int) : Option Int := ((xs.drop lo.toNat).findIdx? (fun x => decide (x ≤ b))).map fun k => ((k + lo.toNat : Nat) : Int)

theorem cut_nil {xs : List Int} {lo hi : Int} (h : hi ≤ lo) : cut xs lo hi = [] := by
  unfold cut
  rw [show hi.toNat - lo.toNat = 0 by omega, List.take_zero]
theorem cut_full {xs : List Int} : cut xs 0 (xs.length : Int) = xs := by
  unfold cut
  simp
theorem cut_all {xs : List Int} {lo hi : Int} (h1 : lo ≤ 0) (h2 : (xs.length : Int) ≤ hi) : cut xs lo hi = xs := by
  unfold cut
  rw [show lo.toNat = 0 by omega, List.drop_zero, List.take_of_length_le (by omega)]
theorem cut_length {xs : List Int} {lo hi : Int} (h1 : 0 ≤ lo) (h2 : lo ≤ hi) (h3 : hi ≤ (xs.length : Int)) : ((cut xs lo hi).length : Int) = hi - lo := by
  unfold cut
  rw [List.length_take, List.length_drop]
  omega
theorem cut_length_le {xs : List Int} {lo hi : Int} : (cut xs lo hi).length ≤ xs.length := by
  unfold cut
  rw [List.length_take, List.length_drop]
  omega
theorem cut_append {xs ys : List Int} {lo hi n : Int} (hn : n = (xs.length : Int)) (h1 : 0 ≤ lo) : cut (xs ++ ys) lo hi = cut xs lo (min hi n) ++ cut ys (max lo n - n) (hi - n) := by
  subst hn
  unfold cut
  rw [List.drop_append, List.take_append, List.length_drop]
  congr 1
  · by_cases h : lo.toNat ≤ xs.length
    · by_cases h2 : hi ≤ (xs.length : Int)
      · rw [Int.min_eq_left h2]
      · rw [Int.min_eq_right (by omega), List.take_of_length_le (by rw [List.length_drop]; omega), List.take_of_length_le (by rw [List.length_drop]; omega)]
    · rw [List.drop_eq_nil_of_le (by omega), List.take_nil, List.take_nil]
  · rw [show (max lo (xs.length : Int) - (xs.length : Int)).toNat = lo.toNat - xs.length by omega]
    congr 1
    omega
theorem cut_map {f : Int → Int} {xs : List Int} {lo hi : Int} : cut (xs.map f) lo hi = (cut xs lo hi).map f := by
  unfold cut
  rw [← List.map_drop, ← List.map_take]
theorem cut_replicate {n : Nat} {v : Int} {lo hi : Int} (h3 : hi ≤ (n : Int)) : cut (List.replicate n v) lo hi = List.replicate (hi.toNat - lo.toNat) v := by
  unfold cut
  rw [List.drop_replicate, List.take_replicate]
  congr 1
  omega
theorem mem_cut {xs : List Int} {lo hi y : Int} (h : y ∈ cut xs lo hi) : y ∈ xs := List.mem_of_mem_drop (List.mem_of_mem_take h)

theorem sum_replicate (n : Nat) (v : Int) : (List.replicate n v).sum = (n : Int) * v := by
  induction n with
  | zero => simp
  | succ k ih => rw [List.replicate_succ, List.sum_cons, ih, Int.natCast_succ, Int.add_mul]; omega
theorem sum_map_add (xs : List Int) (b : Int) : (xs.map fun x => x + b).sum = xs.sum + (xs.length : Int) * b := by
  induction xs with
  | nil => simp
  | cons x xs ih =>
    rw [List.map_cons, List.sum_cons, ih, List.sum_cons, List.length_cons, Int.natCast_succ, Int.add_mul]
    omega

theorem chg_length {f : Int → Int} : ∀ (xs : List Int) (lo hi : Int), (chg f xs lo hi).length = xs.length
  | [], _, _ => rfl
  | x :: xs, lo, hi => by simp only [chg, List.length_cons, chg_length xs]
theorem chg_append {f : Int → Int} : ∀ (xs ys : List Int) (lo hi : Int), chg f (xs ++ ys) lo hi = chg f xs lo hi ++ chg f ys (lo - (xs.length : Int)) (hi - (xs.length : Int))
  | [], ys, lo, hi => by simp [chg]
  | x :: xs, ys, lo, hi => by
    simp only [List.cons_append, chg, chg_append xs ys, List.length_cons]
    rw [show lo - 1 - (xs.length : Int) = lo - ((xs.length + 1 : Nat) : Int) by omega, show hi - 1 - (xs.length : Int) = hi - ((xs.length + 1 : Nat) : Int) by omega]
theorem chg_none {f : Int → Int} : ∀ (xs : List Int) (lo hi : Int), (hi ≤ lo ∨ hi ≤ 0 ∨ (xs.length : Int) ≤ lo) → chg f xs lo hi = xs
  | [], _, _, _ => rfl
  | x :: xs, lo, hi, h => by
    rw [List.length_cons] at h
    rw [chg, chg_none xs (lo - 1) (hi - 1) (by omega), if_neg (by omega)]
theorem chg_all {f : Int → Int} : ∀ (xs : List Int) (lo hi : Int), lo ≤ 0 → (xs.length : Int) ≤ hi → chg f xs lo hi = xs.map f
  | [], _, _, _, _ => rfl
  | x :: xs, lo, hi, h1, h2 => by
    rw [List.length_cons] at h2
    rw [chg, chg_all xs (lo - 1) (hi - 1) (by omega) (by omega), if_pos (by omega), List.map_cons]
theorem chg_map {f g : Int → Int} {b : Int} (h : ∀ x, f (x + b) = g x + b) : ∀ (xs : List Int) (lo hi : Int), chg f (xs.map fun x => x + b) lo hi = (chg g xs lo hi).map fun x => x + b
  | [], _, _ => rfl
  | x :: xs, lo, hi => by
    simp only [List.map_cons, chg, chg_map h xs]
    split
    · rw [h]
    · rfl
/-- the three parts -/
theorem chg_parts {f : Int → Int} {xs : List Int} {lo hi : Int} (h0 : 0 ≤ lo) (h1 : lo ≤ hi) (h2 : hi ≤ (xs.length : Int)) : chg f xs lo hi = xs.take lo.toNat ++ (cut xs lo hi).map f ++ xs.drop hi.toNat := by
  have e : xs = xs.take lo.toNat ++ (cut xs lo hi ++ xs.drop hi.toNat) := by
    have e1 : xs.drop hi.toNat = (xs.drop lo.toNat).drop (hi.toNat - lo.toNat) := by
      rw [List.drop_drop]
      congr 1
      omega
    unfold cut
    rw [e1, List.take_append_drop, List.take_append_drop]
  have l1 : (xs.take lo.toNat).length = lo.toNat := by rw [List.length_take]; omega
  have l2 := cut_length h0 h1 h2
  conv => lhs; rw [e]
  rw [chg_append, chg_append, chg_none _ lo hi (by omega), chg_all _ _ _ (by omega) (by omega), chg_none _ _ _ (by omega), List.append_assoc]

theorem isMin_unique {m k : Int} {xs : List Int} (a : IsMin m xs) (b : IsMin k xs) : m = k := Int.le_antisymm (a.2 k b.1) (b.2 m a.1)
theorem isMin_append {m k : Int} {xs ys : List Int} (a : IsMin m xs) (b : IsMin k ys) : IsMin (if k < m then k else m) (xs ++ ys) := by
  refine ⟨?_, fun y hy => ?_⟩
  · split
    · exact List.mem_append_right _ b.1
    · exact List.mem_append_left _ a.1
  · rcases List.mem_append.mp hy with h | h
    · have := a.2 y h
      split <;> omega
    · have := b.2 y h
      split <;> omega
theorem isMin_map {m b : Int} {xs : List Int} (a : IsMin m xs) : IsMin (m + b) (xs.map fun x => x + b) := by
  refine ⟨List.mem_map.mpr ⟨m, a.1, rfl⟩, fun y hy => ?_⟩
  obtain ⟨x, hx, rfl⟩ := List.mem_map.mp hy
  have := a.2 x hx
  omega
theorem isMin_replicate {n : Nat} {v : Int} (h : 0 < n) : IsMin v (List.replicate n v) :=
  ⟨List.mem_replicate.mpr ⟨by omega, rfl⟩, fun y hy => by rw [(List.mem_replicate.mp hy).2]; exact Int.le_refl _⟩

theorem fst_none_le {xs : List Int} {lo b : Int} (h : (xs.length : Int) ≤ lo) : fst xs lo b = none := by
  unfold fst
  rw [List.drop_eq_nil_of_le (by omega)]
  rfl
theorem fst_none_gt {xs : List Int} {lo b : Int} (h : ∀ x ∈ xs, b < x) : fst xs lo b = none := by
  unfold fst
  rw [List.findIdx?_eq_none_iff.mpr fun x hx => decide_eq_false (by have := h x (List.mem_of_mem_drop hx); omega)]
  rfl
theorem fst_map {xs : List Int} {lo b c : Int} : fst (xs.map fun x => x + c) lo b = fst xs lo (b - c) := by
  unfold fst
  rw [← List.map_drop, List.findIdx?_map]
  congr 1
  congr 1
  funext x
  simp only [Function.comp]
  rw [decide_eq_decide]
  omega
theorem fst_append {xs ys : List Int} {lo b n : Int} (hn : n = (xs.length : Int)) (h0 : 0 ≤ lo) : fst (xs ++ ys) lo b = match fst xs lo b with
    | some k => some k
    | none => (fst ys (max lo n - n) b).map fun k => n + k := by
  subst hn
  unfold fst
  rw [List.drop_append, List.findIdx?_append]
  cases h : (xs.drop lo.toNat).findIdx? (fun x => decide (x ≤ b)) with
  | some k => simp
  | none =>
    have e : (max lo (xs.length : Int) - (xs.length : Int)).toNat = lo.toNat - xs.length := by omega
    rw [e]
    cases h2 : (ys.drop (lo.toNat - xs.length)).findIdx? (fun x => decide (x ≤ b)) with
    | none => simp
    | some k =>
      simp only [Option.map_some, Option.map_none, Option.none_or, Option.some.injEq, List.length_drop]
      omega
theorem fst_replicate {n : Nat} {v lo b : Int} (h0 : 0 ≤ lo) (h : lo < (n : Int)) (hv : v ≤ b) : fst (List.replicate n v) lo b = some lo := by
  unfold fst
  rw [List.drop_replicate, show n - lo.toNat = (n - lo.toNat - 1) + 1 by omega, List.replicate_succ, List.findIdx?_cons, decide_eq_true hv]
  simp
  omega
end RB
namespace RB
theorem isMin_ex : ∀ {xs : List Int}, xs ≠ [] → ∃ m, IsMin m xs
  | [x], _ => ⟨x, List.mem_singleton.mpr rfl, fun y hy => by rw [List.mem_singleton.mp hy]; exact Int.le_refl _⟩
  | x :: y :: r, _ => by
    obtain ⟨m, hm⟩ := isMin_ex (xs := y :: r) (by simp)
    have h : IsMin x [x] := ⟨List.mem_singleton.mpr rfl, fun z hz => by rw [List.mem_singleton.mp hz]; exact Int.le_refl _⟩
    exact ⟨_, isMin_append h hm⟩
theorem cut_ne {xs : List Int} {lo hi : Int} (h0 : 0 ≤ lo) (h : lo < hi) (h2 : hi ≤ (xs.length : Int)) : cut xs lo hi ≠ [] := fun e => by
  have := cut_length h0 (by omega) h2
  rw [e] at this
  simp at this
  omega
end RB
set_option autoImplicit false
/-! trees -/
namespace RB
inductive T where
  | leaf (n v : Int)
  | node (l r : T) (b : Int)
namespace T
def many : T → Int
  | leaf n _ => n
  | node l r _ => l.many + r.many
def total : T → Int
  | leaf n v => n * v
  | node l r b => l.total + r.total + (l.many + r.many) * b
def least : T → Int
  | leaf _ v => v
  | node l r b => (if r.least < l.least then r.least else l.least) + b
def row : T → List Int
  | leaf n v => List.replicate n.toNat v
  | node l r b => (l.row ++ r.row).map fun x => x + b
def Ok : Nat → T → Prop
  | d, leaf n _ => 0 ≤ n ∧ n ≤ (2 : Int) ^ d
  | 0, node _ _ _ => False
  | d + 1, node l r _ => l.Ok d ∧ r.Ok d ∧ 1 ≤ l.many ∧ 1 ≤ r.many
end T
theorem pow2_pos (d : Nat) : (0 : Int) < 2 ^ d := Int.pow_pos (by decide)
theorem pow2_succ (d : Nat) : (2 : Int) ^ (d + 1) = 2 * 2 ^ d := by rw [Int.pow_succ]; omega
theorem T.Ok.mono : ∀ {t : T} {d : Nat}, t.Ok d → t.Ok (d + 1)
  | .leaf n v, d, h => by
    have h : 0 ≤ n ∧ n ≤ (2 : Int) ^ d := by cases d <;> exact h
    refine ⟨h.1, ?_⟩
    have := pow2_pos d
    rw [pow2_succ]
    omega
  | .node l r b, 0, h => h.elim
  | .node l r b, d + 1, h => ⟨T.Ok.mono h.1, T.Ok.mono h.2.1, h.2.2⟩
theorem T.Ok.le {t : T} {d e : Nat} (h : t.Ok d) (x : d ≤ e) : t.Ok e := by
  induction x with
  | refl => exact h
  | step _ ih => exact ih.mono
theorem T.ok_leaf {d : Nat} {n v : Int} : (T.leaf n v).Ok d ↔ 0 ≤ n ∧ n ≤ (2 : Int) ^ d := by cases d <;> exact Iff.rfl
theorem T.Ok.many0 : ∀ {t : T} {d : Nat}, t.Ok d → 0 ≤ t.many
  | .leaf n v, d, h => (T.ok_leaf.mp h).1
  | .node l r b, 0, h => h.elim
  | .node l r b, d + 1, h => by
    have h1 := h.2.2.1
    have h2 := h.2.2.2
    show 0 ≤ l.many + r.many
    omega
theorem T.Ok.many_le : ∀ {t : T} {d : Nat}, t.Ok d → t.many ≤ (2 : Int) ^ d
  | .leaf n v, d, h => (T.ok_leaf.mp h).2
  | .node l r b, 0, h => h.elim
  | .node l r b, d + 1, h => by
    have h1 := T.Ok.many_le h.1
    have h2 := T.Ok.many_le h.2.1
    show l.many + r.many ≤ _
    rw [pow2_succ]
    omega
theorem T.Ok.length : ∀ {t : T} {d : Nat}, t.Ok d → (t.row.length : Int) = t.many
  | .leaf n v, d, h => by
    have := (T.ok_leaf.mp h).1
    show ((List.replicate n.toNat v).length : Int) = n
    rw [List.length_replicate]
    omega
  | .node l r b, 0, h => h.elim
  | .node l r b, d + 1, h => by
    have h1 := T.Ok.length h.1
    have h2 := T.Ok.length h.2.1
    show (((l.row ++ r.row).map fun x => x + b).length : Int) = l.many + r.many
    rw [List.length_map, List.length_append]
    omega
theorem T.Ok.sum : ∀ {t : T} {d : Nat}, t.Ok d → t.row.sum = t.total
  | .leaf n v, d, h => by
    have := (T.ok_leaf.mp h).1
    show (List.replicate n.toNat v).sum = n * v
    rw [sum_replicate, show ((n.toNat : Nat) : Int) = n by omega]
  | .node l r b, 0, h => h.elim
  | .node l r b, d + 1, h => by
    have h1 := T.Ok.sum h.1
    have h2 := T.Ok.sum h.2.1
    have l1 := T.Ok.length h.1
    have l2 := T.Ok.length h.2.1
    show ((l.row ++ r.row).map fun x => x + b).sum = l.total + r.total + (l.many + r.many) * b
    rw [sum_map_add, List.sum_append, h1, h2, List.length_append, Int.natCast_add, l1, l2]
theorem T.Ok.isMin : ∀ {t : T} {d : Nat}, t.Ok d → 1 ≤ t.many → IsMin t.least t.row
  | .leaf n v, d, h, h1 => isMin_replicate (by have : 1 ≤ n := h1; omega)
  | .node l r b, 0, h, _ => h.elim
  | .node l r b, d + 1, h, _ => isMin_map (isMin_append (T.Ok.isMin h.1 h.2.2.1) (T.Ok.isMin h.2.1 h.2.2.2))

/-! the parts of a node -/
section
variable {l r : T} {b lo hi : Int} {d : Nat}
theorem cut_node (h : (T.node l r b).Ok (d + 1)) (h0 : 0 ≤ lo) : cut (T.node l r b).row lo hi = (cut l.row lo (min hi l.many) ++ cut r.row (max lo l.many - l.many) (hi - l.many)).map fun x => x + b := by
  show cut ((l.row ++ r.row).map fun x => x + b) lo hi = _
  rw [cut_map, cut_append (h.1.length).symm h0]
theorem cut_node_left (h : (T.node l r b).Ok (d + 1)) (h0 : 0 ≤ lo) (h1 : hi ≤ l.many) : cut (T.node l r b).row lo hi = (cut l.row lo hi).map fun x => x + b := by
  rw [cut_node h h0, Int.min_eq_left h1, cut_nil (xs := r.row) (by omega), List.append_nil]
theorem cut_node_right (h : (T.node l r b).Ok (d + 1)) (h0 : 0 ≤ lo) (h1 : l.many ≤ lo) : cut (T.node l r b).row lo hi = (cut r.row (lo - l.many) (hi - l.many)).map fun x => x + b := by
  rw [cut_node h h0, cut_nil (xs := l.row) (by omega), List.nil_append, Int.max_eq_left h1]
theorem sum_node (h : (T.node l r b).Ok (d + 1)) (h0 : 0 ≤ lo) (h1 : lo ≤ hi) (h2 : hi ≤ l.many + r.many) :
    (cut (T.node l r b).row lo hi).sum = (cut l.row lo (min hi l.many)).sum + (cut r.row (max lo l.many - l.many) (hi - l.many)).sum + b * (hi - lo) := by
  have e := congrArg List.length (cut_node (lo := lo) (hi := hi) h h0)
  have e2 := cut_length (xs := (T.node l r b).row) h0 h1 (by rw [h.length]; exact h2)
  rw [List.length_map] at e
  rw [cut_node h h0, sum_map_add, List.sum_append, ← e, e2, Int.mul_comm]
theorem fst_node {bd : Int} (h : (T.node l r b).Ok (d + 1)) (h0 : 0 ≤ lo) : fst (T.node l r b).row lo bd = match fst l.row lo (bd - b) with
    | some k => some k
    | none => (fst r.row (max lo l.many - l.many) (bd - b)).map fun k => l.many + k := by
  show fst ((l.row ++ r.row).map fun x => x + b) lo bd = _
  rw [fst_map, fst_append (h.1.length).symm h0] <;> rfl
theorem chg_node {f g : Int → Int} (hf : ∀ x, f (x + b) = g x + b) (h : (T.node l r b).Ok (d + 1)) : chg f (T.node l r b).row lo hi = (chg g l.row lo hi ++ chg g r.row (lo - l.many) (hi - l.many)).map fun x => x + b := by
  show chg f ((l.row ++ r.row).map fun x => x + b) lo hi = _
  rw [chg_map hf, chg_append, h.1.length]
end
/-! a leaf halved -/
theorem row_parted {n v : Int} (h : 0 ≤ n) : (T.node (.leaf (n / 2) v) (.leaf (n - n / 2) v) 0).row = (T.leaf n v).row := by
  show (List.replicate (n / 2).toNat v ++ List.replicate (n - n / 2).toNat v).map (fun x => x + 0) = List.replicate n.toNat v
  rw [List.replicate_append_replicate]
  simp only [Int.add_zero, List.map_id']
  congr 1
  omega
theorem parted_ok {n v : Int} {d : Nat} (h : (T.leaf n v).Ok d) (h2 : 2 ≤ n) : ∃ e, d = e + 1 ∧ (T.node (.leaf (n / 2) v) (.leaf (n - n / 2) v) 0).Ok (e + 1) := by
  have hk := T.ok_leaf.mp h
  cases d with
  | zero =>
    have : n ≤ 1 := hk.2
    omega
  | succ e =>
    refine ⟨e, rfl, T.ok_leaf.mpr ?_, T.ok_leaf.mpr ?_, ?_, ?_⟩
    · have := hk.2
      rw [pow2_succ] at this
      omega
    · have := hk.2
      rw [pow2_succ] at this
      omega
    · show 1 ≤ n / 2
      omega
    · show 1 ≤ n - n / 2
      omega
theorem row_raised {l r : T} {b by_ : Int} : (T.node l r (b + by_)).row = ((T.node l r b).row).map fun x => x + by_ := by
  show (l.row ++ r.row).map (fun x => x + (b + by_)) = ((l.row ++ r.row).map fun x => x + b).map fun x => x + by_
  rw [List.map_map]
  congr 1
  funext x
  simp only [Function.comp]
  omega
theorem row_leaf_raised {n v by_ : Int} : (T.leaf n (v + by_)).row = ((T.leaf n v).row).map fun x => x + by_ := by
  show List.replicate n.toNat (v + by_) = (List.replicate n.toNat v).map fun x => x + by_
  rw [List.map_replicate]
theorem row_leaf_filled {n v : Int} {xs : List Int} (h : (xs.length : Int) = n) : (T.leaf n v).row = xs.map fun _ => v := by
  show List.replicate n.toNat v = _
  rw [List.map_const', show n.toNat = xs.length by omega]
end RB
set_option autoImplicit false
/-! rows walked from place to place -/
namespace RB
theorem drop_at {xs : List Int} {lo : Int} {i : Nat} (h0 : 0 ≤ lo) : (xs.drop lo.toNat)[i]? = xs[(lo + (i : Int)).toNat]? := by
  rw [List.getElem?_drop]
  congr 1
  omega
theorem fst_found {xs : List Int} {lo b : Int} {i : Nat} {y : Int} (h0 : 0 ≤ lo) (hy : (xs.drop lo.toNat)[i]? = some y) (hall : ∀ x ∈ (xs.drop lo.toNat).take i, b < x) (hyb : y ≤ b) : fst xs lo b = some (lo + i) := by
  unfold fst
  obtain ⟨hi, hy⟩ := List.getElem?_eq_some_iff.mp hy
  have h : (xs.drop lo.toNat).findIdx? (fun x => decide (x ≤ b)) = some i := by
    rw [List.findIdx?_eq_some_iff_getElem]
    refine ⟨hi, decide_eq_true (by rw [hy]; exact hyb), fun j hj => ?_⟩
    have hm : (xs.drop lo.toNat)[j] ∈ (xs.drop lo.toNat).take i := by
      rw [List.mem_take_iff_getElem]
      exact ⟨j, by omega, rfl⟩
    have := hall _ hm
    simp only [decide_eq_true_eq]
    omega
  rw [h]
  simp only [Option.map_some, Option.some.injEq]
  omega
theorem fst_missing {xs : List Int} {lo b : Int} (hall : ∀ x ∈ xs.drop lo.toNat, b < x) : fst xs lo b = none := by
  unfold fst
  rw [List.findIdx?_eq_none_iff.mpr fun x hx => decide_eq_false (by have := hall x hx; omega)]
  rfl
/-- behind i turns: the least number so far is m, first at the place a -/
structure AtMin (row : List Int) (lo : Int) (i : Nat) (a m : Int) : Prop where
  a0 : lo ≤ a
  a1 : a < lo + i ∨ a = lo
  at_ : row[a.toNat]? = some m
  le : ∀ x ∈ (row.drop lo.toNat).take i, m ≤ x
  lt : ∀ x ∈ (row.drop lo.toNat).take (a - lo).toNat, m < x
theorem AtMin.start {row : List Int} {lo m : Int} (h : row[lo.toNat]? = some m) : AtMin row lo 0 lo m :=
  ⟨Int.le_refl _, .inr rfl, h, fun x hx => by simp at hx, fun x hx => by simp at hx⟩
theorem mem_take_succ {xs : List Int} {i : Nat} {x y : Int} (hy : xs[i]? = some y) (h : x ∈ xs.take (i + 1)) : x ∈ xs.take i ∨ x = y := by
  rw [List.take_succ, hy] at h
  rcases List.mem_append.mp h with h | h
  · exact .inl h
  · exact .inr (by simpa using h)
theorem AtMin.lower {row : List Int} {lo a m y : Int} {i : Nat} (h0 : 0 ≤ lo) (h : AtMin row lo i a m) (hy : row[(lo + (i : Int)).toNat]? = some y) (c : y < m) : AtMin row lo (i + 1) (lo + i) y := by
  have hy' : (row.drop lo.toNat)[i]? = some y := by rw [drop_at h0]; exact hy
  refine ⟨by omega, .inl (by omega), hy, fun x hx => ?_, fun x hx => ?_⟩
  · rcases mem_take_succ hy' hx with hx | rfl
    · have := h.le x hx
      omega
    · exact Int.le_refl _
  · rw [show (lo + (i : Int) - lo).toNat = i by omega] at hx
    have := h.le x hx
    omega
theorem AtMin.stay {row : List Int} {lo a m y : Int} {i : Nat} (h0 : 0 ≤ lo) (h : AtMin row lo i a m) (hy : row[(lo + (i : Int)).toNat]? = some y) (c : m ≤ y) : AtMin row lo (i + 1) a m := by
  have hy' : (row.drop lo.toNat)[i]? = some y := by rw [drop_at h0]; exact hy
  refine ⟨h.a0, ?_, h.at_, fun x hx => ?_, h.lt⟩
  · have := h.a1
    omega
  · rcases mem_take_succ hy' hx with hx | rfl
    · exact h.le x hx
    · exact c
theorem AtMin.fin {row : List Int} {lo hi a m : Int} (h0 : 0 ≤ lo) (h1 : lo < hi) (h2 : hi ≤ (row.length : Int)) (h : AtMin row lo (hi - lo).toNat a m) : IsMin m (cut row lo hi) ∧ fst row lo m = some a ∧ a < hi := by
  have ha := h.a0
  have ha2 : a < hi := by have := h.a1; omega
  have e : cut row lo hi = (row.drop lo.toNat).take (hi - lo).toNat := by
    unfold cut
    congr 1
    omega
  have hat : (row.drop lo.toNat)[(a - lo).toNat]? = some m := by
    rw [drop_at h0, show (lo + (((a - lo).toNat : Nat) : Int)).toNat = a.toNat by omega]
    exact h.at_
  refine ⟨⟨?_, ?_⟩, ?_, ha2⟩
  · rw [e]
    have hat2 : ((row.drop lo.toNat).take (hi - lo).toNat)[(a - lo).toNat]? = some m := by
      rw [List.getElem?_take_of_lt (by omega)]
      exact hat
    exact List.mem_of_getElem? hat2
  · rw [e]
    exact h.le
  · have := fst_found h0 hat h.lt (Int.le_refl m)
    rw [this]
    congr 1
    omega
end RB
/-! evaluation in one judgement: an expression, the slots, the heap that is known, what comes of it -/
namespace RB
open PySem L2 PyProof.Rows
open Evl (Ex)
theorem _root_.Evl.Ex.fresh {H H' : Hp} {p : Addr} (e : Ex H H') (h : H' p = none) : H p = none := by
  cases h1 : H p with
  | none => rfl
  | some o =>
    rw [e p o h1] at h
    cases h
theorem _root_.Evl.Ex.rd {H H' : Hp} {a : Addr} {u : HO} (e : Ex H H') (h : Rd H a u) : Rd H' a u := by
  rcases h with h | ⟨o, h⟩
  · exact Or.inl (e a _ h)
  · exact Or.inr ⟨o, e a _ h⟩
theorem _root_.Evl.Ex.l {K : PySem.W.Frag} {H H' : Hp} {a : Addr} {xs : List V} (e : Ex H H') (h : SqL K H a xs) : SqL K H' a xs := by
  rcases h with h | h
  · exact Or.inl (e.rd h)
  · exact Or.inr h
theorem _root_.Evl.Ex.t {K : PySem.W.Frag} {H H' : Hp} {a : Addr} {xs : List V} (e : Ex H H') (h : SqT K H a xs) : SqT K H' a xs := by
  rcases h with h | h
  · exact Or.inl (e.rd h)
  · exact Or.inr h
/-- small sizes -/
theorem sz {n : Nat} (h : n ≤ 1000000) : n ≤ sizeLine := Nat.le_trans h (by rw [sizeLine_eq]; decide)
theorem sz_lt {n : Nat} (h : n < 1000000) : n < sizeLine := Nat.lt_of_lt_of_le h (by rw [sizeLine_eq]; decide)

/-! ### what comes of an expression: of the heap ahead, the value, the heap behind -/
abbrev Rk := Hp → V → Hp → Prop
class RM (R : Rk) : Prop where
  m : ∀ {H0 H1 H2 H3 : Hp} {v : V}, Ex H0 H1 → Ex H2 H3 → R H1 v H2 → R H0 v H3
/-- the value v -/
def Is (v : V) : Rk := fun _ u _ => u = v
/-- a new list, a new tuple -/
def NL (xs : List V) : Rk := fun H1 u H2 => ∃ p, u = .ref p ∧ H1 p = none ∧ H2 p = some (.lst xs)
def NT (xs : List V) : Rk := fun H1 u H2 => ∃ p, u = .ref p ∧ H1 p = none ∧ H2 p = some (.tup xs)
/-- something that stays true of the value -/
def Of (P : Hp → V → Prop) : Rk := fun _ u H2 => P H2 u
class PM (P : Hp → V → Prop) : Prop where
  m : ∀ {H H' : Hp} {v : V}, Ex H H' → P H v → P H' v
instance (v : V) : RM (Is v) := ⟨fun _ _ h => h⟩
instance (xs : List V) : RM (NL xs) := ⟨fun e0 e2 ⟨p, h1, h2, h3⟩ => ⟨p, h1, e0.fresh h2, e2 _ _ h3⟩⟩
instance (xs : List V) : RM (NT xs) := ⟨fun e0 e2 ⟨p, h1, h2, h3⟩ => ⟨p, h1, e0.fresh h2, e2 _ _ h3⟩⟩
instance (P : Hp → V → Prop) [q : PM P] : RM (Of P) := ⟨fun _ e2 h => q.m e2 h⟩
def AllR : List Rk → Hp → List V → Hp → Prop
  | [], _, vs, _ => vs = []
  | R :: Rs, H1, vs, H2 => ∃ v r, vs = v :: r ∧ R H1 v H2 ∧ AllR Rs H1 r H2

class RMs (Rs : List Rk) : Prop where
  m : ∀ {H0 H1 H2 H3 : Hp} {vs : List V}, Ex H0 H1 → Ex H2 H3 → AllR Rs H1 vs H2 → AllR Rs H0 vs H3
instance : RMs [] := ⟨fun _ _ h => h⟩
instance (R : Rk) (Rs : List Rk) [q : RM R] [q1 : RMs Rs] : RMs (R :: Rs) := ⟨fun e0 e2 ⟨v, r, h, h1, h2⟩ => ⟨v, r, h, q.m e0 e2 h1, q1.m e0 e2 h2⟩⟩

def tE (σ : L2.St) (H : Hp) (R : Rk) : TE := fun σ' H' Q => σ' = σ ∧ Ex H H' ∧ ∀ v H2, Ex H' H2 → R H' v H2 → Q v H2
def tT (σ : L2.St) (H : Hp) (b : Bool) : TT := fun σ' H' Q => σ' = σ ∧ Ex H H' ∧ ∀ H2, Ex H' H2 → Q b H2
def tV (σ : L2.St) (H : Hp) (vs : List V) : TA := fun σ' H' Q => σ' = σ ∧ Ex H H' ∧ ∀ H2, Ex H' H2 → Q vs H2
def tA (σ : L2.St) (H : Hp) (Rs : List Rk) : TA := fun σ' H' Q => σ' = σ ∧ Ex H H' ∧ ∀ vs H2, Ex H' H2 → AllR Rs H' vs H2 → Q vs H2
def tO (σ : L2.St) (H : Hp) (o : Option Int) : TO := fun σ' H' Q => σ' = σ ∧ Ex H H' ∧ ∀ H2, Ex H' H2 → Q o H2
def EX (X : Cx) (e : Expr) (σ : L2.St) (H : Hp) (R : Rk) : Prop := PE X e (tE σ H R)
def TX (X : Cx) (e : Expr) (σ : L2.St) (H : Hp) (b : Bool) : Prop := PT X e (tT σ H b)
/-- and, or: whatever the whole is -/
def WX' (X : Cx) (e : Expr) (σ : L2.St) (H : Hp) (b : Bool) : Prop := PW X e (tT σ H b)
def AV (X : Cx) (es : List Expr) (σ : L2.St) (H : Hp) (vs : List V) : Prop := PA X es (tV σ H vs)
def AX (X : Cx) (es : List Expr) (σ : L2.St) (H : Hp) (Rs : List Rk) : Prop := PA X es (tA σ H Rs)

theorem PE.weak {X : Cx} {e : Expr} {t u : TE} (h : PE X e t) (w : ∀ σ H Q, u σ H Q → t σ H Q) : PE X e u := ⟨fun pins s σ H Q I q => h.run pins s σ H Q I (w σ H Q q)⟩
theorem PT.weak {X : Cx} {e : Expr} {t u : TT} (h : PT X e t) (w : ∀ σ H Q, u σ H Q → t σ H Q) : PT X e u := ⟨fun pins s σ H Q I q => h.run pins s σ H Q I (w σ H Q q)⟩
theorem PA.weak {X : Cx} {e : List Expr} {t u : TA} (h : PA X e t) (w : ∀ σ H Q, u σ H Q → t σ H Q) : PA X e u := ⟨fun pos pins s σ H Q I q => h.run pos pins s σ H Q I (w σ H Q q)⟩
theorem PS.weak {X : Cx} {e : Stmt} {t u : TS} (h : PS X e t) (w : ∀ D σ H, u D σ H → t D σ H) : PS X e u := ⟨fun pins s σ H D I q => h.run pins s σ H D I (w D σ H q)⟩
theorem PSs.weak {X : Cx} {e : List Stmt} {t u : TS} (h : PSs X e t) (w : ∀ D σ H, u D σ H → t D σ H) : PSs X e u := ⟨fun pins s σ H D I q => h.run pins s σ H D I (w D σ H q)⟩

section
variable {X : Cx} {a b c e : Expr} {es : List Expr} {σ : L2.St} {H : Hp} {R Ra Rb : Rk} {Rs : List Rk} {pos : Pos} {i j : Int} {x y v : V} {vs : List V}

/-- what is known of the value may be said anew -/
theorem EX.mono {R' : Rk} (h : EX X e σ H R) (w : ∀ H1 v H2, Ex H H1 → Ex H1 H2 → R H1 v H2 → R' H1 v H2) : EX X e σ H R' := PE.weak h fun σ' H' Q ⟨e1, e2, q⟩ => ⟨e1, e2, fun v H2 x r => q v H2 x (w _ _ _ e2 x r)⟩
theorem EX.is {u : V} (h : EX X e σ H (Is v)) (w : v = u) : EX X e σ H (Is u) := w ▸ h
theorem TX.is {k k' : Bool} (h : TX X e σ H k) (w : k = k') : TX X e σ H k' := w ▸ h
/-- a value: a rule whose reading asks nothing of the heap -/
theorem ex_val {t : TE} (h : PE X e t) (w : ∀ H' Q, Ex H H' → (∀ H2, Ex H' H2 → Q v H2) → t σ H' Q) : EX X e σ H (Is v) := PE.weak h fun σ' H' Q ⟨e1, e2, q⟩ => by
  subst e1
  exact w H' Q e2 fun H2 x => q v H2 x rfl

theorem ex_var (k : Nat) {n : Str} (hN : X.N[k]? = some n := by rfl) (hv : Vis X.env.scope n := by first | exact Or.inl rfl | exact Or.inr (Or.inl rfl) | exact Or.inr (Or.inr rfl)) (h : σ[k]? = some (some v) := by rfl)
    (hd : (n == ("__debug__" : Str)) = false := by decide) (hcd : (n == ("__classdict__" : Str)) = false := by decide) : EX X (.Name n pos) σ H (Is v) :=
  ex_val (pe_var hN hv hd hcd) fun H' _ _ q => ⟨v, h, q H' (Ex.refl H')⟩
theorem ex_int {k : Int} {m : Option Str} : True := trivial
theorem ex_i {k m} : EX X (.Constant (.int k) m pos) σ H (Is (.int k)) := ex_val pe_int fun H' _ _ q => q H' (Ex.refl H')
theorem ex_b {k m} : EX X (.Constant (.bool k) m pos) σ H (Is (.bl k)) := ex_val pe_bl fun H' _ _ q => q H' (Ex.refl H')
theorem ex_n {m} : EX X (.Constant .none m pos) σ H (Is .non) := ex_val pe_non fun H' _ _ q => q H' (Ex.refl H')
theorem ex_s {k m} : EX X (.Constant (.str k) m pos) σ H (Is (.str k)) := ex_val pe_str fun H' _ _ q => q H' (Ex.refl H')
theorem ex_glob {n : Str} {u : Value} (hg : Gl X n) (hm : X.mg n = some u) (r : RelV v u) (hd : (n == ("__debug__" : Str)) = false := by decide) : EX X (.Name n pos) σ H (Is v) := ex_val (pe_glob hg hm r hd) fun H' _ _ q => q H' (Ex.refl H')
theorem ex_bltn {n : Str} {u : Value} (hg : Gl X n) (hm : X.mg n = none) (hv : bootBuiltins n = some u) (r : RelV v u) (hn : n ≠ "__name__" := by decide) (hd : (n == ("__debug__" : Str)) = false := by decide) : EX X (.Name n pos) σ H (Is v) := ex_val (pe_bltn hg hm hv r hn hd) fun H' _ _ q => q H' (Ex.refl H')

/-- a two-place operation on two values -/
theorem ex_op {op : Operator} {r : R2} {Q' : Rk} (ho : OpR X (binaryOp op) r) (ha : EX X a σ H (Is x)) (hb : EX X b σ H (Is y)) (hr : ∀ H1 Q, Ex H H1 → (∀ v H2, Ex H1 H2 → Q' H1 v H2 → Q v H2) → r x y H1 Q) [q : RM Q'] : EX X (.BinOp a op b pos) σ H Q' :=
  PE.weak (pe_op ho ha hb) fun σ' H' Q ⟨e1, e2, q'⟩ => ⟨e1, e2, fun u H2 x2 hu => ⟨e1, e2.trans x2, fun u' H3 x3 hu' => by
    cases hu
    cases hu'
    exact hr H3 Q (e2.trans (x2.trans x3)) fun v H4 x4 z => q' v H4 (x2.trans (x3.trans x4)) (q.m (x2.trans x3) (Ex.refl _) z)⟩⟩
theorem ex_opI {op : Operator} {f : Int → Int → V} (ho : OpR X (binaryOp op) (rI0 f)) (ha : EX X a σ H (Is (.int i))) (hb : EX X b σ H (Is (.int j))) : EX X (.BinOp a op b pos) σ H (Is (f i j)) :=
  ex_op ho ha hb fun H1 _ _ q => ⟨i, j, rfl, rfl, q _ H1 (Ex.refl H1) rfl⟩
theorem ex_opC {op : Operator} {C : Int → Int → Prop} {f : Int → Int → V} (ho : OpR X (binaryOp op) (rI C f)) (ha : EX X a σ H (Is (.int i))) (hb : EX X b σ H (Is (.int j))) (hc : C i j) : EX X (.BinOp a op b pos) σ H (Is (f i j)) :=
  ex_op ho ha hb fun H1 _ _ q => ⟨i, j, rfl, rfl, hc, q _ H1 (Ex.refl H1) rfl⟩
theorem ex_add (ha : EX X a σ H (Is (.int i))) (hb : EX X b σ H (Is (.int j))) : EX X (.BinOp a .Add b pos) σ H (Is (.int (i + j))) := ex_opI op_add ha hb
theorem ex_sub (ha : EX X a σ H (Is (.int i))) (hb : EX X b σ H (Is (.int j))) : EX X (.BinOp a .Sub b pos) σ H (Is (.int (i - j))) := ex_opI op_sub ha hb
theorem ex_mulL (ha : EX X a σ H (Is (.int i))) (hb : EX X b σ H (Is (.int j))) (hc : -(2 ^ 64) < i ∧ i < 2 ^ 64) : EX X (.BinOp a .Mult b pos) σ H (Is (.int (i * j))) := ex_opC op_mul ha hb (Or.inl hc)
theorem ex_mulR (ha : EX X a σ H (Is (.int i))) (hb : EX X b σ H (Is (.int j))) (hc : -(2 ^ 64) < j ∧ j < 2 ^ 64) : EX X (.BinOp a .Mult b pos) σ H (Is (.int (i * j))) := ex_opC op_mul ha hb (Or.inr hc)
theorem ex_fdiv (ha : EX X a σ H (Is (.int i))) (hb : EX X b σ H (Is (.int j))) (hc : 0 < j ∧ j < 1073741824) : EX X (.BinOp a .FloorDiv b pos) σ H (Is (.int (i / j))) := ex_opC op_fdiv ha hb hc
theorem ex_mod (ha : EX X a σ H (Is (.int i))) (hb : EX X b σ H (Is (.int j))) (hc : 0 < j) : EX X (.BinOp a .Mod b pos) σ H (Is (.int (i % j))) := ex_opC op_mod ha hb hc
theorem ex_pow (ha : EX X a σ H (Is (.int i))) (hb : EX X b σ H (Is (.int j))) (hc : 0 ≤ j ∧ j ≤ 1000000 ∧ i.natAbs < 2 ^ 64) : EX X (.BinOp a .Pow b pos) σ H (Is (.int (i ^ j.toNat))) := ex_opC op_pow ha hb hc
theorem ex_neg (ha : EX X a σ H (Is (.int i))) : EX X (.UnaryOp .USub a pos) σ H (Is (.int (-i))) :=
  PE.weak (pe_un un_neg ha) fun σ' H' Q ⟨e1, e2, q'⟩ => ⟨e1, e2, fun u H2 x2 hu => by
    cases hu
    exact ⟨i, rfl, q' _ H2 x2 rfl⟩⟩

/-- a comparison of two values, as a value, as a test -/
theorem ex_cmp {op : CmpOp} {r : R2} {k : Bool} (ho : OpR X (compareOp op) r) (hm : behindInMarks op b = false) (ha : EX X a σ H (Is x)) (hb : EX X b σ H (Is y)) (hr : ∀ H1 Q, Ex H H1 → Q (.bl k) H1 → r x y H1 Q) : EX X (.Compare a [op] [b] pos) σ H (Is (.bl k)) :=
  PE.weak (pe_cmpR ho ha hb hm) fun σ' H' Q ⟨e1, e2, q'⟩ => ⟨e1, e2, fun u H2 x2 hu => ⟨e1, e2.trans x2, fun u' H3 x3 hu' => by
    cases hu
    cases hu'
    exact hr H3 Q (e2.trans (x2.trans x3)) (q' _ H3 (x2.trans x3) rfl)⟩⟩
theorem tx_cmp {op : CmpOp} {r : R2} {k : Bool} (ho : OpR X (compareOp op) r) (hm : behindInMarks op b = false) (ha : EX X a σ H (Is x)) (hb : EX X b σ H (Is y)) (hr : ∀ H1 Q, Ex H H1 → Q (.bl k) H1 → r x y H1 Q) : TX X (.Compare a [op] [b] pos) σ H k :=
  PT.weak (pt_cmpR ho ha hb hm) fun σ' H' Q ⟨e1, e2, q'⟩ => ⟨e1, e2, fun u H2 x2 hu => ⟨e1, e2.trans x2, fun u' H3 x3 hu' => by
    cases hu
    cases hu'
    exact hr H3 _ (e2.trans (x2.trans x3)) ⟨k, rfl, q' H3 (x2.trans x3)⟩⟩⟩
theorem tx_opI {op : CmpOp} {f : Int → Int → Bool} (ho : OpR X (compareOp op) (rI0 fun i j => .bl (f i j))) (hm : behindInMarks op b = false) (ha : EX X a σ H (Is (.int i))) (hb : EX X b σ H (Is (.int j))) : TX X (.Compare a [op] [b] pos) σ H (f i j) :=
  tx_cmp ho hm ha hb fun H1 _ _ q => ⟨i, j, rfl, rfl, q⟩
theorem tx_lt (ha : EX X a σ H (Is (.int i))) (hb : EX X b σ H (Is (.int j))) : TX X (.Compare a [.Lt] [b] pos) σ H (decide (i < j)) := tx_opI op_lt (nomark _) ha hb
theorem tx_le (ha : EX X a σ H (Is (.int i))) (hb : EX X b σ H (Is (.int j))) : TX X (.Compare a [.LtE] [b] pos) σ H (decide (i ≤ j)) := tx_opI op_le (nomark _) ha hb
theorem tx_gt (ha : EX X a σ H (Is (.int i))) (hb : EX X b σ H (Is (.int j))) : TX X (.Compare a [.Gt] [b] pos) σ H (decide (j < i)) := tx_opI op_gt (nomark _) ha hb
theorem tx_ge (ha : EX X a σ H (Is (.int i))) (hb : EX X b σ H (Is (.int j))) : TX X (.Compare a [.GtE] [b] pos) σ H (decide (j ≤ i)) := tx_opI op_ge (nomark _) ha hb
theorem ex_opIb {op : CmpOp} {f : Int → Int → Bool} (ho : OpR X (compareOp op) (rI0 fun i j => .bl (f i j))) (hm : behindInMarks op b = false) (ha : EX X a σ H (Is (.int i))) (hb : EX X b σ H (Is (.int j))) : EX X (.Compare a [op] [b] pos) σ H (Is (.bl (f i j))) :=
  ex_cmp ho hm ha hb fun H1 _ _ q => ⟨i, j, rfl, rfl, q⟩
theorem ex_lt (ha : EX X a σ H (Is (.int i))) (hb : EX X b σ H (Is (.int j))) : EX X (.Compare a [.Lt] [b] pos) σ H (Is (.bl (decide (i < j)))) := ex_opIb op_lt (nomark _) ha hb
theorem ex_le (ha : EX X a σ H (Is (.int i))) (hb : EX X b σ H (Is (.int j))) : EX X (.Compare a [.LtE] [b] pos) σ H (Is (.bl (decide (i ≤ j)))) := ex_opIb op_le (nomark _) ha hb
theorem ex_gt (ha : EX X a σ H (Is (.int i))) (hb : EX X b σ H (Is (.int j))) : EX X (.Compare a [.Gt] [b] pos) σ H (Is (.bl (decide (j < i)))) := ex_opIb op_gt (nomark _) ha hb
theorem ex_ge (ha : EX X a σ H (Is (.int i))) (hb : EX X b σ H (Is (.int j))) : EX X (.Compare a [.GtE] [b] pos) σ H (Is (.bl (decide (j ≤ i)))) := ex_opIb op_ge (nomark _) ha hb
/-- == and != of scalars -/
theorem tx_eq (ha : EX X a σ H (Is x)) (hb : EX X b σ H (Is y)) (hs : scal x y = true := by rfl) : TX X (.Compare a [.Eq] [b] pos) σ H (decide (x = y)) := tx_cmp op_eq (nomark _) ha hb fun _ _ _ q => ⟨hs, q⟩
theorem tx_ne (ha : EX X a σ H (Is x)) (hb : EX X b σ H (Is y)) (hs : scal x y = true := by rfl) : TX X (.Compare a [.NotEq] [b] pos) σ H (!decide (x = y)) := tx_cmp op_ne (nomark _) ha hb fun _ _ _ q => ⟨hs, q⟩
theorem ex_eq (ha : EX X a σ H (Is x)) (hb : EX X b σ H (Is y)) (hs : scal x y = true := by rfl) : EX X (.Compare a [.Eq] [b] pos) σ H (Is (.bl (decide (x = y)))) := ex_cmp op_eq (nomark _) ha hb fun _ _ _ q => ⟨hs, q⟩
theorem ex_ne (ha : EX X a σ H (Is x)) (hb : EX X b σ H (Is y)) (hs : scal x y = true := by rfl) : EX X (.Compare a [.NotEq] [b] pos) σ H (Is (.bl (!decide (x = y)))) := ex_cmp op_ne (nomark _) ha hb fun _ _ _ q => ⟨hs, q⟩
theorem dec_int {m n : Int} : decide (V.int m = V.int n) = decide (m = n) := by rw [decide_eq_decide]; exact ⟨fun h => by injection h, fun h => by rw [h]⟩
theorem tx_eqI (ha : EX X a σ H (Is (.int i))) (hb : EX X b σ H (Is (.int j))) : TX X (.Compare a [.Eq] [b] pos) σ H (decide (i = j)) := (tx_eq ha hb).is dec_int
theorem tx_neI (ha : EX X a σ H (Is (.int i))) (hb : EX X b σ H (Is (.int j))) : TX X (.Compare a [.NotEq] [b] pos) σ H (!decide (i = j)) := (tx_ne ha hb).is (congrArg not dec_int)
theorem ex_eqI (ha : EX X a σ H (Is (.int i))) (hb : EX X b σ H (Is (.int j))) : EX X (.Compare a [.Eq] [b] pos) σ H (Is (.bl (decide (i = j)))) := (ex_eq ha hb).is (congrArg V.bl dec_int)
theorem ex_neI (ha : EX X a σ H (Is (.int i))) (hb : EX X b σ H (Is (.int j))) : EX X (.Compare a [.NotEq] [b] pos) σ H (Is (.bl (!decide (i = j)))) := (ex_ne ha hb).is (congrArg (fun z => V.bl (!z)) dec_int)
/-- is None -/
theorem tx_isN (ha : EX X a σ H (Is x)) (hb : EX X b σ H (Is .non)) : TX X (.Compare a [.Is] [b] pos) σ H (decide (x = .non)) := tx_cmp op_isN (nomark _) ha hb fun _ _ _ q => ⟨rfl, q⟩
theorem tx_notN (ha : EX X a σ H (Is x)) (hb : EX X b σ H (Is .non)) : TX X (.Compare a [.IsNot] [b] pos) σ H (!decide (x = .non)) := tx_cmp op_notN (nomark _) ha hb fun _ _ _ q => ⟨rfl, q⟩
theorem ex_isN (ha : EX X a σ H (Is x)) (hb : EX X b σ H (Is .non)) : EX X (.Compare a [.Is] [b] pos) σ H (Is (.bl (decide (x = .non)))) := ex_cmp op_isN (nomark _) ha hb fun _ _ _ q => ⟨rfl, q⟩

/-! tests -/
theorem tx_val {k : Bool} (h : EX X e σ H (Is (.bl k))) (he : ∀ whole, isTrue e X.env whole = (do let v ← whole; standAt e.pos; holding [v] (truthy v)) := by intro _; rfl) : TX X e σ H k :=
  PT.weak (pt_val h he) fun σ' H' Q ⟨e1, e2, q⟩ => ⟨e1, e2, fun v H2 x2 hv => ⟨k, hv, q H2 x2⟩⟩
theorem tx_not {k : Bool} (h : TX X a σ H k) : TX X (.UnaryOp .Not a pos) σ H (!k) :=
  PT.weak (pt_not h) fun σ' H' Q ⟨e1, e2, q⟩ => ⟨e1, e2, fun H2 x2 => q H2 x2⟩
theorem wx_and1 {k : Bool} (h : TX X a σ H k) : WX' X (.BoolOp .And [a] pos) σ H k := pw_and1 h
theorem wx_or1 {k : Bool} (h : TX X a σ H k) : WX' X (.BoolOp .Or [a] pos) σ H k := pw_or1 h
theorem PW.weak {t u : TT} (h : PW X e t) (w : ∀ σ H Q, u σ H Q → t σ H Q) : PW X e u := ⟨fun wh pins s σ H Q I q => h.run wh pins s σ H Q I (w σ H Q q)⟩
theorem wx_and {k m : Bool} {rest : List Expr} (h : TX X a σ H k) (h2 : k = true → WX' X (.BoolOp .And (b :: rest) pos) σ H m) : WX' X (.BoolOp .And (a :: b :: rest) pos) σ H (k && m) := by
  cases k with
  | true => exact PW.weak (pw_and h (h2 rfl)) fun σ' H' Q ⟨e1, e2, q⟩ => ⟨e1, e2, fun H2 x2 => ⟨e1, e2.trans x2, fun H3 x3 => q H3 (x2.trans x3)⟩⟩
  | false =>
    refine ⟨fun wh pins s σ' H' Q I ⟨e1, e2, q⟩ => ?_⟩
    refine (pw_and (tB' := fun _ _ _ => False) h ⟨fun _ _ _ _ _ _ _ z => z.elim⟩).run wh pins s σ' H' Q I ⟨e1, e2, fun H2 x2 => ?_⟩
    show Q false H2
    exact q H2 x2
theorem wx_or {k m : Bool} {rest : List Expr} (h : TX X a σ H k) (h2 : k = false → WX' X (.BoolOp .Or (b :: rest) pos) σ H m) : WX' X (.BoolOp .Or (a :: b :: rest) pos) σ H (k || m) := by
  cases k with
  | false => exact PW.weak (pw_or h (h2 rfl)) fun σ' H' Q ⟨e1, e2, q⟩ => ⟨e1, e2, fun H2 x2 => ⟨e1, e2.trans x2, fun H3 x3 => q H3 (x2.trans x3)⟩⟩
  | true =>
    refine ⟨fun wh pins s σ' H' Q I ⟨e1, e2, q⟩ => ?_⟩
    refine (pw_or (tB' := fun _ _ _ => False) h ⟨fun _ _ _ _ _ _ _ z => z.elim⟩).run wh pins s σ' H' Q I ⟨e1, e2, fun H2 x2 => ?_⟩
    show Q true H2
    exact q H2 x2
theorem tx_w {k : Bool} (h : WX' X e σ H k) : TX X e σ H k := PW.pt h
theorem tx_and2 {k m : Bool} (h : TX X a σ H k) (h2 : k = true → TX X b σ H m) : TX X (.BoolOp .And [a, b] pos) σ H (k && m) := tx_w (wx_and h fun q => wx_and1 (h2 q))
theorem tx_or2 {k m : Bool} (h : TX X a σ H k) (h2 : k = false → TX X b σ H m) : TX X (.BoolOp .Or [a, b] pos) σ H (k || m) := tx_w (wx_or h fun q => wx_or1 (h2 q))
theorem tx_or3 {k m n : Bool} (h : TX X a σ H k) (h2 : k = false → TX X b σ H m) (h3 : k = false → m = false → TX X c σ H n) : TX X (.BoolOp .Or [a, b, c] pos) σ H (k || (m || n)) := tx_w (wx_or h fun q => wx_or (h2 q) fun q' => wx_or1 (h3 q q'))
theorem tx_and3 {k m n : Bool} (h : TX X a σ H k) (h2 : k = true → TX X b σ H m) (h3 : k = true → m = true → TX X c σ H n) : TX X (.BoolOp .And [a, b, c] pos) σ H (k && (m && n)) := tx_w (wx_and h fun q => wx_and (h2 q) fun q' => wx_and1 (h3 q q'))
/-- as values -/
theorem ex_and {k m : Bool} {rest : List Expr} (h : EX X a σ H (Is (.bl k))) (h2 : k = true → EX X (.BoolOp .And (b :: rest) pos) σ H (Is (.bl m))) : EX X (.BoolOp .And (a :: b :: rest) pos) σ H (Is (.bl (k && m))) := by
  cases k with
  | true => exact PE.weak (pe_and h (h2 rfl)) fun σ' H' Q ⟨e1, e2, q⟩ => ⟨e1, e2, fun v H2 x2 hv => ⟨true, hv, ⟨e1, e2.trans x2, fun v' H3 x3 hv' => q v' H3 (x2.trans x3) hv'⟩⟩⟩
  | false =>
    refine ⟨fun pins s σ' H' Q I ⟨e1, e2, q⟩ => ?_⟩
    refine (pe_and (tb := fun _ _ _ => False) h ⟨fun _ _ _ _ _ _ z => z.elim⟩).run pins s σ' H' Q I ⟨e1, e2, fun v H2 x2 hv => ⟨false, hv, ?_⟩⟩
    show Q (.bl false) H2
    exact q _ H2 x2 rfl
theorem ex_or {k m : Bool} {rest : List Expr} (h : EX X a σ H (Is (.bl k))) (h2 : k = false → EX X (.BoolOp .Or (b :: rest) pos) σ H (Is (.bl m))) : EX X (.BoolOp .Or (a :: b :: rest) pos) σ H (Is (.bl (k || m))) := by
  cases k with
  | false => exact PE.weak (pe_or h (h2 rfl)) fun σ' H' Q ⟨e1, e2, q⟩ => ⟨e1, e2, fun v H2 x2 hv => ⟨false, hv, ⟨e1, e2.trans x2, fun v' H3 x3 hv' => q v' H3 (x2.trans x3) hv'⟩⟩⟩
  | true =>
    refine ⟨fun pins s σ' H' Q I ⟨e1, e2, q⟩ => ?_⟩
    refine (pe_or (tb := fun _ _ _ => False) h ⟨fun _ _ _ _ _ _ z => z.elim⟩).run pins s σ' H' Q I ⟨e1, e2, fun v H2 x2 hv => ⟨true, hv, ?_⟩⟩
    show Q (.bl true) H2
    exact q _ H2 x2 rfl
theorem ex_one {op} (h : EX X a σ H R) : EX X (.BoolOp op [a] pos) σ H R := pe_one h
theorem ex_and2 {k m : Bool} (h : EX X a σ H (Is (.bl k))) (h2 : k = true → EX X b σ H (Is (.bl m))) : EX X (.BoolOp .And [a, b] pos) σ H (Is (.bl (k && m))) := ex_and h fun q => ex_one (h2 q)
theorem ex_or2 {k m : Bool} (h : EX X a σ H (Is (.bl k))) (h2 : k = false → EX X b σ H (Is (.bl m))) : EX X (.BoolOp .Or [a, b] pos) σ H (Is (.bl (k || m))) := ex_or h fun q => ex_one (h2 q)
theorem ex_not {k : Bool} (h : EX X a σ H (Is (.bl k))) : EX X (.UnaryOp .Not a pos) σ H (Is (.bl (!k))) := PE.weak (pe_not h) fun σ' H' Q ⟨e1, e2, q⟩ => ⟨e1, e2, fun v H2 x2 hv => ⟨k, hv, q _ H2 x2 rfl⟩⟩

/-! arguments -/
theorem av_nil : AV X [] σ H [] := PA.weak pa_nil fun σ' H' Q ⟨e1, e2, q⟩ => q H' (Ex.refl H')
theorem av_cons (h : EX X e σ H (Is v)) (hr : AV X es σ H vs) (hs : starEach (e :: es) X.env = (false, eval e X.env) :: starEach es X.env := by rfl) : AV X (e :: es) σ H (v :: vs) :=
  PA.weak (pa_cons h hr hs) fun σ' H' Q ⟨e1, e2, q⟩ => ⟨e1, e2, fun u H2 x2 hu => ⟨e1, e2.trans x2, fun H3 x3 => by
    cases hu
    exact q H3 (x2.trans x3)⟩⟩
theorem ax_nil : AX X [] σ H [] := PA.weak pa_nil fun σ' H' Q ⟨e1, e2, q⟩ => q [] H' (Ex.refl H') rfl
theorem ax_cons [q0 : RM R] [q1 : RMs Rs] (h : EX X e σ H R) (hr : AX X es σ H Rs) (hs : starEach (e :: es) X.env = (false, eval e X.env) :: starEach es X.env := by rfl) : AX X (e :: es) σ H (R :: Rs) :=
  PA.weak (pa_cons h hr hs) fun σ' H' Q ⟨e1, e2, q⟩ => ⟨e1, e2, fun u H2 x2 hu => ⟨e1, e2.trans x2, fun us H3 x3 hus =>
    q (u :: us) H3 (x2.trans x3) ⟨u, us, rfl, q0.m (Ex.refl _) x3 hu, q1.m x2 (Ex.refl _) hus⟩⟩⟩

/-! displays -/
theorem ex_tup {k} (h : AV X es σ H vs) (hl : vs.length ≤ 1000) : EX X (.Tuple es k pos) σ H (NT vs) :=
  PE.weak (pe_tup h) fun σ' H' Q ⟨e1, e2, q⟩ => ⟨e1, e2, fun H2 x2 => ⟨sz (by omega), fun p hp => q _ _ (x2.trans (Ex.new hp)) ⟨p, rfl, x2.fresh hp, upd_same⟩⟩⟩
theorem ex_lst (h : AV X es σ H vs) (hl : vs.length ≤ 1000) : EX X (.List es pos) σ H (NL vs) :=
  PE.weak (pe_lst h) fun σ' H' Q ⟨e1, e2, q⟩ => ⟨e1, e2, fun H2 x2 => ⟨sz (by omega), fun p hp => q _ _ (x2.trans (Ex.new hp)) ⟨p, rfl, x2.fresh hp, upd_same⟩⟩⟩
/-- of things that are made on the way -/
def NTx (Rs : List Rk) : Rk := fun H1 u H2 => ∃ p vs, u = .ref p ∧ H1 p = none ∧ H2 p = some (.tup vs) ∧ AllR Rs H1 vs H2
def NLx (Rs : List Rk) : Rk := fun H1 u H2 => ∃ p vs, u = .ref p ∧ H1 p = none ∧ H2 p = some (.lst vs) ∧ AllR Rs H1 vs H2
instance [q : RMs Rs] : RM (NTx Rs) := ⟨fun e0 e2 ⟨p, vs, h1, h2, h3, h4⟩ => ⟨p, vs, h1, e0.fresh h2, e2 _ _ h3, q.m e0 e2 h4⟩⟩
instance [q : RMs Rs] : RM (NLx Rs) := ⟨fun e0 e2 ⟨p, vs, h1, h2, h3, h4⟩ => ⟨p, vs, h1, e0.fresh h2, e2 _ _ h3, q.m e0 e2 h4⟩⟩
theorem AllR.len : ∀ {Rs : List Rk} {H1 H2 : Hp} {vs : List V}, AllR Rs H1 vs H2 → vs.length = Rs.length
  | [], _, _, _, h => by rw [show _ = [] from h] <;> rfl
  | R :: Rs, _, _, _, ⟨v, r, e, _, h⟩ => by rw [e, List.length_cons, h.len, List.length_cons]
theorem ex_tupx {k} [q1 : RMs Rs] (h : AX X es σ H Rs) (hl : Rs.length ≤ 1000) : EX X (.Tuple es k pos) σ H (NTx Rs) :=
  PE.weak (pe_tup h) fun σ' H' Q ⟨e1, e2, q⟩ => ⟨e1, e2, fun us H2 x2 hu => ⟨sz (by have := hu.len; omega), fun p hp => q _ _ (x2.trans (Ex.new hp)) ⟨p, us, rfl, x2.fresh hp, upd_same, q1.m (Ex.refl _) (Ex.new hp) hu⟩⟩⟩
theorem ex_lstx [q1 : RMs Rs] (h : AX X es σ H Rs) (hl : Rs.length ≤ 1000) : EX X (.List es pos) σ H (NLx Rs) :=
  PE.weak (pe_lst h) fun σ' H' Q ⟨e1, e2, q⟩ => ⟨e1, e2, fun us H2 x2 hu => ⟨sz (by have := hu.len; omega), fun p hp => q _ _ (x2.trans (Ex.new hp)) ⟨p, us, rfl, x2.fresh hp, upd_same, q1.m (Ex.refl _) (Ex.new hp) hu⟩⟩⟩

/-! the program's own defs -/
/-- what a promise says of its end -/
def Gives (R : Rk) (H : Hp) (Q : VK) : Prop := ∀ u H2, Ex H H2 → R H u H2 → Q u H2
theorem Gives.up {R : Rk} [q : RM R] {H H' : Hp} {Q : VK} (h : Gives R H Q) (x : Ex H H') : Gives R H' Q := fun u H2 y r => h u H2 (x.trans y) (q.m x (Ex.refl _) r)
theorem Gives.is {v : V} {H H' : Hp} {Q : VK} (h : Gives (Is v) H Q) (x : Ex H H') : Q v H' := h v H' x rfl
/-- the def stands at the top -/
def Df (K : PySem.W.Frag) (mg : Str → Option Value) (n : Str) (st : Stmt) (ps : List Str) : Prop := ∃ f fd, Fun K n n st f fd ∧ Binds K fd ps [] ∧ mg n = some (.ref f)
/-- the name n is a def that keeps its promise -/
def Dn (P : Program) (w : World) (K : PySem.W.Frag) (mg : Str → Option Value) (base : Heap) (n : Str) (k : Nat) (ps : List Str) (sp : Sp) : Prop :=
  ∃ f fd, mg n = some (.ref f) ∧ PySem.W.keepIn K (.ref f) = true ∧ Binds K fd ps [] ∧ FnOk P w K mg base (L2.CX P w) k f fd ps sp ∧ ∃ oc od osl, K.lookup f = some ⟨oc, od, .func fd, osl⟩
theorem Dn.mono {P : Program} {w : World} {K : PySem.W.Frag} {mg : Str → Option Value} {base : Heap} {n : Str} {j k : Nat} {ps : List Str} {sp : Sp} (h : Dn P w K mg base n j ps sp) (hk : j ≤ k) : Dn P w K mg base n k ps sp := by
  obtain ⟨f, fd, h1, h2, h3, h4, h5⟩ := h
  exact ⟨f, fd, h1, h2, h3, h4.mono hk, h5⟩
section
variable {k kk : Nat} {ps : List Str} {sp : Sp} {n : Str} {p : Pos} {Q' : Rk} {Q'' : Hp → V → Prop}
/-- no exception comes out of it -/
theorem ex_call (G : Dn X.prog X.w X.K X.mg X.base n k ps sp) (hr : Room kk X.A) (ha : AV X (e :: es) σ H vs) (hsp : ∀ H1 Q, Ex H H1 → Gives Q' H1 Q → sp vs H1 Q E0) [q : RM Q'] (hk : k ≤ kk := by omega) (hg : Gl X n := by rfl) (hdb : (n == ("__debug__" : Str)) = false := by decide)
    (he : starEach (e :: es) X.env = (false, eval e X.env) :: starEach es X.env := by rfl) (hpl : (backTo pos (starEach es X.env)).any (·.1) = false := by rfl) : EX X (.Call (.Name n p) (e :: es) [] pos) σ H Q' := by
  obtain ⟨f, fd, hm, hk', hb, F, _⟩ := G
  exact PE.weak (pe_call F (hr.mono hk) hg hm hk' hb .nil passL ha hdb he hpl) fun σ' H' Q ⟨e1, e2, q'⟩ => ⟨e1, e2, fun H2 x2 => by
    show sp (_ ++ []) _ _ _
    rw [List.append_nil]
    exact hsp H2 Q (e2.trans x2) fun v H3 x3 z => q' v H3 (x2.trans x3) (q.m x2 (Ex.refl _) z)⟩
theorem ex_callx (G : Dn X.prog X.w X.K X.mg X.base n k ps sp) (hr : Room kk X.A) (ha : AX X (e :: es) σ H Rs) (hsp : ∀ vs H1 Q, Ex H H1 → AllR Rs H vs H1 → Gives Q' H1 Q → sp vs H1 Q E0) [q0 : RMs Rs] [q : RM Q'] (hk : k ≤ kk := by omega) (hg : Gl X n := by rfl) (hdb : (n == ("__debug__" : Str)) = false := by decide)
    (he : starEach (e :: es) X.env = (false, eval e X.env) :: starEach es X.env := by rfl) (hpl : (backTo pos (starEach es X.env)).any (·.1) = false := by rfl) : EX X (.Call (.Name n p) (e :: es) [] pos) σ H Q' := by
  obtain ⟨f, fd, hm, hk', hb, F, _⟩ := G
  exact PE.weak (pe_call F (hr.mono hk) hg hm hk' hb .nil passL ha hdb he hpl) fun σ' H' Q ⟨e1, e2, q'⟩ => ⟨e1, e2, fun us H2 x2 hu => by
    show sp (_ ++ []) _ _ _
    rw [List.append_nil]
    exact hsp us H2 Q (e2.trans x2) (q0.m e2 (Ex.refl _) hu) fun v H3 x3 z => q' v H3 (x2.trans x3) (q.m x2 (Ex.refl _) z)⟩
/-- it may raise: E is what is wanted of that -/
theorem ex_callX {E : XK} (hx : Passes (L2.CX X.prog X.w) X E) (G : Dn X.prog X.w X.K X.mg X.base n k ps sp) (hr : Room kk X.A) (ha : AV X (e :: es) σ H vs) (hsp : ∀ H1 Q, Ex H H1 → Gives Q' H1 Q → sp vs H1 Q E) [q : RM Q'] (hk : k ≤ kk := by omega) (hg : Gl X n := by rfl) (hdb : (n == ("__debug__" : Str)) = false := by decide)
    (he : starEach (e :: es) X.env = (false, eval e X.env) :: starEach es X.env := by rfl) (hpl : (backTo pos (starEach es X.env)).any (·.1) = false := by rfl) : EX X (.Call (.Name n p) (e :: es) [] pos) σ H Q' := by
  obtain ⟨f, fd, hm, hk', hb, F, _⟩ := G
  exact PE.weak (pe_call F (hr.mono hk) hg hm hk' hb .nil hx ha hdb he hpl) fun σ' H' Q ⟨e1, e2, q'⟩ => ⟨e1, e2, fun H2 x2 => by
    show sp (_ ++ []) _ _ _
    rw [List.append_nil]
    exact hsp H2 Q (e2.trans x2) fun v H3 x3 z => q' v H3 (x2.trans x3) (q.m x2 (Ex.refl _) z)⟩
end
/-! calls of what is built in -/
section
variable {id T : String} {r : List V → Hp → VK → Prop} {n : Str} {p : Pos} {Q' : Rk}
theorem ex_callB (hc : CallR X (.builtin id) r) (hm : X.mg n = none) (hv : bootBuiltins n = some (.builtin id)) (ha : AV X (e :: es) σ H vs) (hr : ∀ H1 Q, Ex H H1 → (∀ v H2, Ex H1 H2 → Q' H1 v H2 → Q v H2) → r vs H1 Q) [q : RM Q'] (hg : Gl X n := by rfl)
    (hn : n ≠ "__name__" := by decide) (hdb : (n == ("__debug__" : Str)) = false := by decide)
    (he : starEach (e :: es) X.env = (false, eval e X.env) :: starEach es X.env := by rfl) (hpl : (backTo pos (starEach es X.env)).any (·.1) = false := by rfl) : EX X (.Call (.Name n p) (e :: es) [] pos) σ H Q' :=
  PE.weak (pe_callB hc hg hm hv ha hn hdb he hpl) fun σ' H' Q ⟨e1, e2, q'⟩ => ⟨e1, e2, fun H2 x2 => hr H2 Q (e2.trans x2) fun v H3 x3 z => q' v H3 (x2.trans x3) (q.m x2 (Ex.refl _) z)⟩
theorem ex_callBx (hc : CallR X (.builtin id) r) (hm : X.mg n = none) (hv : bootBuiltins n = some (.builtin id)) (ha : AX X (e :: es) σ H Rs) (hr : ∀ H0 vs H1 Q, Ex H H0 → Ex H0 H1 → AllR Rs H0 vs H1 → (∀ v H2, Ex H1 H2 → Q' H0 v H2 → Q v H2) → r vs H1 Q) (hg : Gl X n := by rfl)
    (hn : n ≠ "__name__" := by decide) (hdb : (n == ("__debug__" : Str)) = false := by decide)
    (he : starEach (e :: es) X.env = (false, eval e X.env) :: starEach es X.env := by rfl) (hpl : (backTo pos (starEach es X.env)).any (·.1) = false := by rfl) : EX X (.Call (.Name n p) (e :: es) [] pos) σ H Q' :=
  PE.weak (pe_callB hc hg hm hv ha hn hdb he hpl) fun σ' H' Q ⟨e1, e2, q'⟩ => ⟨e1, e2, fun us H2 x2 hu => hr H' us H2 Q e2 x2 hu fun v H3 x3 z => q' v H3 (x2.trans x3) z⟩
theorem ex_callT (hc : CallR X (.type T) r) (hm : X.mg n = none) (hv : bootBuiltins n = some (.type T)) (ha : AV X (e :: es) σ H vs) (hr : ∀ H1 Q, Ex H H1 → (∀ v H2, Ex H1 H2 → Q' H1 v H2 → Q v H2) → r vs H1 Q) [q : RM Q'] (hg : Gl X n := by rfl)
    (hn : n ≠ "__name__" := by decide) (hdb : (n == ("__debug__" : Str)) = false := by decide)
    (he : starEach (e :: es) X.env = (false, eval e X.env) :: starEach es X.env := by rfl) (hpl : (backTo pos (starEach es X.env)).any (·.1) = false := by rfl) : EX X (.Call (.Name n p) (e :: es) [] pos) σ H Q' :=
  PE.weak (pe_callTy hc hg hm hv ha hn hdb he hpl) fun σ' H' Q ⟨e1, e2, q'⟩ => ⟨e1, e2, fun H2 x2 => hr H2 Q (e2.trans x2) fun v H3 x3 z => q' v H3 (x2.trans x3) (q.m x2 (Ex.refl _) z)⟩
theorem ex_callTx (hc : CallR X (.type T) r) (hm : X.mg n = none) (hv : bootBuiltins n = some (.type T)) (ha : AX X (e :: es) σ H Rs) (hr : ∀ H0 vs H1 Q, Ex H H0 → Ex H0 H1 → AllR Rs H0 vs H1 → (∀ v H2, Ex H1 H2 → Q' H0 v H2 → Q v H2) → r vs H1 Q) (hg : Gl X n := by rfl)
    (hn : n ≠ "__name__" := by decide) (hdb : (n == ("__debug__" : Str)) = false := by decide)
    (he : starEach (e :: es) X.env = (false, eval e X.env) :: starEach es X.env := by rfl) (hpl : (backTo pos (starEach es X.env)).any (·.1) = false := by rfl) : EX X (.Call (.Name n p) (e :: es) [] pos) σ H Q' :=
  PE.weak (pe_callTy hc hg hm hv ha hn hdb he hpl) fun σ' H' Q ⟨e1, e2, q'⟩ => ⟨e1, e2, fun us H2 x2 hu => hr H' us H2 Q e2 x2 hu fun v H3 x3 z => q' v H3 (x2.trans x3) z⟩
end
/-- len -/
theorem ex_len {l : Addr} {xs : List V} {p : Pos} (hm : X.mg "len" = none) (ha : AV X (e :: es) σ H [.ref l]) (h : SqL X.K H l xs) (hg : Gl X "len" := by rfl) (he : starEach (e :: es) X.env = (false, eval e X.env) :: starEach es X.env := by rfl) (hpl : (backTo pos (starEach es X.env)).any (·.1) = false := by rfl) : EX X (.Call (.Name "len" p) (e :: es) [] pos) σ H (Is (.int (xs.length : Int))) :=
  ex_callB call_len_seq hm PySem.boot_len ha (fun H1 Q x q => ⟨l, xs, rfl, .inl (x.l h), q _ H1 (Ex.refl _) rfl⟩) hg (by decide) (by decide) he hpl
theorem ex_lenT {l : Addr} {xs : List V} {p : Pos} (hm : X.mg "len" = none) (ha : AV X (e :: es) σ H [.ref l]) (h : SqT X.K H l xs) (hg : Gl X "len" := by rfl) (he : starEach (e :: es) X.env = (false, eval e X.env) :: starEach es X.env := by rfl) (hpl : (backTo pos (starEach es X.env)).any (·.1) = false := by rfl) : EX X (.Call (.Name "len" p) (e :: es) [] pos) σ H (Is (.int (xs.length : Int))) :=
  ex_callB call_len_seq hm PySem.boot_len ha (fun H1 Q x q => ⟨l, xs, rfl, .inr (x.t h), q _ H1 (Ex.refl _) rfl⟩) hg (by decide) (by decide) he hpl
theorem ex_lenS {z : Str} {p : Pos} (hm : X.mg "len" = none) (ha : AV X (e :: es) σ H [.str z]) (h : z.length ≤ 1000000) (hg : Gl X "len" := by rfl) (he : starEach (e :: es) X.env = (false, eval e X.env) :: starEach es X.env := by rfl) (hpl : (backTo pos (starEach es X.env)).any (·.1) = false := by rfl) : EX X (.Call (.Name "len" p) (e :: es) [] pos) σ H (Is (.int (z.length : Int))) :=
  ex_callB call_len_str hm PySem.boot_len ha (fun H1 Q x q => ⟨z, rfl, sz h, q _ H1 (Ex.refl _) rfl⟩) hg (by decide) (by decide) he hpl
theorem boot_min : bootBuiltins "min" = some (.builtin "min") := by decide +kernel
theorem boot_max : bootBuiltins "max" = some (.builtin "max") := by decide +kernel
theorem boot_list' : bootBuiltins "list" = some (.type "list") := by decide +kernel
/-- min, max of two -/
theorem ex_min {p : Pos} (hm : X.mg "min" = none) (ha : AV X (e :: es) σ H [.int i, .int j]) (hc : X.calm = true := by rfl) (hg : Gl X "min" := by rfl) (he : starEach (e :: es) X.env = (false, eval e X.env) :: starEach es X.env := by rfl) (hpl : (backTo pos (starEach es X.env)).any (·.1) = false := by rfl) : EX X (.Call (.Name "min" p) (e :: es) [] pos) σ H (Is (.int (if j < i then j else i))) :=
  ex_callB (call_min2 hc) hm boot_min ha (fun H1 Q x q => ⟨i, j, rfl, q _ H1 (Ex.refl _) rfl⟩) hg (by decide) (by decide) he hpl
theorem ex_max {p : Pos} (hm : X.mg "max" = none) (ha : AV X (e :: es) σ H [.int i, .int j]) (hc : X.calm = true := by rfl) (hg : Gl X "max" := by rfl) (he : starEach (e :: es) X.env = (false, eval e X.env) :: starEach es X.env := by rfl) (hpl : (backTo pos (starEach es X.env)).any (·.1) = false := by rfl) : EX X (.Call (.Name "max" p) (e :: es) [] pos) σ H (Is (.int (if j > i then j else i))) :=
  ex_callB (call_max2 hc) hm boot_max ha (fun H1 Q x q => ⟨i, j, rfl, q _ H1 (Ex.refl _) rfl⟩) hg (by decide) (by decide) he hpl

/-! items -/
theorem ex_ix {r : R2} {Q' : Rk} (hr : IxR X r) (ha : EX X a σ H (Is x)) (hb : EX X b σ H (Is y)) (h : ∀ H1 Q, Ex H H1 → (∀ v H2, Ex H1 H2 → Q' H1 v H2 → Q v H2) → r x y H1 Q) [q : RM Q'] (hs : PlainIx b := by exact fun _ _ => rfl) : EX X (.Subscript a b pos) σ H Q' :=
  PE.weak (pe_ix hr ha hb hs) fun σ' H' Q ⟨e1, e2, q'⟩ => ⟨e1, e2, fun u H2 x2 hu => ⟨e1, e2.trans x2, fun u' H3 x3 hu' => by
    cases hu
    cases hu'
    exact h H3 Q (e2.trans (x2.trans x3)) fun v H4 x4 z => q' v H4 (x2.trans (x3.trans x4)) (q.m (x2.trans x3) (Ex.refl _) z)⟩⟩
theorem ex_ixL {l : Addr} {xs : List V} (ha : EX X a σ H (Is (.ref l))) (hb : EX X b σ H (Is (.int i))) (h : SqL X.K H l xs) (hi : atI xs i = some v) (hs : PlainIx b := by exact fun _ _ => rfl) : EX X (.Subscript a b pos) σ H (Is v) :=
  ex_ix ix_list ha hb (fun H1 Q x q => ⟨l, xs, i, v, rfl, rfl, x.l h, hi, q _ H1 (Ex.refl _) rfl⟩) hs
theorem ex_ixT {l : Addr} {xs : List V} (ha : EX X a σ H (Is (.ref l))) (hb : EX X b σ H (Is (.int i))) (h : SqT X.K H l xs) (hi : atI xs i = some v) (hs : PlainIx b := by exact fun _ _ => rfl) : EX X (.Subscript a b pos) σ H (Is v) :=
  ex_ix ix_tup ha hb (fun H1 Q x q => ⟨l, xs, i, v, rfl, rfl, x.t h, hi, q _ H1 (Ex.refl _) rfl⟩) hs
theorem ex_ixS {z : Str} {ch : Nat} (ha : EX X a σ H (Is (.str z))) (hb : EX X b σ H (Is (.int i))) (h : z.length ≤ 1000000) (hi : atI z.cps.toList i = some ch) (hs : PlainIx b := by exact fun _ _ => rfl) : EX X (.Subscript a b pos) σ H (Is (.str ⟨#[ch]⟩)) :=
  ex_ix ix_str ha hb (fun H1 Q x q => ⟨z, i, ch, rfl, rfl, sz h, hi, q _ H1 (Ex.refl _) rfl⟩) hs
/-! lists joined, repeated -/
theorem ex_cat {xs ys : List V} (ha : EX X a σ H (NL xs)) (hb : EX X b σ H (NL ys)) (hz : xs.length + ys.length ≤ 1000000) : EX X (.BinOp a .Add b pos) σ H (NL (xs ++ ys)) :=
  PE.weak (pe_op op_cat ha hb) fun σ' H' Q ⟨e1, e2, q'⟩ => ⟨e1, e2, fun u H2 x2 hu => ⟨e1, e2.trans x2, fun u' H3 x3 hu' => by
    obtain ⟨p, rfl, n1, h1⟩ := hu
    obtain ⟨p', rfl, n2, h2⟩ := hu'
    exact ⟨p, p', xs, ys, rfl, rfl, x3 _ _ h1, h2, sz hz, fun t ht => q' _ _ (x2.trans (x3.trans (Ex.new ht))) ⟨t, rfl, (x2.trans x3).fresh ht, upd_same⟩⟩⟩⟩
/-- lists that stand, joined -/
theorem ex_catI {xs ys : List V} {l m : Addr} (ha : EX X a σ H (Is (.ref l))) (hb : EX X b σ H (Is (.ref m))) (hl : H l = some (.lst xs)) (hm : H m = some (.lst ys)) (hz : xs.length + ys.length ≤ 1000000) : EX X (.BinOp a .Add b pos) σ H (NL (xs ++ ys)) :=
  ex_op op_cat ha hb fun H1 Q x q => ⟨l, m, xs, ys, rfl, rfl, x _ _ hl, x _ _ hm, sz hz, fun t ht => q _ _ (Ex.new ht) ⟨t, rfl, ht, upd_same⟩⟩
theorem ex_catR {xs ys : List V} {l : Addr} (ha : EX X a σ H (Is (.ref l))) (hb : EX X b σ H (NL ys)) (hl : H l = some (.lst xs)) (hz : xs.length + ys.length ≤ 1000000) : EX X (.BinOp a .Add b pos) σ H (NL (xs ++ ys)) :=
  PE.weak (pe_op op_cat ha hb) fun σ' H' Q ⟨e1, e2, q'⟩ => ⟨e1, e2, fun u H2 x2 hu => ⟨e1, e2.trans x2, fun u' H3 x3 hu' => by
    cases hu
    obtain ⟨p', rfl, n2, h2⟩ := hu'
    exact ⟨l, p', xs, ys, rfl, rfl, e2.trans (x2.trans x3) _ _ hl, h2, sz hz, fun t ht => q' _ _ (x2.trans (x3.trans (Ex.new ht))) ⟨t, rfl, (x2.trans x3).fresh ht, upd_same⟩⟩⟩⟩
theorem ex_rep1 (ha : EX X a σ H (NL [v])) (hb : EX X b σ H (Is (.int j))) (h0 : 0 ≤ j) (h1 : j ≤ 1000000) : EX X (.BinOp a .Mult b pos) σ H (NL (List.replicate j.toNat v)) :=
  PE.weak (pe_op op_rep ha hb) fun σ' H' Q ⟨e1, e2, q'⟩ => ⟨e1, e2, fun u H2 x2 hu => ⟨e1, e2.trans x2, fun u' H3 x3 hu' => by
    obtain ⟨p, rfl, n1, hp⟩ := hu
    cases hu'
    refine ⟨p, j, [v], rfl, rfl, x3 _ _ hp, by omega, by omega, sz (by rw [List.length_singleton]; omega), fun t ht => ?_⟩
    have e : (List.replicate j.toNat [v]).flatten = List.replicate j.toNat v := by
      induction j.toNat with
      | zero => rfl
      | succ n ih => rw [List.replicate_succ, List.flatten_cons, ih, List.replicate_succ, List.singleton_append]
    rw [e]
    exact q' _ _ (x2.trans (x3.trans (Ex.new ht))) ⟨t, rfl, (x2.trans x3).fresh ht, upd_same⟩⟩⟩
/-- list(x) -/
theorem ex_list {l : Addr} {xs : List V} {p : Pos} (hm : X.mg "list" = none) (ha : AV X (e :: es) σ H [.ref l]) (h : SqL X.K H l xs) (hg : Gl X "list" := by rfl) (he : starEach (e :: es) X.env = (false, eval e X.env) :: starEach es X.env := by rfl) (hpl : (backTo pos (starEach es X.env)).any (·.1) = false := by rfl) : EX X (.Call (.Name "list" p) (e :: es) [] pos) σ H (NL xs) :=
  ex_callT call_list_of hm boot_list' ha (fun H1 Q x q => ⟨l, xs, rfl, .inl (x.l h), fun t ht => q _ _ (Ex.new ht) ⟨t, rfl, ht, upd_same⟩⟩) hg (by decide) (by decide) he hpl
theorem ex_listN {xs : List V} {p : Pos} (hm : X.mg "list" = none) (ha : AX X (e :: es) σ H [NL xs]) (hg : Gl X "list" := by rfl) (he : starEach (e :: es) X.env = (false, eval e X.env) :: starEach es X.env := by rfl) (hpl : (backTo pos (starEach es X.env)).any (·.1) = false := by rfl) : EX X (.Call (.Name "list" p) (e :: es) [] pos) σ H (NL xs) :=
  ex_callTx call_list_of hm boot_list' ha (fun H0 vs H1 Q x0 x1 hvs q => by
    obtain ⟨u, r, rfl, ⟨l, rfl, n1, h1⟩, rfl⟩ := hvs
    exact ⟨l, xs, rfl, .inl (SqL.of h1), fun t ht => q _ _ (Ex.new ht) ⟨t, rfl, x1.fresh ht, upd_same⟩⟩) hg (by decide) (by decide) he hpl
/-! slices of lists -/
theorem ox_none : PO X none (tO σ H none) := ⟨fun pins s σ' H' Q I ⟨e1, e2, q⟩ => (po_none (X := X)).run pins s σ' H' Q I (q H' (Ex.refl _))⟩
theorem ox_some (h : EX X e σ H (Is (.int i))) : PO X (some e) (tO σ H (some i)) := ⟨fun pins s σ' H' Q I ⟨e1, e2, q⟩ => (po_some h).run pins s σ' H' Q I ⟨e1, e2, fun v H2 x2 hv => ⟨i, hv, q H2 x2⟩⟩⟩
theorem ex_slice {l : Addr} {xs : List V} {lo hi : Option Expr} {ol oh : Option Int} {p2 : Pos} (ha : EX X a σ H (Is (.ref l))) (hl : PO X lo (tO σ H ol)) (hh : PO X hi (tO σ H oh)) (h : SqL X.K H l xs) : EX X (.Subscript a (.Slice lo hi none p2) pos) σ H (NL (cutV xs ol oh)) :=
  PE.weak (pe_slice sl_list ha hl hh) fun σ' H' Q ⟨e1, e2, q'⟩ => ⟨e1, e2, fun u H2 x2 hu => ⟨e1, e2.trans x2, fun H3 x3 => ⟨e1, (e2.trans x2).trans x3, fun H4 x4 => by
    cases hu
    have x := (x2.trans x3).trans x4
    exact ⟨l, xs, rfl, (e2.trans x).l h, fun t ht => q' _ _ (x.trans (Ex.new ht)) ⟨t, rfl, x.fresh ht, upd_same⟩⟩⟩⟩⟩
end

/-! ### statements -/
def tS (D : Ends) (σ : L2.St) (H : Hp) : TS := fun D' σ' H' => D' = D ∧ σ' = σ ∧ H' = H
def SX (X : Cx) (sts : List Stmt) (D : Ends) (σ : L2.St) (H : Hp) : Prop := PSs X sts (tS D σ H)
/-- what is shown of a rest is a reading of the rest -/
theorem sx_all (X : Cx) (sts : List Stmt) : PSs X sts (fun D σ H => SX X sts D σ H) := ⟨fun pins s σ H D I h => (show SX X sts D σ H from h).run pins s σ H D I ⟨rfl, rfl, rfl⟩⟩
theorem sx_of {X : Cx} {sts : List Stmt} {t : TS} {D : Ends} {σ : L2.St} {H : Hp} (h : PSs X sts t) (q : t D σ H) : SX X sts D σ H := PSs.weak h fun D' σ' H' ⟨e1, e2, e3⟩ => by
  subst e1 e2 e3
  exact q
/-- a def's body -/
theorem body_of {X : Cx} {sts : List Stmt} {D : Ends} {σ : L2.St} {H : Hp} (h : SX X sts D σ H) : ∃ t, PSs X sts t ∧ t D σ H := ⟨_, h, rfl, rfl, rfl⟩
section
variable {X : Cx} {a b c e : Expr} {st : Stmt} {rest body orelse : List Stmt} {σ : L2.St} {H : Hp} {R : Rk} {D : Ends} {pos : Pos} {v : V}
theorem sx_nil (h : D.nx σ H) : SX X [] D σ H := sx_of pss_nil h
theorem sx_st {t : TS} (h : PS X st t) (q : t { D with nx := fun σ' H' => SX X rest D σ' H' } σ H) : SX X (st :: rest) D σ H := sx_of (pss_cons h (sx_all X rest)) q
theorem sx_asg (i : Nat) {n : Str} {pos' : Pos} (hN : X.N.Nodup) (he : EX X e σ H R) (k : ∀ v H2, Ex H H2 → R H v H2 → SX X rest D (σ.set i (some v)) H2) (hi : X.N[i]? = some n := by rfl) (hx : Loc X.env.scope n := by first | exact Or.inl rfl | exact Or.inr rfl)
    (hs : swapsWith e (some (.Name n pos')) pos.line X.env = pure false := by rfl) (hf : X.fn n = true ∨ X.env.scope.names.lookup n = some .local := by first | exact .inl rfl | exact .inr rfl | assumption) : SX X (.Assign [.Name n pos'] e pos :: rest) D σ H :=
  sx_st (ps_set hN hi hx he hs hf) ⟨rfl, Ex.refl H, k⟩
theorem sx_set (i : Nat) {n : Str} {pos' : Pos} (hN : X.N.Nodup) (he : EX X e σ H (Is v)) (k : ∀ H2, Ex H H2 → SX X rest D (σ.set i (some v)) H2) (hi : X.N[i]? = some n := by rfl) (hx : Loc X.env.scope n := by first | exact Or.inl rfl | exact Or.inr rfl)
    (hs : swapsWith e (some (.Name n pos')) pos.line X.env = pure false := by rfl) (hf : X.fn n = true ∨ X.env.scope.names.lookup n = some .local := by first | exact .inl rfl | exact .inr rfl | assumption) : SX X (.Assign [.Name n pos'] e pos :: rest) D σ H :=
  sx_asg i hN he (fun u H2 x r => by cases r; exact k H2 x) hi hx hs hf
theorem sx_if {k : Bool} (hc : TX X c σ H k) (h1 : k = true → ∀ H2, Ex H H2 → SX X body { D with nx := fun σ' H' => SX X rest D σ' H' } σ H2) (h2 : k = false → ∀ H2, Ex H H2 → SX X orelse { D with nx := fun σ' H' => SX X rest D σ' H' } σ H2) : SX X (.If c body orelse pos :: rest) D σ H :=
  sx_st (ps_if hc (sx_all X body) (sx_all X orelse)) ⟨rfl, Ex.refl H, fun H2 x => by
    cases k with
    | true => exact h1 rfl H2 x
    | false => exact h2 rfl H2 x⟩
/-- an if without else -/
theorem sx_when {k : Bool} (hc : TX X c σ H k) (h1 : k = true → ∀ H2, Ex H H2 → SX X body { D with nx := fun σ' H' => SX X rest D σ' H' } σ H2) (h2 : k = false → ∀ H2, Ex H H2 → SX X rest D σ H2) : SX X (.If c body [] pos :: rest) D σ H :=
  sx_if hc h1 fun q H2 x => sx_nil (D := { D with nx := fun σ' H' => SX X rest D σ' H' }) (h2 q H2 x)
theorem sx_ret (he : EX X e σ H R) (k : ∀ v H2, Ex H H2 → R H v H2 → D.rt v H2) : SX X (.Return (some e) pos :: rest) D σ H :=
  sx_st (ps_ret he) ⟨rfl, Ex.refl H, k⟩
theorem sx_retI (he : EX X e σ H (Is v)) (k : ∀ H2, Ex H H2 → D.rt v H2) : SX X (.Return (some e) pos :: rest) D σ H :=
  sx_ret he fun u H2 x r => by cases r; exact k H2 x
theorem sx_expr (he : EX X e σ H R) (k : ∀ v H2, Ex H H2 → R H v H2 → SX X rest D σ H2) (hs : swapsWith e none pos.line X.env = pure false := by rfl) : SX X (.Expr e pos :: rest) D σ H :=
  sx_st (ps_expr he hs) ⟨rfl, Ex.refl H, k⟩
theorem sx_pass (k : SX X rest D σ H) : SX X (.Pass pos :: rest) D σ H := sx_st ps_pass k
theorem sx_break (k : D.bk σ H) : SX X (.Break pos :: rest) D σ H := sx_st ps_break k
theorem sx_cont (k : D.ct σ H) : SX X (.Continue pos :: rest) D σ H := sx_st ps_continue k
end

/-! ### statements from any heap that bears what is known: H is what is known -/
def SB (X : Cx) (sts : List Stmt) (D : Ends) (σ : L2.St) (H : Hp) : Prop := ∀ H', Ex H H' → SX X sts D σ H'
/-- what holds of something known -/
def Up (W : L2.St → Hp → Prop) : L2.St → Hp → Prop := fun σ H => ∃ H0, Ex H0 H ∧ W σ H0
theorem EX.up {X : Cx} {e : Expr} {σ : L2.St} {H H' : Hp} {R : Rk} (h : EX X e σ H R) (x : Ex H H') : EX X e σ H' R := PE.weak h fun _ _ _ ⟨e1, e2, q⟩ => ⟨e1, x.trans e2, q⟩
theorem TX.up {X : Cx} {e : Expr} {σ : L2.St} {H H' : Hp} {k : Bool} (h : TX X e σ H k) (x : Ex H H') : TX X e σ H' k := PT.weak h fun _ _ _ ⟨e1, e2, q⟩ => ⟨e1, x.trans e2, q⟩
theorem AV.up {X : Cx} {e : List Expr} {σ : L2.St} {H H' : Hp} {k : List V} (h : AV X e σ H k) (x : Ex H H') : AV X e σ H' k := PA.weak h fun _ _ _ ⟨e1, e2, q⟩ => ⟨e1, x.trans e2, q⟩
theorem SB.up {X : Cx} {sts : List Stmt} {D : Ends} {σ : L2.St} {H H' : Hp} (h : SB X sts D σ H) (x : Ex H H') : SB X sts D σ H' := fun H2 y => h H2 (x.trans y)
theorem upd_mono {H H' : Hp} {l : Addr} {o : HO} (x : Ex H H') : Ex (upd H l o) (upd H' l o) := fun b u h => by
  by_cases q : b = l
  · subst q
    rw [upd_same] at h ⊢
    exact h
  · rw [upd_ne q] at h ⊢
    exact x b u h
theorem upd_in {H H' : Hp} {l : Addr} {o : HO} (x : Ex H H') (h : H' l = some o) : Ex (upd H l o) H' := fun b u hb => by
  by_cases q : b = l
  · subst q
    rw [upd_same] at hb
    rw [h]
    exact hb
  · rw [upd_ne q] at hb
    exact x b u hb
section
variable {X : Cx} {a b c e : Expr} {st : Stmt} {rest body orelse : List Stmt} {σ : L2.St} {H : Hp} {R : Rk} {D : Ends} {pos : Pos} {v : V}
theorem sb_body (h : SB X body D σ H) : ∃ t, PSs X body t ∧ t D σ H := body_of (h H (Ex.refl H))
theorem sb_nil (h : ∀ H', Ex H H' → D.nx σ H') : SB X [] D σ H := fun H' x => sx_nil (h H' x)
/-- the turn's end -/
theorem sb_next {W : L2.St → Hp → Prop} {rt : VK} {bk ct : L2.St → Hp → Prop} (h : W σ H) : SB X [] { nx := Up W, rt := rt, bk := bk, ct := ct } σ H := sb_nil fun H' x => ⟨H, x, h⟩
theorem sb_set (i : Nat) {n : Str} {pos' : Pos} (hN : X.N.Nodup) (he : EX X e σ H (Is v)) (k : SB X rest D (σ.set i (some v)) H) (hi : X.N[i]? = some n := by rfl) (hx : Loc X.env.scope n := by first | exact Or.inl rfl | exact Or.inr rfl)
    (hs : swapsWith e (some (.Name n pos')) pos.line X.env = pure false := by rfl) (hf : X.fn n = true ∨ X.env.scope.names.lookup n = some .local := by first | exact .inl rfl | exact .inr rfl | assumption) : SB X (.Assign [.Name n pos'] e pos :: rest) D σ H :=
  fun H' x => sx_set i hN (he.up x) (fun H2 y => k H2 (x.trans y)) hi hx hs hf
theorem sb_asg [q : RM R] (i : Nat) {n : Str} {pos' : Pos} (hN : X.N.Nodup) (he : EX X e σ H R) (k : ∀ v H2, Ex H H2 → R H v H2 → SB X rest D (σ.set i (some v)) H2) (hi : X.N[i]? = some n := by rfl) (hx : Loc X.env.scope n := by first | exact Or.inl rfl | exact Or.inr rfl)
    (hs : swapsWith e (some (.Name n pos')) pos.line X.env = pure false := by rfl) (hf : X.fn n = true ∨ X.env.scope.names.lookup n = some .local := by first | exact .inl rfl | exact .inr rfl | assumption) : SB X (.Assign [.Name n pos'] e pos :: rest) D σ H :=
  fun H' x => sx_asg i hN (he.up x) (fun v H2 y r => k v H2 (x.trans y) (q.m x (Ex.refl _) r) H2 (Ex.refl _)) hi hx hs hf
/-- name = a new list -/
theorem sb_new (i : Nat) {xs : List V} {n : Str} {pos' : Pos} (hN : X.N.Nodup) (he : EX X e σ H (NL xs)) (k : ∀ p, H p = none → SB X rest D (σ.set i (some (.ref p))) (upd H p (.lst xs))) (hi : X.N[i]? = some n := by rfl) (hx : Loc X.env.scope n := by first | exact Or.inl rfl | exact Or.inr rfl)
    (hs : swapsWith e (some (.Name n pos')) pos.line X.env = pure false := by rfl) (hf : X.fn n = true ∨ X.env.scope.names.lookup n = some .local := by first | exact .inl rfl | exact .inr rfl | assumption) : SB X (.Assign [.Name n pos'] e pos :: rest) D σ H :=
  sb_asg i hN he (fun v H2 x ⟨p, e1, e2, e3⟩ => by
    subst e1
    exact (k p e2).up (upd_in x e3)) hi hx hs hf
theorem sb_if {k : Bool} (hc : TX X c σ H k) (h1 : k = true → SB X body { D with nx := fun σ' H' => SX X rest D σ' H' } σ H) (h2 : k = false → SB X orelse { D with nx := fun σ' H' => SX X rest D σ' H' } σ H) : SB X (.If c body orelse pos :: rest) D σ H :=
  fun H' x => sx_if (hc.up x) (fun q H2 y => h1 q H2 (x.trans y)) fun q H2 y => h2 q H2 (x.trans y)
theorem sb_when {k : Bool} (hc : TX X c σ H k) (h1 : k = true → SB X body { D with nx := fun σ' H' => SX X rest D σ' H' } σ H) (h2 : k = false → SB X rest D σ H) : SB X (.If c body [] pos :: rest) D σ H :=
  fun H' x => sx_when (hc.up x) (fun q H2 y => h1 q H2 (x.trans y)) fun q H2 y => h2 q H2 (x.trans y)
theorem sb_ret [q : RM R] (he : EX X e σ H R) (k : ∀ v H2, Ex H H2 → R H v H2 → D.rt v H2) : SB X (.Return (some e) pos :: rest) D σ H :=
  fun H' x => sx_ret (he.up x) fun v H2 y r => k v H2 (x.trans y) (q.m x (Ex.refl _) r)
theorem sb_retI (he : EX X e σ H (Is v)) (k : ∀ H2, Ex H H2 → D.rt v H2) : SB X (.Return (some e) pos :: rest) D σ H :=
  fun H' x => sx_retI (he.up x) fun H2 y => k H2 (x.trans y)
theorem sb_expr [q : RM R] (he : EX X e σ H R) (k : ∀ v H2, Ex H H2 → R H v H2 → SB X rest D σ H2) (hs : swapsWith e none pos.line X.env = pure false := by rfl) : SB X (.Expr e pos :: rest) D σ H :=
  fun H' x => sx_expr (he.up x) (fun v H2 y r => k v H2 (x.trans y) (q.m x (Ex.refl _) r) H2 (Ex.refl _)) hs
theorem sb_pass (k : SB X rest D σ H) : SB X (.Pass pos :: rest) D σ H := fun H' x => sx_pass (k H' x)
theorem sb_break (k : ∀ H', Ex H H' → D.bk σ H') : SB X (.Break pos :: rest) D σ H := fun H' x => sx_break (k H' x)
theorem sb_cont (k : ∀ H', Ex H H' → D.ct σ H') : SB X (.Continue pos :: rest) D σ H := fun H' x => sx_cont (k H' x)
/-- the end of an if's suite: what stands behind the if -/
theorem sb_thru {rt : VK} {bk ct : L2.St → Hp → Prop} (h : SB X rest D σ H) : SB X [] { nx := fun σ' H' => SX X rest D σ' H', rt := rt, bk := bk, ct := ct } σ H := sb_nil fun H' x => h H' x
/-- a weaker end -/
theorem SX.nx {sts : List Stmt} {D : Ends} {σ : L2.St} {H : Hp} {N : L2.St → Hp → Prop} (h : SX X sts D σ H) (w : ∀ σ' H', D.nx σ' H' → N σ' H') : SX X sts { D with nx := N } σ H := ⟨fun pins s σ1 H1 D1 I ⟨e1, e2, e3⟩ => by
  subst e1 e2 e3
  refine thn (h.run pins s _ _ _ I ⟨rfl, rfl, rfl⟩) fun f s1 q => ?_
  cases f with
  | next =>
    obtain ⟨σ', H', I', q⟩ := q
    exact ⟨σ', H', I', w σ' H' q⟩
  | ret v => exact q
  | brk => exact q
  | cont => exact q⟩
/-- an if whose ways meet: J is what holds there -/
theorem sb_join {k : Bool} (J : L2.St → Hp → Prop) (hc : TX X c σ H k) (h1 : k = true → SB X body { D with nx := Up J } σ H) (h2 : k = false → SB X orelse { D with nx := Up J } σ H) (hk : ∀ σ' H', J σ' H' → SB X rest D σ' H') : SB X (.If c body orelse pos :: rest) D σ H :=
  sb_if hc (fun q H' x => (h1 q H' x).nx fun σ' H2 ⟨H0, y, j⟩ => hk σ' H0 j H2 y) fun q H' x => (h2 q H' x).nx fun σ' H2 ⟨H0, y, j⟩ => hk σ' H0 j H2 y
theorem sb_meet {J : L2.St → Hp → Prop} (h : J σ H) (hD : D.nx = Up J := by rfl) : SB X [] D σ H := sb_nil fun H' x => by
  rw [hD]
  exact ⟨H, x, h⟩

/-! loops -/
theorem sb_forL {xs : List V} {l : Addr} {n : Str} {np : Pos} (j : Nat) (hp : PassesOwn (model X.prog X.w) X.A X.env X.xe) (hN : X.N.Nodup) (he : EX X e σ H (Is (.ref l))) (hx : SqL X.K H l xs) (W : Nat → L2.St → Hp → Prop) (h0 : W 0 σ H)
    (hl : ∀ i σ' H', i ≤ xs.length → W i σ' H' → SqL X.K H' l xs) (hs : ∀ i x σ' H', xs[i]? = some x → W i σ' H' → SB X body { nx := Up (W (i + 1)), rt := D.rt, bk := fun σ' H' => SX X rest D σ' H', ct := Up (W (i + 1)) } (σ'.set j (some x)) H')
    (hd : ∀ σ' H', W xs.length σ' H' → SB X rest D σ' H') (hc : X.calm = true := by rfl) (hi : X.N[j]? = some n := by rfl) (hv : Loc X.env.scope n := by first | exact Or.inl rfl | exact Or.inr rfl) (hf : X.fn n = true ∨ X.env.scope.names.lookup n = some .local := by first | exact .inl rfl | exact .inr rfl | assumption)
    (hs' : ∀ x, foldedSetIterable e X.env x = pure x := by intro _; rfl) : SB X (.For (.Name n np) e body [] pos :: rest) D σ H := fun H' x =>
  sx_st (ps_for hp hc (pi_list he) (pg_name hN hi hv hf) (sx_all X body) hs') ⟨rfl, x, fun v H2 y r => by
    cases r
    refine ⟨l, rfl, ⟨xs, (x.trans y).l hx⟩, for_list (xs := xs) (fun i => Up (W i)) ⟨H, x.trans y, h0⟩ (fun i σ' H3 hi ⟨H0, z, w⟩ => z.l (hl i σ' H0 hi w)) (fun i x σ' H3 hi ⟨H0, z, w⟩ => hs i x σ' H0 hi w H3 z) fun σ' H3 ⟨H0, z, w⟩ => hd σ' H0 w H3 z⟩⟩
/-- over a list that is made there -/
theorem sb_forN {xs : List V} {n : Str} {np : Pos} (j : Nat) (hp : PassesOwn (model X.prog X.w) X.A X.env X.xe) (hN : X.N.Nodup) (he : EX X e σ H (NL xs)) (W : Addr → Nat → L2.St → Hp → Prop) (h0 : ∀ l, H l = none → W l 0 σ (upd H l (.lst xs)))
    (hl : ∀ l i σ' H', i ≤ xs.length → W l i σ' H' → SqL X.K H' l xs) (hs : ∀ l i x σ' H', xs[i]? = some x → W l i σ' H' → SB X body { nx := Up (W l (i + 1)), rt := D.rt, bk := fun σ' H' => SX X rest D σ' H', ct := Up (W l (i + 1)) } (σ'.set j (some x)) H')
    (hd : ∀ l σ' H', W l xs.length σ' H' → SB X rest D σ' H') (hc : X.calm = true := by rfl) (hi : X.N[j]? = some n := by rfl) (hv : Loc X.env.scope n := by first | exact Or.inl rfl | exact Or.inr rfl) (hf : X.fn n = true ∨ X.env.scope.names.lookup n = some .local := by first | exact .inl rfl | exact .inr rfl | assumption)
    (hs' : ∀ x, foldedSetIterable e X.env x = pure x := by intro _; rfl) : SB X (.For (.Name n np) e body [] pos :: rest) D σ H := fun H' x =>
  sx_st (ps_for hp hc (pi_list he) (pg_name hN hi hv hf) (sx_all X body) hs') ⟨rfl, x, fun v H2 y ⟨l, e1, e2, e3⟩ => by
    subst e1
    exact ⟨l, rfl, ⟨xs, SqL.of e3⟩, for_list (xs := xs) (fun i => Up (W l i)) ⟨_, upd_in (x.trans y) e3, h0 l (x.fresh e2)⟩ (fun i σ' H3 hi ⟨H0, z, w⟩ => z.l (hl l i σ' H0 hi w)) (fun i x σ' H3 hi ⟨H0, z, w⟩ => hs l i x σ' H0 hi w H3 z) fun σ' H3 ⟨H0, z, w⟩ => hd l σ' H0 w H3 z⟩⟩
/-- over range(..) -/
theorem sb_forR1 {m : Int} {n : Str} {np p p' : Pos} (j : Nat) (hp : PassesOwn (model X.prog X.w) X.A X.env X.xe) (hN : X.N.Nodup) (hm : X.mg "range" = none) (he : AV X [a] σ H [.int m]) (hb : -(2 ^ 62) ≤ m ∧ m < 2 ^ 62) (W : Nat → L2.St → Hp → Prop) (h0 : W 0 σ H)
    (hs : ∀ (i : Nat) σ' H', (i : Int) < m → W i σ' H' → SB X body { nx := Up (W (i + 1)), rt := D.rt, bk := fun σ' H' => SX X rest D σ' H', ct := Up (W (i + 1)) } (σ'.set j (some (.int i))) H')
    (hd : ∀ σ' H', W m.toNat σ' H' → SB X rest D σ' H') (hg : Gl X "range" := by rfl) (hc : X.calm = true := by rfl) (hi : X.N[j]? = some n := by rfl) (hv : Loc X.env.scope n := by first | exact Or.inl rfl | exact Or.inr rfl) (hf : X.fn n = true ∨ X.env.scope.names.lookup n = some .local := by first | exact .inl rfl | exact .inr rfl | assumption)
    (hs1 : starEach [a] X.env = [(false, eval a X.env)] := by rfl) (hs' : ∀ x, foldedSetIterable (.Call (.Name "range" p) [a] [] p') X.env x = pure x := by intro _; rfl) : SB X (.For (.Name n np) (.Call (.Name "range" p) [a] [] p') body [] pos :: rest) D σ H := fun H' x =>
  sx_st (ps_for hp hc (pi_range1 hg hm he hs1) (pg_name hN hi hv hf) (sx_all X body) hs') ⟨rfl, x, fun H2 y => ⟨m, rfl, hb.1, hb.2,
    for_range (lo := 0) (n := m.toNat) (fun i => Up (W i)) ⟨H, x.trans y, h0⟩ (fun i σ' H3 hi ⟨H0, z, w⟩ => by
      rw [Int.zero_add]
      exact hs i σ' H0 (by omega) w H3 z) fun σ' H3 ⟨H0, z, w⟩ => hd σ' H0 w H3 z⟩⟩
theorem sb_forR2 {lo m : Int} {n : Str} {np p p' : Pos} (j : Nat) (hp : PassesOwn (model X.prog X.w) X.A X.env X.xe) (hN : X.N.Nodup) (hm : X.mg "range" = none) (he : AV X [a, b] σ H [.int lo, .int m]) (hb : (-(2 ^ 62) ≤ lo ∧ lo < 2 ^ 62) ∧ -(2 ^ 62) ≤ m ∧ m < 2 ^ 62) (W : Nat → L2.St → Hp → Prop) (h0 : W 0 σ H)
    (hs : ∀ (i : Nat) σ' H', lo + (i : Int) < m → W i σ' H' → SB X body { nx := Up (W (i + 1)), rt := D.rt, bk := fun σ' H' => SX X rest D σ' H', ct := Up (W (i + 1)) } (σ'.set j (some (.int (lo + i)))) H')
    (hd : ∀ σ' H', W (m - lo).toNat σ' H' → SB X rest D σ' H') (hg : Gl X "range" := by rfl) (hc : X.calm = true := by rfl) (hi : X.N[j]? = some n := by rfl) (hv : Loc X.env.scope n := by first | exact Or.inl rfl | exact Or.inr rfl) (hf : X.fn n = true ∨ X.env.scope.names.lookup n = some .local := by first | exact .inl rfl | exact .inr rfl | assumption)
    (hs1 : starEach [a, b] X.env = [(false, eval a X.env), (false, eval b X.env)] := by rfl) (hs2 : starEach [b] X.env = [(false, eval b X.env)] := by rfl) (hs' : ∀ x, foldedSetIterable (.Call (.Name "range" p) [a, b] [] p') X.env x = pure x := by intro _; rfl) : SB X (.For (.Name n np) (.Call (.Name "range" p) [a, b] [] p') body [] pos :: rest) D σ H := fun H' x =>
  sx_st (ps_for hp hc (pi_range2 hg hm he hs1 hs2) (pg_name hN hi hv hf) (sx_all X body) hs') ⟨rfl, x, fun H2 y => ⟨lo, m, rfl, ⟨hb.1.1, hb.1.2, hb.2.1, hb.2.2⟩,
    for_range (lo := lo) (n := (m - lo).toNat) (fun i => Up (W i)) ⟨H, x.trans y, h0⟩ (fun i σ' H3 hi ⟨H0, z, w⟩ => hs i σ' H0 (by omega) w H3 z) fun σ' H3 ⟨H0, z, w⟩ => hd σ' H0 w H3 z⟩⟩

/-! lists changed -/
theorem sb_app [q : RM R] {l : Addr} {xs : List V} {p cpos : Pos} (ha : EX X a σ H (Is (.ref l))) (hl : H l = some (.lst xs)) (hz : xs.length < 1000000) (he : EX X e σ H R) (k : ∀ v H2, Ex H H2 → R H v H2 → SB X rest D σ (upd H2 l (.lst (xs ++ [v]))))
    (hs : swapsWith (.Call (.Attribute a "append" p) [e] [] cpos) none pos.line X.env = pure false := by rfl) (hs1 : starEach [e] X.env = (false, eval e X.env) :: starEach [] X.env := by rfl)
    (hbase : attributeBase a "append" X.env (eval a X.env) = eval a X.env := by rfl)
    (hfew : ((backTo cpos (starEach [e] X.env)).all (fun x => !x.1) && (backToKw cpos (keywordEach [] X.env)).all (fun x => x.1.isSome)
      && decide ([e].length + ([] : List Keyword).length + (if ([] : List Keyword).isEmpty then 0 else 1) < 30)) = true := by rfl)
    (hline : (p.endLine == cpos.line) = true := by rfl) : SB X (.Expr (.Call (.Attribute a "append" p) [e] [] cpos) pos :: rest) D σ H := fun H' x => by
  have h1 : PE X (.Call (.Attribute a "append" p) [e] [] cpos) (tBM X.K "list" rAppend (tE σ H (Is (.ref l))) (tCons (tE σ H R) tNil)) := pe_bm PySem.F.plainAttrs_list PySem.F.slot_list_append PySem.F.type_list_append mt_append ha (pa_cons he pa_nil hs1) hbase hfew hline hs1
  refine sx_st (ps_expr h1 hs) ⟨rfl, x, fun v H2 y r => ?_⟩
  cases r
  refine ⟨.inl ⟨rfl, _, SqL.of ((x.trans y) _ _ hl)⟩, rfl, x.trans y, fun u H3 z r => ?_⟩
  refine ⟨l, xs, u, rfl, rfl, (x.trans (y.trans z)) _ _ hl, sz_lt hz, ?_⟩
  exact k u H3 (x.trans (y.trans z)) (q.m (x.trans y) (Ex.refl _) r) _ (Ex.refl _)
/-- l[i] = e -/
theorem sb_setL {l : Addr} {xs : List V} {i : Int} {j : Nat} {b : Expr} {p : Pos} (he : EX X e σ H (Is v)) (ha : EX X a σ H (Is (.ref l))) (hb : EX X b σ H (Is (.int i))) (hl : H l = some (.lst xs)) (hi : ixN xs.length i = some j) (k : SB X rest D σ (upd H l (.lst (xs.set j v))))
    (hsw : swapsWithSole [.Subscript a b p] e pos.line X.env = pure false := by rfl) (hw : swappedStores [.Subscript a b p] e X.env = pure none := by rfl) (h1 : (assignEach [.Subscript a b p] X.env).map (·.2) = [assign (.Subscript a b p) X.env] := by rfl)
    (hsub : ∀ v, assign (.Subscript a b p) X.env v = (do
      let ov ← holding [v] (eval a X.env)
      let iv ← holding [v, ov] (eval b X.env)
      standAt p
      holding [v, ov, iv] (setItem ov iv v)
      release [v, ov, iv] []) := by intro _; rfl) : SB X (.Assign [.Subscript a b p] e pos :: rest) D σ H := fun H' x =>
  sx_st (ps_asg he (pg_sub ha hb set_list hsub) hsw hw h1) ⟨rfl, x, fun u H2 y r => by
    cases r
    refine ⟨rfl, x.trans y, fun o H3 z r => ?_⟩
    cases r
    refine ⟨rfl, (x.trans y).trans z, fun o H4 t r => ?_⟩
    cases r
    have w := ((x.trans y).trans z).trans t
    exact ⟨l, xs, i, j, rfl, rfl, w _ _ hl, hi, k _ (upd_mono w)⟩⟩
end

/-- a def by its body -/
theorem def_ok {P : Program} {w : World} {K : PySem.W.Frag} {mg : Str → Option Value} {base : Heap} {n : Str} {st : Stmt} {N ps : List Str} {k : Nat} {sp : Sp} (F : Df K mg n st ps) (S : FnScope N ps (defScope st)) (len : ∀ vs H Q E, sp vs H Q E → vs.length = ps.length)
    (hbody : ∀ (f : Addr) (cdv : Value) (A : Around) (outer : List Env) (s : Shared) (H : Hp) (vs : List V) (Q : VK) (E : XK), Room k (A.deeper (envOfC n (defScope st) s.heap.objs.size f cdv)) → sp vs H Q E →
      SB (cxOf (L2.CX P w) P w K mg base N n (defScope st) f cdv A outer s H E) (defBody st) { nx := fun _ H' => Q .non H', rt := Q } (start N vs) H) : Dn P w K mg base n (k + 1) ps sp := by
  obtain ⟨f, fd, F, B, m⟩ := F
  obtain ⟨oc, od, kV, doc, pm, an, cdv, ct, osl, e, lk, hcd⟩ := id F.ex
  exact ⟨f, fd, m, F.kp, B, F.okX S len (fun cdv A outer s H vs Q E hr h => sb_body (hbody f cdv A outer s H vs Q E hr h)), oc, od, osl, lk⟩
/-- a def that calls itself -/
theorem def_rec {P : Program} {w : World} {K : PySem.W.Frag} {mg : Str → Option Value} {base : Heap} {n : Str} {st : Stmt} {N ps : List Str} (k : Nat) {sp : Nat → Sp} (F : Df K mg n st ps) (S : FnScope N ps (defScope st)) (len : ∀ d vs H Q E, sp d vs H Q E → vs.length = ps.length)
    (hbody : ∀ d, (∀ e, d = e + 1 → Dn P w K mg base n (e + k + 1) ps (sp e)) → ∀ (f : Addr) (cdv : Value) (A : Around) (outer : List Env) (s : Shared) (H : Hp) (vs : List V) (Q : VK) (E : XK), Room (d + k) (A.deeper (envOfC n (defScope st) s.heap.objs.size f cdv)) → sp d vs H Q E →
      SB (cxOf (L2.CX P w) P w K mg base N n (defScope st) f cdv A outer s H E) (defBody st) { nx := fun _ H' => Q .non H', rt := Q } (start N vs) H) : ∀ d, Dn P w K mg base n (d + k + 1) ps (sp d)
  | 0 => def_ok F S (len 0) (hbody 0 fun e q => by omega)
  | d + 1 => def_ok F S (len (d + 1)) (hbody (d + 1) fun e q => by
    have h := def_rec (P := P) (w := w) (base := base) k F S len hbody d
    rw [show e = d by omega]
    exact h)

/-! ### names of the top, exceptions -/
/-- a whole number of the top -/
def Gi (mg : Str → Option Value) (n : Str) (i : Int) : Prop := ∃ t, mg n = some (.int i t)
theorem ex_globI {X : Cx} {n : Str} {i : Int} {pos : Pos} {σ : L2.St} {H : Hp} (h : Gi X.mg n i) (hg : Gl X n := by rfl) (hd : (n == ("__debug__" : Str)) = false := by decide) : EX X (.Name n pos) σ H (Is (.int i)) := by
  obtain ⟨t, h⟩ := h
  exact ex_glob hg h ⟨t, rfl⟩ hd
/-- an own class of errors over ValueError -/
structure Ec (K : PySem.W.Frag) (mg : Str → Option Value) (n : Str) (C : Addr) : Prop where
  x : PySem.W.excIn K C [.type "ValueError", .type "Exception", .type "BaseException", .type "object"] "ValueError.__new__" = true
  g : mg n = some (.ref C)
  k : PySem.W.keepIn K (.ref C) = true
  b : PySem.W.subIn K (.ref C) (.type "BaseException") = some true
  t : PySem.W.typeIn K (.ref C) = some (.type "type")
/-- what is wanted of an exception of the class C -/
def Rz (C : Addr) (H : Hp) (E : XK) : Prop := ∀ H2, Ex H H2 → E (.ref C) none H2
theorem Rz.up {C : Addr} {H H' : Hp} {E : XK} (h : Rz C H E) (x : Ex H H') : Rz C H' E := fun H2 y => h H2 (x.trans y)
/-- nothing comes of it -/
def No : Rk := fun _ _ _ => False
instance : RM No := ⟨fun _ _ h => h⟩
theorem sb_raise {X : Cx} {rest : List Stmt} {D : Ends} {σ : L2.St} {H : Hp} {W : WX} {C : Addr} {n m : Str} {j : Nat} {p p2 pos pos' : Pos} (tk : Takes X W) (e : Ec X.K X.mg n C) (k : ∀ H', Ex H H' → W (.ref C) none σ H') (hc : X.calm = true := by rfl) (hg : Gl X n := by rfl) (hdb : (n == ("__debug__" : Str)) = false := by decide) :
    SB X (.Raise (some (.Call (.Name n p) [.Constant (.str m) j p2] [] pos)) none pos' :: rest) D σ H := fun H' x =>
  sx_st (ps_raise hc tk (pmk_own PySem.F.excBase_ValueError e.x e.g e.k (raises_own e.b e.t) hg hdb)) (k H' x)

/-! ### isinstance, great products, list comprehensions -/
theorem boot_int' : bootBuiltins "int" = some (.type "int") := by decide +kernel
theorem boot_bool' : bootBuiltins "bool" = some (.type "bool") := by decide +kernel
theorem boot_str' : bootBuiltins "str" = some (.type "str") := by decide +kernel
theorem boot_tuple' : bootBuiltins "tuple" = some (.type "tuple") := by decide +kernel
theorem boot_isinstance' : bootBuiltins "isinstance" = some (.builtin "isinstance") := by decide +kernel
section
variable {X : Cx} {a b c e : Expr} {es : List Expr} {σ : L2.St} {H : Hp} {pos : Pos} {i j : Int} {x y v : V} {vs : List V}
theorem ex_isi {p : Pos} {t u : String} {k : Bool} (hm : X.mg "isinstance" = none) (ha : AV X (e :: es) σ H [x, .ty u]) (ht : ∀ H1, Ex H H1 → TyX X.K H1 x (.type t)) (hk : kitB t u = some k) (hg : Gl X "isinstance" := by rfl) (he : starEach (e :: es) X.env = (false, eval e X.env) :: starEach es X.env := by rfl) (hpl : (backTo pos (starEach es X.env)).any (·.1) = false := by rfl) : EX X (.Call (.Name "isinstance" p) (e :: es) [] pos) σ H (Is (.bl k)) :=
  ex_callB call_isi hm boot_isinstance' ha (fun H1 Q x q => ⟨_, _, _, _, k, rfl, .ty _, ht H1 x, kit_ty hk, q _ H1 (Ex.refl _) rfl⟩) hg (by decide) (by decide) he hpl
theorem ty_int {K : PySem.W.Frag} {H : Hp} {n : Int} : TyX K H (.int n) (.type "int") := .base (.int n)
theorem ty_bl {K : PySem.W.Frag} {H : Hp} {n : Bool} : TyX K H (.bl n) (.type "bool") := .base (.bl n)
theorem ty_non {K : PySem.W.Frag} {H : Hp} : TyX K H .non (.type "NoneType") := .base .non
theorem ty_str {K : PySem.W.Frag} {H : Hp} {n : Str} : TyX K H (.str n) (.type "str") := .base (.str n)
theorem ty_lst {K : PySem.W.Frag} {H : Hp} {l : Addr} {xs : List V} (h : H l = some (.lst xs)) : TyX K H (.ref l) (.type "list") := .base (.lst h)
theorem ty_tup {K : PySem.W.Frag} {H : Hp} {l : Addr} {xs : List V} (h : H l = some (.tup xs)) : TyX K H (.ref l) (.type "tuple") := .base (.tup h)
theorem ex_mulW (ha : EX X a σ H (Is (.int i))) (hb : EX X b σ H (Is (.int j))) (hc : CMulW i j) : EX X (.BinOp a .Mult b pos) σ H (Is (.int (i * j))) := ex_opC op_mulW ha hb hc

theorem wipe_one (σ : L2.St) (j : Nat) (x : Option V) : wipe ((wipe σ [j]).set j x) [j] = wipe σ [j] := by
  show ((σ.set j none).set j x).set j none = σ.set j none
  rw [List.set_set, List.set_set]
def tElR (σ : L2.St) (H : Hp) (j : Nat) (m : Int) (f : Nat → V) : TE := fun σ' H1 Q => ∃ i : Nat, (i : Int) < m ∧ σ' = (wipe σ [j]).set j (some (.int i)) ∧ Ex H H1 ∧ ∀ H2, Ex H1 H2 → Q (f i) H2
def tElL (σ : L2.St) (H : Hp) (j : Nat) (xs : List V) (f : V → V) : TE := fun σ' H1 Q => ∃ x, x ∈ xs ∧ σ' = (wipe σ [j]).set j (some x) ∧ Ex H H1 ∧ ∀ H2, Ex H1 H2 → Q (f x) H2
def tElT (σ : L2.St) (H : Hp) (j : Nat) (xs : List V) : TT := fun σ' H1 Q => ∃ x, x ∈ xs ∧ σ' = (wipe σ [j]).set j (some x) ∧ Ex H H1 ∧ ∀ H2, Ex H1 H2 → Q false H2
def tNo : TE := fun _ _ _ => False
/-- [elt for x in range(m)] -/
theorem ex_lcR {elt : Expr} {n : Str} {scope : Scope} {m : Int} {np p p' : Pos} (j : Nat) (f : Nat → V) (hN : X.N.Nodup) (hm : X.mg "range" = none) (ha : AV X [a] σ H [.int m]) (hb : 0 ≤ m ∧ m ≤ 1000000) (ok : BlkOk X.N X.env.scope scope [(n, j)])
    (hgn : ∀ (s : Shared) (H : Hp) (C : Addr) (cl : List (Str × Addr)) (fp : List Addr), PG (X.blk s H scope (compEnvC scope cl C X.env) fp) (.Name n np) (gName j))
    (he : ∀ (s : Shared) (H' : Hp) (C : Addr) (cl : List (Str × Addr)) (fp : List Addr) (i : Nat) (H1 : Hp), Ex H H1 → (i : Int) < m → EX (X.blk s H' scope (compEnvC scope cl C X.env) fp) elt ((wipe σ [j]).set j (some (.int i))) H1 (Is (f i)))
    (hc : X.calm = true := by rfl) (hg : Gl X "range" := by rfl) (hs1 : starEach [a] X.env = [(false, eval a X.env)] := by rfl) (hs : ∀ x, foldedSetIterable (.Call (.Name "range" p) [a] [] p') X.env x = pure x := by intro _; rfl) :
    EX X (.ListComp elt [⟨.Name n np, .Call (.Name "range" p) [a] [] p', [], 0⟩] scope pos) σ H (NL ((List.range m.toNat).map f)) := by
  have h1 : ∀ (s : Shared) (H' : Hp) (C : Addr) (cl : List (Str × Addr)) (fp : List Addr), PE (X.blk s H' scope (compEnvC scope cl C X.env) fp) elt (tElR σ H j m f) :=
    fun s H' C cl fp => ⟨fun pins s' σ' H1 Q I ⟨i, hi, e, x, q⟩ => (he s H' C cl fp i H1 x hi).run pins s' σ' H1 Q I ⟨e, Ex.refl _, fun v H2 y r => by cases r; exact q H2 y⟩⟩
  refine PE.weak (pe_lc (own := [(n, j)]) (tt := tYes) hc hN (pi_range1 hg hm ha hs1) ok hgn (fun _ _ _ _ _ => pts_nil) h1 hs) fun σ' H' Q ⟨e1, e2, q⟩ => ?_
  subst e1
  refine ⟨rfl, e2, fun H2 x2 => ⟨m, rfl, by omega, by omega, fun D hD => ?_⟩⟩
  refine lc_range (lo := 0) (n := m.toNat) (g := gName j) (tt := tYes) (te := tElR σ' H j m f) (vs := [j]) (σ := σ') (fun i H3 => Ex H2 H3 ∧ H3 D = some (.lst ((List.range i).map f))) ⟨Ex.new hD, upd_same⟩ (fun i H3 hi ⟨w1, w2⟩ => ?_) (fun H3 ⟨w1, w2⟩ => q _ H3 (x2.trans w1) ⟨D, rfl, x2.fresh hD, w2⟩)
  refine ⟨wipe_one _ _ _, i, by omega, by rw [Int.zero_add], (e2.trans x2).trans w1, fun H4 x4 => ⟨_, x4 _ _ w2, ?_, Ex.mut (w1.trans x4) hD, ?_⟩⟩
  · rw [List.length_map, List.length_range]
    exact sz_lt (by omega)
  · rw [List.range_succ, List.map_append]
    exact upd_same
/-- [elt for x in a list] -/
theorem ex_lcL {elt it : Expr} {n : Str} {scope : Scope} {xs : List V} {l : Addr} {np : Pos} (j : Nat) (f : V → V) (hN : X.N.Nodup) (hit : EX X it σ H (Is (.ref l))) (hl : SqL X.K H l xs) (hz : xs.length ≤ 900000) (ok : BlkOk X.N X.env.scope scope [(n, j)])
    (hgn : ∀ (s : Shared) (H : Hp) (C : Addr) (cl : List (Str × Addr)) (fp : List Addr), PG (X.blk s H scope (compEnvC scope cl C X.env) fp) (.Name n np) (gName j))
    (he : ∀ (s : Shared) (H' : Hp) (C : Addr) (cl : List (Str × Addr)) (fp : List Addr) (x : V) (H1 : Hp), Ex H H1 → x ∈ xs → EX (X.blk s H' scope (compEnvC scope cl C X.env) fp) elt ((wipe σ [j]).set j (some x)) H1 (Is (f x)))
    (hc : X.calm = true := by rfl) (hs : ∀ x, foldedSetIterable it X.env x = pure x := by intro _; rfl) :
    EX X (.ListComp elt [⟨.Name n np, it, [], 0⟩] scope pos) σ H (NL (xs.map f)) := by
  have h1 : ∀ (s : Shared) (H' : Hp) (C : Addr) (cl : List (Str × Addr)) (fp : List Addr), PE (X.blk s H' scope (compEnvC scope cl C X.env) fp) elt (tElL σ H j xs f) :=
    fun s H' C cl fp => ⟨fun pins s' σ' H1 Q I ⟨x, hi, e, z, q⟩ => (he s H' C cl fp x H1 z hi).run pins s' σ' H1 Q I ⟨e, Ex.refl _, fun v H2 y r => by cases r; exact q H2 y⟩⟩
  refine PE.weak (pe_lc (own := [(n, j)]) (tt := tYes) hc hN (pi_list hit) ok hgn (fun _ _ _ _ _ => pts_nil) h1 hs) fun σ' H' Q ⟨e1, e2, q⟩ => ?_
  subst e1
  refine ⟨rfl, e2, fun u H2 x2 r => ?_⟩
  cases r
  refine ⟨l, rfl, ⟨xs, (e2.trans x2).l hl⟩, fun D hD => ?_⟩
  refine lc_list (K := X.K) (xs := xs) (g := gName j) (tt := tYes) (te := tElL σ' H j xs f) (vs := [j]) (σ := σ') (fun i H3 => Ex H2 H3 ∧ H3 D = some (.lst ((xs.take i).map f))) ⟨Ex.new hD, upd_same⟩ (fun i H3 _ w => ((e2.trans x2).trans w.1).l hl) (fun i x H3 hi ⟨w1, w2⟩ => ?_) (fun H3 ⟨w1, w2⟩ => q _ H3 (x2.trans w1) ⟨D, rfl, x2.fresh hD, by rw [w2, List.take_length]⟩)
  refine ⟨wipe_one _ _ _, x, List.mem_of_getElem? hi, rfl, (e2.trans x2).trans w1, fun H4 x4 => ⟨_, x4 _ _ w2, ?_, Ex.mut (w1.trans x4) hD, ?_⟩⟩
  · have := (List.getElem?_eq_some_iff.mp hi).1
    rw [List.length_map, List.length_take]
    exact sz_lt (by omega)
  · rw [List.take_succ, hi, List.map_append]
    exact upd_same
theorem ex_lcN {elt it : Expr} {n : Str} {scope : Scope} {xs : List V} {np : Pos} (j : Nat) (f : V → V) (hN : X.N.Nodup) (hit : EX X it σ H (NL xs)) (hz : xs.length ≤ 900000) (ok : BlkOk X.N X.env.scope scope [(n, j)])
    (hgn : ∀ (s : Shared) (H : Hp) (C : Addr) (cl : List (Str × Addr)) (fp : List Addr), PG (X.blk s H scope (compEnvC scope cl C X.env) fp) (.Name n np) (gName j))
    (he : ∀ (s : Shared) (H' : Hp) (C : Addr) (cl : List (Str × Addr)) (fp : List Addr) (x : V) (H1 : Hp), Ex H H1 → x ∈ xs → EX (X.blk s H' scope (compEnvC scope cl C X.env) fp) elt ((wipe σ [j]).set j (some x)) H1 (Is (f x)))
    (hc : X.calm = true := by rfl) (hs : ∀ x, foldedSetIterable it X.env x = pure x := by intro _; rfl) :
    EX X (.ListComp elt [⟨.Name n np, it, [], 0⟩] scope pos) σ H (NL (xs.map f)) := by
  have h1 : ∀ (s : Shared) (H' : Hp) (C : Addr) (cl : List (Str × Addr)) (fp : List Addr), PE (X.blk s H' scope (compEnvC scope cl C X.env) fp) elt (tElL σ H j xs f) :=
    fun s H' C cl fp => ⟨fun pins s' σ' H1 Q I ⟨x, hi, e, z, q⟩ => (he s H' C cl fp x H1 z hi).run pins s' σ' H1 Q I ⟨e, Ex.refl _, fun v H2 y r => by cases r; exact q H2 y⟩⟩
  refine PE.weak (pe_lc (own := [(n, j)]) (tt := tYes) hc hN (pi_list hit) ok hgn (fun _ _ _ _ _ => pts_nil) h1 hs) fun σ' H' Q ⟨e1, e2, q⟩ => ?_
  subst e1
  refine ⟨rfl, e2, fun u H2 x2 ⟨l, r1, r2, r3⟩ => ?_⟩
  subst r1
  refine ⟨l, rfl, ⟨xs, SqL.of r3⟩, fun D hD => ?_⟩
  refine lc_list (K := X.K) (xs := xs) (g := gName j) (tt := tYes) (te := tElL σ' H j xs f) (vs := [j]) (σ := σ') (fun i H3 => Ex H2 H3 ∧ H3 D = some (.lst ((xs.take i).map f))) ⟨Ex.new hD, upd_same⟩ (fun i H3 _ w => SqL.of (w.1 _ _ r3)) (fun i x H3 hi ⟨w1, w2⟩ => ?_) (fun H3 ⟨w1, w2⟩ => q _ H3 (x2.trans w1) ⟨D, rfl, x2.fresh hD, by rw [w2, List.take_length]⟩)
  refine ⟨wipe_one _ _ _, x, List.mem_of_getElem? hi, rfl, (e2.trans x2).trans w1, fun H4 x4 => ⟨_, x4 _ _ w2, ?_, Ex.mut (w1.trans x4) hD, ?_⟩⟩
  · have := (List.getElem?_eq_some_iff.mp hi).1
    rw [List.length_map, List.length_take]
    exact sz_lt (by omega)
  · rw [List.take_succ, hi, List.map_append]
    exact upd_same
/-- [elt for x in a list if test], the test never true -/
theorem ex_lcF {elt it t : Expr} {n : Str} {scope : Scope} {xs : List V} {l : Addr} {np : Pos} (j : Nat) (hN : X.N.Nodup) (hit : EX X it σ H (Is (.ref l))) (hl : SqL X.K H l xs) (ok : BlkOk X.N X.env.scope scope [(n, j)])
    (hgn : ∀ (s : Shared) (H : Hp) (C : Addr) (cl : List (Str × Addr)) (fp : List Addr), PG (X.blk s H scope (compEnvC scope cl C X.env) fp) (.Name n np) (gName j))
    (ht : ∀ (s : Shared) (H' : Hp) (C : Addr) (cl : List (Str × Addr)) (fp : List Addr) (x : V) (H1 : Hp), Ex H H1 → x ∈ xs → TX (X.blk s H' scope (compEnvC scope cl C X.env) fp) t ((wipe σ [j]).set j (some x)) H1 false)
    (he : ∀ (s : Shared) (H' : Hp) (C : Addr) (cl : List (Str × Addr)) (fp : List Addr), PE (X.blk s H' scope (compEnvC scope cl C X.env) fp) elt tNo)
    (hc : X.calm = true := by rfl) (hs : ∀ x, foldedSetIterable it X.env x = pure x := by intro _; rfl) :
    EX X (.ListComp elt [⟨.Name n np, it, [t], 0⟩] scope pos) σ H (NL []) := by
  have h1 : ∀ (s : Shared) (H' : Hp) (C : Addr) (cl : List (Str × Addr)) (fp : List Addr), PT (X.blk s H' scope (compEnvC scope cl C X.env) fp) t (tElT σ H j xs) :=
    fun s H' C cl fp => ⟨fun pins s' σ' H1 Q I ⟨x, hi, e, z, q⟩ => (ht s H' C cl fp x H1 z hi).run pins s' σ' H1 Q I ⟨e, Ex.refl _, fun H2 y => q H2 y⟩⟩
  refine PE.weak (pe_lc (own := [(n, j)]) hc hN (pi_list hit) ok hgn (fun s H' C cl fp => pts_one (h1 s H' C cl fp)) he hs) fun σ' H' Q ⟨e1, e2, q⟩ => ?_
  subst e1
  refine ⟨rfl, e2, fun u H2 x2 r => ?_⟩
  cases r
  refine ⟨l, rfl, ⟨xs, (e2.trans x2).l hl⟩, fun D hD => ?_⟩
  refine lc_list (K := X.K) (xs := xs) (g := gName j) (tt := tElT σ' H j xs) (te := tNo) (vs := [j]) (σ := σ') (fun i H3 => Ex H2 H3 ∧ H3 D = some (.lst [])) ⟨Ex.new hD, upd_same⟩ (fun i H3 _ w => ((e2.trans x2).trans w.1).l hl) (fun i x H3 hi ⟨w1, w2⟩ => ?_) (fun H3 ⟨w1, w2⟩ => q _ H3 (x2.trans w1) ⟨D, rfl, x2.fresh hD, w2⟩)
  refine ⟨wipe_one _ _ _, x, List.mem_of_getElem? hi, rfl, (e2.trans x2).trans w1, fun H4 x4 => ?_⟩
  show Ex H2 H4 ∧ H4 D = some (.lst [])
  exact ⟨w1.trans x4, x4 _ _ w2⟩
end

/-! ### the end -/
abbrev BdOk (n : Str) (st : Stmt) (ps : List Str) : Prop := ∀ (kV doc pm : Value) (an : Option Addr) (cdv ct : Value) (us : List Value), us.length = ps.length → bindArgs (PySem.W.fnOf n n (defArgs st) (defBody st) (defScope st) .none kV doc pm an cdv ct) ⟨us, []⟩ = pure (ps.zip us)
theorem df_mk {K : PySem.W.Frag} {mg : Str → Option Value} {h : Heap} {n : Str} {st : Stmt} {ps : List Str} {f : Addr} {oc : Value} {od an : Option Addr} {osl : Array (Option Value)} {kV doc pm cdv ct : Value} (X : K.In h) (G : h.Ns mainGlobals mg)
    (hb : BdOk n st ps)
    (a : PySem.W.nsIn K mainGlobals n = some (some (.ref f))) (l : K.lookup f = some ⟨oc, od, .func (PySem.W.fnOf n n (defArgs st) (defBody st) (defScope st) .none kV doc pm an cdv ct), osl⟩)
    (c : PySem.W.codeIn K cdv n = true) (k : PySem.W.keepIn K (.ref f) = true) : Df K mg n st ps := by
  have F := fun_mk (st := st) l c k
  exact ⟨f, _, F, F.binds hb, PySem.W.mg_of X G a⟩
theorem df_use {K : PySem.W.Frag} {mg : Str → Option Value} {h : Heap} {n : Str} {st : Stmt} {ps : List Str} {f : Addr} {oc : Value} {od an : Option Addr} {osl : Array (Option Value)} {kV doc pm cdv ct : Value} {Goal : Prop} (X : K.In h) (G : h.Ns mainGlobals mg)
    (hb : BdOk n st ps) (a : PySem.W.nsIn K mainGlobals n = some (some (.ref f))) (l : K.lookup f = some ⟨oc, od, .func (PySem.W.fnOf n n (defArgs st) (defBody st) (defScope st) .none kV doc pm an cdv ct), osl⟩)
    (c : PySem.W.codeIn K cdv n = true) (k : PySem.W.keepIn K (.ref f) = true) (r : Df K mg n st ps → Goal) : Goal := r (df_mk X G hb a l c k)
theorem gi_mk {K : PySem.W.Frag} {mg : Str → Option Value} {h : Heap} {n : Str} {i : Int} {t : Tok} (X : K.In h) (G : h.Ns mainGlobals mg) (a : PySem.W.nsIn K mainGlobals n = some (some (.int i t))) : Gi mg n i := ⟨t, PySem.W.mg_of X G a⟩
theorem ec_mk {K : PySem.W.Frag} {mg : Str → Option Value} {h : Heap} {n : Str} {C : Addr} (X : K.In h) (G : h.Ns mainGlobals mg) (a : PySem.W.nsIn K mainGlobals n = some (some (.ref C))) (x : PySem.W.excIn K C [.type "ValueError", .type "Exception", .type "BaseException", .type "object"] "ValueError.__new__" = true)
    (k : PySem.W.keepIn K (.ref C) = true) (b : PySem.W.subIn K (.ref C) (.type "BaseException") = some true) (t : PySem.W.typeIn K (.ref C) = some (.type "type")) : Ec K mg n C := ⟨x, PySem.W.mg_of X G a, k, b, t⟩
theorem ec_use {K : PySem.W.Frag} {mg : Str → Option Value} {h : Heap} {n : Str} {C : Addr} {Goal : Prop} (X : K.In h) (G : h.Ns mainGlobals mg) (a : PySem.W.nsIn K mainGlobals n = some (some (.ref C))) (x : PySem.W.excIn K C [.type "ValueError", .type "Exception", .type "BaseException", .type "object"] "ValueError.__new__" = true)
    (k : PySem.W.keepIn K (.ref C) = true) (b : PySem.W.subIn K (.ref C) (.type "BaseException") = some true) (t : PySem.W.typeIn K (.ref C) = some (.type "type")) (r : Ec K mg n C → Goal) : Goal := r (ec_mk X G a x k b t)
/-- what law(script) promises -/
def spLaw (K : PySem.W.Frag) : Sp := fun vs H Q _ => ∃ (a : Addr) (ns : List Int), vs = [.ref a] ∧ SqL K H a (ns.map V.int) ∧ ns.length ≤ 63 ∧ Gives (Is (.bl true)) H Q
theorem walk {l : PySem.W.OpenLaw} {q : Program} {loose : List Str} {XP : (Str → Option Value) → Heap → Prop} {YP : World → Heap → Prop} {d : DefRec} {K : Params → PySem.W.Frag} {st : Stmt} (hn : l.most = some 63) (hdf : d.params.defaults = []) (hname : d.name = ("law" : Str))
    (hb : BdOk "law" st ["_law_script"])
    (hY : ∀ (w : World) (h : Heap), YP w h → (K w.params).In h)
    (F : ∀ (w : World) (mg : Str → Option Value) (h : Heap), (K w.params).In h → h.Ns mainGlobals mg →
      Df (K w.params) mg "law" st ["_law_script"] ∧ ∀ base : Heap, Dn l.prog w (K w.params) mg base "law" 60 ["_law_script"] (spLaw (K w.params))) :
    PySem.W.WalkO q loose XP YP l.row.toRowW d [] (fun f vs => PySem.call f vs) := by
  refine L2.walk_of (n := 63) (k := 60) (x := "_law_script") (CX := fun w => L2.CX l.prog w) (sp := fun w => spLaw (K w.params)) hn (by rw [sizeLine_eq]; decide) hdf ⟨rfl, by decide, by decide⟩ hY (fun w mg fa h X G hfa => ?_)
    (fun w H a ns hl _ hS => ⟨a, ns, rfl, hS, hl, fun _ _ _ r => r⟩) (fun w H s e s' z => ?_)
  · obtain ⟨⟨f, fd, FF, B, m⟩, DN⟩ := F w mg h X G
    have hfa : mg "law" = some (.ref fa) := by rw [← hname]; exact hfa
    have e : f = fa := by
      rw [hfa] at m
      injection m with m
      injection m with m
      exact m.symm
    subst e
    obtain ⟨oc, od, kV, doc, pm, an, cdv, ct, osl, e, lk, hcd⟩ := id FF.ex
    refine ⟨fd, fun s u => ?_, fun base _ _ => ?_⟩
    · subst e
      exact .of_eq (hb _ _ _ _ _ _ [u] rfl)
    · obtain ⟨f', fd', m', _, _, FO, oc', od', osl', lk'⟩ := DN base
      have e : f' = f := by
        rw [m] at m'
        injection m' with m'
        injection m' with m'
        exact m'.symm
      subst e
      rw [lk] at lk'
      injection lk' with lk'
      injection lk' with e1 e2 e3 e4
      injection e3 with e3
      subst e3
      exact FO
  · obtain ⟨_, _, _, _, _, _, _, _, _, _, _, _, z⟩ := z
    exact z.elim
end RB
/-! == of data, lists that are held beside a copy -/
namespace RB
open PySem L2 PyProof.Rows
open Evl (Ex)
theorem lay_ints : ∀ ns : List Int, PyData.canLayAll0 (ns.map PyData.int) = true
  | [] => rfl
  | n :: ns => by
    rw [List.map_cons, PyData.canLayAll0, lay_ints ns]
    rfl
theorem depth_ints : ∀ ns : List Int, PyData.depthAll (ns.map PyData.int) ≤ 1
  | [] => by decide
  | n :: ns => by
    rw [List.map_cons, PyData.depthAll]
    have h := depth_ints ns
    have e : (PyData.int n).depth ≤ 1 := by
      rw [PyData.depth] <;> decide
    omega
theorem shaped_ints (ns : List Int) : SeqAt.shaped (.list (ns.map PyData.int)) = true := by
  unfold SeqAt.shaped
  rw [Bool.and_eq_true]
  refine ⟨lay_ints ns, decide_eq_true ?_⟩
  rw [PyData.depth]
  have := depth_ints ns
  omega
theorem dp_ints {K : PySem.W.Frag} {H : Hp} : ∀ ns : List Int, DpAll K H (ns.map V.int) (ns.map PyData.int)
  | [] => .nil
  | n :: ns => .cons (.int n) (dp_ints ns)
theorem dp_list {K : PySem.W.Frag} {H : Hp} {l : Addr} {ns : List Int} (h : SqL K H l (ns.map V.int)) : Dp K H (.ref l) (.list (ns.map PyData.int)) := .lst h (dp_ints ns)
section
variable {X : Cx} {a b e : Expr} {rest : List Stmt} {D : Ends} {σ : L2.St} {H : Hp} {Ra Rb : Rk} {pos : Pos} {kk : Nat} {v : V}
/-- two things of the same data -/
theorem ex_eqD [qa : RM Ra] (ha : EX X a σ H Ra) (hb : EX X b σ H Rb) (hr : Room kk X.A) (d : PyData) (hs : SeqAt.shaped d = true) (da : ∀ H1 v H2, Ex H H1 → Ex H1 H2 → Ra H1 v H2 → Dp X.K H2 v d) (db : ∀ H1 v H2, Ex H H1 → Ex H1 H2 → Rb H1 v H2 → Dp X.K H2 v d) : EX X (.Compare a [.Eq] [b] pos) σ H (Is (.bl true)) :=
  PE.weak (pe_cmpR (op_eqD hr.units) ha hb (nomark _)) fun σ' H' Q ⟨e1, e2, q⟩ => ⟨e1, e2, fun u H2 x2 hu => ⟨e1, e2.trans x2, fun u' H3 x3 hu' =>
    ⟨d, d, da H' u H3 e2 (x2.trans x3) (qa.m (Ex.refl _) x3 hu), db H2 u' H3 (e2.trans x2) x3 hu', hs, hs, by
      rw [SeqAt.eqv_refl d (SeqAt.canLay_of_shaped hs)]
      exact q _ H3 (x2.trans x3) rfl⟩⟩⟩
theorem tx_neD [qa : RM Ra] (ha : EX X a σ H Ra) (hb : EX X b σ H Rb) (hr : Room kk X.A) (d : PyData) (hs : SeqAt.shaped d = true) (da : ∀ H1 v H2, Ex H H1 → Ex H1 H2 → Ra H1 v H2 → Dp X.K H2 v d) (db : ∀ H1 v H2, Ex H H1 → Ex H1 H2 → Rb H1 v H2 → Dp X.K H2 v d) : TX X (.Compare a [.NotEq] [b] pos) σ H false :=
  PT.weak (pt_cmpR (op_neD hr.units) ha hb (nomark _)) fun σ' H' Q ⟨e1, e2, q⟩ => ⟨e1, e2, fun u H2 x2 hu => ⟨e1, e2.trans x2, fun u' H3 x3 hu' =>
    ⟨d, d, da H' u H3 e2 (x2.trans x3) (qa.m (Ex.refl _) x3 hu), db H2 u' H3 (e2.trans x2) x3 hu', hs, hs, false, by
      rw [SeqAt.eqv_refl d (SeqAt.canLay_of_shaped hs)]
      rfl, q H3 (x2.trans x3)⟩⟩⟩
/-- lists of the same numbers that stand -/
theorem ex_eqL {l m : Addr} {ns : List Int} (ha : EX X a σ H (Is (.ref l))) (hb : EX X b σ H (Is (.ref m))) (hr : Room kk X.A) (hl : SqL X.K H l (ns.map V.int)) (hm : SqL X.K H m (ns.map V.int)) : EX X (.Compare a [.Eq] [b] pos) σ H (Is (.bl true)) :=
  ex_eqD ha hb hr _ (shaped_ints ns) (fun H1 v H2 x y r => by cases r; exact dp_list ((x.trans y).l hl)) (fun H1 v H2 x y r => by cases r; exact dp_list ((x.trans y).l hm))
theorem tx_neL {l m : Addr} {ns : List Int} (ha : EX X a σ H (Is (.ref l))) (hb : EX X b σ H (Is (.ref m))) (hr : Room kk X.A) (hl : SqL X.K H l (ns.map V.int)) (hm : SqL X.K H m (ns.map V.int)) : TX X (.Compare a [.NotEq] [b] pos) σ H false :=
  tx_neD ha hb hr _ (shaped_ints ns) (fun H1 v H2 x y r => by cases r; exact dp_list ((x.trans y).l hl)) (fun H1 v H2 x y r => by cases r; exact dp_list ((x.trans y).l hm))
theorem nl_dp {K : PySem.W.Frag} {H1 H2 : Hp} {u : V} {ns : List Int} (r : NL (ns.map V.int) H1 u H2) : Dp K H2 u (.list (ns.map PyData.int)) := by
  obtain ⟨p, rfl, _, h⟩ := r
  exact dp_list (SqL.of h)
/-- l.append(v), v a value -/
theorem sb_appI {l : Addr} {xs : List V} {p cpos : Pos} (ha : EX X a σ H (Is (.ref l))) (hl : H l = some (.lst xs)) (hz : xs.length < 1000000) (he : EX X e σ H (Is v)) (k : SB X rest D σ (upd H l (.lst (xs ++ [v]))))
    (hs : swapsWith (.Call (.Attribute a "append" p) [e] [] cpos) none pos.line X.env = pure false := by rfl) (hs1 : starEach [e] X.env = (false, eval e X.env) :: starEach [] X.env := by rfl)
    (hbase : attributeBase a "append" X.env (eval a X.env) = eval a X.env := by rfl)
    (hfew : ((backTo cpos (starEach [e] X.env)).all (fun x => !x.1) && (backToKw cpos (keywordEach [] X.env)).all (fun x => x.1.isSome)
      && decide ([e].length + ([] : List Keyword).length + (if ([] : List Keyword).isEmpty then 0 else 1) < 30)) = true := by rfl)
    (hline : (p.endLine == cpos.line) = true := by rfl) : SB X (.Expr (.Call (.Attribute a "append" p) [e] [] cpos) pos :: rest) D σ H :=
  sb_app ha hl hz he (fun u H2 x r => by cases r; exact k.up (upd_mono x)) hs hs1 hbase hfew hline
end
/-- pairs of two lists of the same numbers -/
def HeldB (H : Hp) (ps : List V) : Prop := ∀ v ∈ ps, ∃ (q x y : Addr) (ns : List Int), v = .ref q ∧ H q = some (.tup [.ref x, .ref y]) ∧ H x = some (.lst (ns.map V.int)) ∧ H y = some (.lst (ns.map V.int))
/-- the ledger at h: what stands but it is told by Hb -/
structure Led (Hb H : Hp) (h : Addr) (ps : List V) : Prop where
  ex : Ex Hb H
  no : Hb h = none
  at_ : H h = some (.lst ps)
  all : HeldB Hb ps
theorem HeldB.ex {H H' : Hp} {ps : List V} (h : HeldB H ps) (x : Ex H H') : HeldB H' ps := fun v hv => by
  obtain ⟨q, a, b, ns, e, h1, h2, h3⟩ := h v hv
  exact ⟨q, a, b, ns, e, x _ _ h1, x _ _ h2, x _ _ h3⟩
theorem Led.up {Hb H H' : Hp} {h : Addr} {ps : List V} (L : Led Hb H h ps) (x : Ex H H') : Led Hb H' h ps := ⟨L.ex.trans x, L.no, x _ _ L.at_, L.all⟩
/-- a further pair: a list at p that Hb did not know, and its copy -/
theorem Led.step {Hb H H2 : Hp} {h p : Addr} {ps : List V} {ns : List Int} {v : V} (L : Led Hb H h ps) (hb : Hb p = none) (hp : H p = some (.lst (ns.map V.int))) (hph : p ≠ h) (x : Ex H H2) (r : NTx [Is (.ref p), NL (ns.map V.int)] H v H2) :
    ∃ Hb', Ex Hb Hb' ∧ Led Hb' (upd H2 h (.lst (ps ++ [v]))) h (ps ++ [v]) ∧ Hb' p = some (.lst (ns.map V.int)) := by
  obtain ⟨q, vs, rfl, nq, hq, u, _, rfl, e1, u2, _, rfl, ⟨y, rfl, ny, hy⟩, rfl⟩ := r
  cases e1
  have y1 : y ≠ h := fun e => by rw [e, L.at_] at ny; cases ny
  have q1 : q ≠ h := fun e => by rw [e, L.at_] at nq; cases nq
  have yp : y ≠ p := fun e => by rw [e, hp] at ny; cases ny
  have qp : q ≠ p := fun e => by rw [e, hp] at nq; cases nq
  have qy : q ≠ y := fun e => by rw [e, hy] at hq; cases hq
  have z1 : Ex Hb (upd Hb p (.lst (ns.map V.int))) := Ex.new hb
  have by_ : (upd Hb p (.lst (ns.map V.int))) y = none := by rw [upd_ne yp]; exact L.ex.fresh ny
  have z2 : Ex (upd Hb p (.lst (ns.map V.int))) (upd (upd Hb p (.lst (ns.map V.int))) y (.lst (ns.map V.int))) := Ex.new by_
  have bq : (upd (upd Hb p (.lst (ns.map V.int))) y (.lst (ns.map V.int))) q = none := by rw [upd_ne qy, upd_ne qp]; exact L.ex.fresh nq
  have z3 := Ex.new (o := .tup [.ref p, .ref y]) bq
  refine ⟨_, z1.trans (z2.trans z3), ⟨?_, ?_, upd_same, ?_⟩, ?_⟩
  · refine Ex.mut (upd_in (upd_in (upd_in (L.ex.trans x) (x _ _ hp)) hy) hq) ?_
    rw [upd_ne (Ne.symm q1), upd_ne (Ne.symm y1), upd_ne (Ne.symm hph)]
    exact L.no
  · rw [upd_ne (Ne.symm q1), upd_ne (Ne.symm y1), upd_ne (Ne.symm hph)]
    exact L.no
  · intro w hw
    rcases List.mem_append.mp hw with hw | hw
    · exact (L.all.ex (z1.trans (z2.trans z3))) w hw
    · refine ⟨q, p, y, ns, List.mem_singleton.mp hw, upd_same, ?_, ?_⟩
      · rw [upd_ne (Ne.symm qp), upd_ne (Ne.symm yp)]
        exact upd_same
      · rw [upd_ne (Ne.symm qy)]
        exact upd_same
  · rw [upd_ne (Ne.symm qp), upd_ne (Ne.symm yp)]
    exact upd_same
end RB
namespace RB
open PySem L2 PyProof.Rows
open Evl (Ex)
section
variable {X : Cx} {a b e : Expr} {es : List Expr} {rest : List Stmt} {D : Ends} {σ : L2.St} {H : Hp} {pos : Pos} {kk : Nat} {vs : List V}
/-- try: body / except x: suite, where the body may raise one of the class C -/
theorem sb_try {C Cc : Addr} {x : Str} {body suite : List Stmt} {b₀ : Stmt} {np pos' : Pos} {Wout : WX} (hs : X.stack = X.env :: X.outer) (hf : X.env.frame = some X.env.locals) (hc : Names X x (.ref Cc)) (he : PySem.W.exmOne X.K (.ref C) (.ref Cc) = some true) (tk : Takes X Wout)
    (hb : ∀ (W : WX) (pn : List (Addr × Obj)) (xe : Value → Shared → Prop), Takes (X.tr pn xe) W → PassesOwn (model X.prog X.w) X.A X.env xe → (∀ H1, Ex H H1 → W (.ref C) none σ H1) → SB (X.tr pn xe) body { D with nx := fun σ' H' => SX X rest D σ' H' } σ H)
    (hsu : ∀ (a : Addr) (oe : Obj) (pn : List (Addr × Obj)), Zc (.ref C) none oe → (∃ vs, oe.data = .fields vs) → SB (X.suite a ((a, oe) :: pn)) (b₀ :: suite) { D with nx := fun σ' H' => SX X rest D σ' H' } σ H) :
    SB X (.Try body [.ExceptHandler (some (.Name x np)) none (b₀ :: suite) pos'] [] [] pos :: rest) D σ H := fun H' x' =>
  sx_st (ps_try_only (tb := fun W D' σ' H2 => ∀ (pn : List (Addr × Obj)) (xe : Value → Shared → Prop), Takes (X.tr pn xe) W → PassesOwn (model X.prog X.w) X.A X.env xe → SX (X.tr pn xe) body D' σ' H2)
      (ts := fun a cls d D' σ' H2 => ∀ (oe : Obj) (pn : List (Addr × Obj)), Zc cls d oe → (∃ vs, oe.data = .fields vs) → SX (X.suite a ((a, oe) :: pn)) (b₀ :: suite) D' σ' H2) hs hf hc tk
      (fun W pn xe tk' pw => ⟨fun pins s σ' H2 D' I h => (h pn xe tk' pw).run pins s σ' H2 D' I ⟨rfl, rfl, rfl⟩⟩)
      (fun a oe cls d pn z1 z2 => ⟨fun pins s σ' H2 D' I h => (h oe pn z1 z2).run pins s σ' H2 D' I ⟨rfl, rfl, rfl⟩⟩))
    (fun pn xe tk' pw => hb _ pn xe tk' pw (fun H1 y => ⟨true, he, fun _ a ha oe pn z1 z2 => hsu a oe pn z1 z2 H1 y, fun z => by cases z⟩) H' x')
/-- try: body / except x as n: suite -/
theorem sb_tryAs {C Cc : Addr} {x n : Str} {i : Nat} {body suite : List Stmt} {b₀ : Stmt} {np pos' : Pos} {Wout : WX} (hs : X.stack = X.env :: X.outer) (hf : X.env.frame = some X.env.locals) (hN : X.N.Nodup) (hi : X.N[i]? = some n) (hln : X.env.kindOf n = some .local) (hc : Names X x (.ref Cc)) (he : PySem.W.exmOne X.K (.ref C) (.ref Cc) = some true) (tk : Takes X Wout)
    (hb : ∀ (W : WX) (pn : List (Addr × Obj)) (xe : Value → Shared → Prop), Takes (X.tr pn xe) W → PassesOwn (model X.prog X.w) X.A X.env xe → (∀ H1, Ex H H1 → W (.ref C) none σ H1) → SB (X.tr pn xe) body { D with nx := fun σ' H' => SX X rest D σ' H' } σ H)
    (hsu : ∀ (a : Addr) (oe : Obj) (pn : List (Addr × Obj)), Zc (.ref C) none oe → (∃ vs, oe.data = .fields vs) → SB (X.suite a ((a, oe) :: pn)) (b₀ :: suite) { nx := fun σ' H' => SX X rest D (σ'.set i none) H', rt := D.rt, bk := fun σ' H' => D.bk (σ'.set i none) H', ct := fun σ' H' => D.ct (σ'.set i none) H' } (σ.set i (some (.ref a))) H) :
    SB X (.Try body [.ExceptHandler (some (.Name x np)) (some n) (b₀ :: suite) pos'] [] [] pos :: rest) D σ H := fun H' x' =>
  sx_st (ps_try_as (tb := fun W D' σ' H2 => ∀ (pn : List (Addr × Obj)) (xe : Value → Shared → Prop), Takes (X.tr pn xe) W → PassesOwn (model X.prog X.w) X.A X.env xe → SX (X.tr pn xe) body D' σ' H2)
      (ts := fun a cls d D' σ' H2 => ∀ (oe : Obj) (pn : List (Addr × Obj)), Zc cls d oe → (∃ vs, oe.data = .fields vs) → SX (X.suite a ((a, oe) :: pn)) (b₀ :: suite) D' σ' H2) hs hf hN hi hln hc tk
      (fun W pn xe tk' pw => ⟨fun pins s σ' H2 D' I h => (h pn xe tk' pw).run pins s σ' H2 D' I ⟨rfl, rfl, rfl⟩⟩)
      (fun a oe cls d pn z1 z2 => ⟨fun pins s σ' H2 D' I h => (h oe pn z1 z2).run pins s σ' H2 D' I ⟨rfl, rfl, rfl⟩⟩))
    (fun pn xe tk' pw => hb _ pn xe tk' pw (fun H1 y => ⟨true, he, fun _ a ha oe pn z1 z2 => hsu a oe pn z1 z2 H1 y, fun z => by cases z⟩) H' x')
/-- a call in a try's body: what is raised is wished for by W -/
theorem ex_callT' {k : Nat} {ps : List Str} {sp : Sp} {n : Str} {p : Pos} {Q' : Rk} {W : WX} (tk : Takes X W) (G : Dn X.prog X.w X.K X.mg X.base n k ps sp) (hr : Room kk X.A) (ha : AV X (e :: es) σ H vs) (hsp : ∀ H1 Q, Ex H H1 → Gives Q' H1 Q → sp vs H1 Q (WE W σ)) [q : RM Q'] (hk : k ≤ kk := by omega) (hg : Gl X n := by rfl) (hdb : (n == ("__debug__" : Str)) = false := by decide)
    (he : starEach (e :: es) X.env = (false, eval e X.env) :: starEach es X.env := by rfl) (hpl : (backTo pos (starEach es X.env)).any (·.1) = false := by rfl) : EX X (.Call (.Name n p) (e :: es) [] pos) σ H Q' := by
  obtain ⟨f, fd, hm, hk', hb, F, _⟩ := G
  exact PE.weak (pe_callS F (hr.mono hk) hg hm hk' hb (fun σ => passAt tk σ) ha hdb he hpl) fun σ' H' Q ⟨e1, e2, q'⟩ => by
    subst e1
    exact ⟨rfl, e2, fun H2 x2 => hsp H2 Q (e2.trans x2) fun v H3 x3 z => q' v H3 (x2.trans x3) (q.m x2 (Ex.refl _) z)⟩
end
/-- an item of a row -/
theorem at_row {row : List Int} {k y : Int} (h0 : 0 ≤ k) (hy : row[k.toNat]? = some y) : atI (row.map V.int) k = some (.int y) :=
  at_of (show k = ((k.toNat : Nat) : Int) by omega) (by rw [List.getElem?_map, hy]; rfl)
theorem row_at {row : List Int} {k : Int} (h1 : k < (row.length : Int)) (h0 : 0 ≤ k := by omega) : ∃ y, row[k.toNat]? = some y := ⟨_, List.getElem?_eq_getElem (by omega)⟩
end RB
namespace RB
open PySem L2 PyProof.Rows
open Evl (Ex)
theorem xc_use {K : PySem.W.Frag} {mg : Str → Option Value} {n : Str} {C : Addr} {Goal : Prop} (e : Ec K mg n C) (hg : PySem.W.findIn K (.ref C) "__getattribute__" = some (some (.builtin "BaseException.__getattribute__"))) (hk : PySem.W.findIn K (.ref C) "__getattr__" = some none) (hs : PySem.W.subIn K (.ref C) (.type "BaseException") = some true)
    (hd : PySem.W.hasDictIn K C = true) (ha : PySem.W.findIn K (.ref C) "__class__" = some (some (.builtin "object.__class__"))) (hn : PySem.W.specialIn K (.builtin "object.__class__") "__get__" = some (some (.builtin "getset_descriptor.__get__"))) (ht : PySem.W.takesIn K (.builtin "object.__class__") = some true) (hm : PySem.W.mroIn K C (.type "object") = some true)
    (r : ExcC K C → Goal) : Goal := r ⟨hg, hk, hs, hd, ha, hn, ht, hm⟩
theorem sub_use {K : PySem.W.Frag} {mg mg' : Str → Option Value} {n m : Str} {C D : Addr} {b : Bool} {Goal : Prop} (e : Ec K mg n C) (f : Ec K mg' m D) (h : PySem.W.subIn K (.ref C) (.ref D) = some b) (r : PySem.W.subIn K (.ref C) (.ref D) = some b → Goal) : Goal := r h
theorem kit_use {K : PySem.W.Frag} {mg mg' : Str → Option Value} {n m : Str} {C D : Addr} {b : Bool} {Goal : Prop} (e : Ec K mg n C) (f : Ec K mg' m D) (h : PySem.W.kitOne K (.ref C) (.ref D) = some b) (r : PySem.W.kitOne K (.ref C) (.ref D) = some b → Goal) : Goal := r h
theorem kitv_use {K : PySem.W.Frag} {mg : Str → Option Value} {n : Str} {C : Addr} {Goal : Prop} (e : Ec K mg n C) (h : PySem.W.kitOne K (.ref C) (.type "ValueError") = some true) (r : PySem.W.kitOne K (.ref C) (.type "ValueError") = some true → Goal) : Goal := r h
theorem boot_ValueError' : bootBuiltins "ValueError" = some (.type "ValueError") := by decide +kernel
theorem exm_c {K : PySem.W.Frag} {mg : Str → Option Value} {n : Str} {C D : Addr} {b : Bool} (e : Ec K mg n D) (x : ExcC K D) (s : PySem.W.subIn K (.ref C) (.ref D) = some b) : PySem.W.exmOne K (.ref C) (.ref D) = some b := PySem.W.exm_ref e.b x.hd e.t s
/-- isinstance(e, c) of the exception that the suite holds -/
theorem ex_isE {X : Cx} {a D : Addr} {oe : Obj} {pn : List (Addr × Obj)} {e : Expr} {es : List Expr} {σ : L2.St} {H : Hp} {c : V} {cv : Value} {b : Bool} {p pos : Pos} (hm : X.mg "isinstance" = none) (C : ExcC X.K D) (hz : Zc (.ref D) none oe) (hf : ∃ vs, oe.data = .fields vs) (ha : AV (X.suite a ((a, oe) :: pn)) (e :: es) σ H [.ref a, c]) (hc : ∀ u, RelV c u → u = cv) (hk : PySem.W.kitOne X.K (.ref D) cv = some b)
    (hg : Gl (X.suite a ((a, oe) :: pn)) "isinstance" := by rfl) (he : starEach (e :: es) (X.suite a ((a, oe) :: pn)).env = (false, eval e (X.suite a ((a, oe) :: pn)).env) :: starEach es (X.suite a ((a, oe) :: pn)).env := by rfl) (hpl : (backTo pos (starEach es (X.suite a ((a, oe) :: pn)).env)).any (·.1) = false := by rfl) :
    EX (X.suite a ((a, oe) :: pn)) (.Call (.Name "isinstance" p) (e :: es) [] pos) σ H (Is (.bl b)) :=
  ex_callB (call_isE C hz hf) hm boot_isinstance' ha (fun H1 Q x q => ⟨c, cv, b, rfl, hc, hk, q _ H1 (Ex.refl _) rfl⟩) hg (by decide) (by decide) he hpl
/-- the end of a suite whose context is another one -/
theorem sb_out {X Y : Cx} {rest : List Stmt} {D D' : Ends} {σ σ1 : L2.St} {H : Hp} (h : SB Y rest D σ1 H) (hD : D'.nx σ = fun H' => SX Y rest D σ1 H' := by rfl) : SB X [] D' σ H := sb_nil fun H' x => by
  show D'.nx σ H'
  rw [hD]
  exact h H' x
theorem boot_sum' : bootBuiltins "sum" = some (.builtin "sum") := by decide +kernel
/-- sum of a list that is made there, of one that stands -/
theorem ex_sumN {X : Cx} {e : Expr} {es : List Expr} {σ : L2.St} {H : Hp} {p pos : Pos} {xs : List V} {ns : List Int} (hm : X.mg "sum" = none) (ha : AX X (e :: es) σ H [NL xs]) (hx : xs = ns.map V.int) (hc : X.calm = true := by rfl) (hg : Gl X "sum" := by rfl) (he : starEach (e :: es) X.env = (false, eval e X.env) :: starEach es X.env := by rfl) (hpl : (backTo pos (starEach es X.env)).any (·.1) = false := by rfl) :
    EX X (.Call (.Name "sum" p) (e :: es) [] pos) σ H (Is (.int ns.sum)) :=
  ex_callBx (cr_sum hc) hm boot_sum' ha (fun H0 vs H1 Q x0 x1 hv q => by
    obtain ⟨_, _, rfl, ⟨l, rfl, _, hl⟩, rfl⟩ := hv
    rw [hx] at hl
    exact ⟨l, ns, rfl, SqL.of hl, q _ H1 (Ex.refl _) rfl⟩) hg (by decide) (by decide) he hpl
theorem ex_sumI {X : Cx} {e : Expr} {es : List Expr} {σ : L2.St} {H : Hp} {p pos : Pos} {l : Addr} {ns : List Int} (hm : X.mg "sum" = none) (ha : AV X (e :: es) σ H [.ref l]) (hl : SqL X.K H l (ns.map V.int)) (hc : X.calm = true := by rfl) (hg : Gl X "sum" := by rfl) (he : starEach (e :: es) X.env = (false, eval e X.env) :: starEach es X.env := by rfl) (hpl : (backTo pos (starEach es X.env)).any (·.1) = false := by rfl) :
    EX X (.Call (.Name "sum" p) (e :: es) [] pos) σ H (Is (.int ns.sum)) :=
  ex_callB (cr_sum hc) hm boot_sum' ha (fun H1 Q x q => ⟨l, ns, rfl, x.l hl, q _ H1 (Ex.refl _) rfl⟩) hg (by decide) (by decide) he hpl
/-- for x in range(lo, m, c), a step forward -/
theorem rgC {lo m c : Int} (h0 : 0 ≤ lo) (h1 : lo ≤ 1000) (m0 : -1000 ≤ m) (m1 : m ≤ 1000) (c0 : 1 ≤ c) (c1 : c ≤ 1000) : RgC lo m c (Builtin.Range.rangeSize lo m c).toNat ∧ ∀ i : Nat, i < (Builtin.Range.rangeSize lo m c).toNat → lo + (i : Int) * c < m := by
  have e : Builtin.Range.rangeSize lo m c = if lo < m then (m - lo - 1) / c + 1 else 0 := by
    unfold Builtin.Range.rangeSize
    rw [if_pos (show c > 0 by omega)]
  have nn : 0 ≤ (m - lo - 1) / c ∨ ¬ lo < m := by
    by_cases h : lo < m
    · exact .inl (Int.ediv_nonneg (by omega) (by omega))
    · exact .inr h
  have up : lo < m → (m - lo - 1) / c ≤ m - lo - 1 := fun h => Int.ediv_le_self _ (by omega)
  have z0 : 0 ≤ Builtin.Range.rangeSize lo m c ∧ Builtin.Range.rangeSize lo m c ≤ 2001 := by
    rw [e]
    split
    · have := up (by assumption)
      rcases nn with nn | nn
      · omega
      · contradiction
    · omega
  refine ⟨⟨by omega, by omega, ?_, ?_⟩, fun i hi => ?_⟩
  · unfold Builtin.Range.small
    generalize Builtin.Range.rangeSize lo m c = z at z0 ⊢
    simp only [Builtin.Range.rangeFitsLong, Bool.and_eq_true, Bool.or_eq_true, decide_eq_true_eq, beq_iff_eq, if_pos (show c > 0 by omega)]
    omega
  · rw [e]
    split
    · rcases nn with nn | nn
      · omega
      · contradiction
    · rfl
  · rw [e] at hi
    by_cases h : lo < m
    · rw [if_pos h] at hi
      rcases nn with nn | nn
      · have h2 : (i : Int) * c ≤ (m - lo - 1) / c * c := Int.mul_le_mul_of_nonneg_right (by omega) (by omega)
        have := Int.ediv_mul_le (m - lo - 1) (show c ≠ 0 by omega)
        omega
      · exact absurd h nn
    · rw [if_neg h] at hi
      exact absurd hi (by simp)
end RB
namespace RB
open PySem L2 PyProof.Rows
open Evl (Ex)
theorem sb_forR3 {X : Cx} {a b c : Expr} {rest body : List Stmt} {D : Ends} {σ : L2.St} {H : Hp} {pos : Pos} {lo m st : Int} {n : Str} {np p p' : Pos} (j : Nat) (hp : PassesOwn (model X.prog X.w) X.A X.env X.xe) (hN : X.N.Nodup) (hm : X.mg "range" = none) (he : AV X [a, b, c] σ H [.int lo, .int m, .int st]) (hb : (0 ≤ lo ∧ lo ≤ 1000) ∧ (-1000 ≤ m ∧ m ≤ 1000) ∧ 1 ≤ st ∧ st ≤ 1000) (W : Nat → L2.St → Hp → Prop) (h0 : W 0 σ H)
    (hs : ∀ (i : Nat) σ' H', lo + (i : Int) * st < m → W i σ' H' → SB X body { nx := Up (W (i + 1)), rt := D.rt, bk := fun σ' H' => SX X rest D σ' H', ct := Up (W (i + 1)) } (σ'.set j (some (.int (lo + (i : Int) * st)))) H')
    (hd : ∀ (i : Nat) σ' H', W i σ' H' → SB X rest D σ' H') (hg : Gl X "range" := by rfl) (hc : X.calm = true := by rfl) (hi : X.N[j]? = some n := by rfl) (hv : Loc X.env.scope n := by first | exact Or.inl rfl | exact Or.inr rfl) (hf : X.fn n = true ∨ X.env.scope.names.lookup n = some .local := by first | exact .inl rfl | exact .inr rfl | assumption)
    (hs1 : starEach [a, b, c] X.env = (false, eval a X.env) :: starEach [b, c] X.env := by rfl) (hpl : (backTo p' (starEach [b, c] X.env)).any (·.1) = false := by rfl) (hs' : ∀ x, foldedSetIterable (.Call (.Name "range" p) [a, b, c] [] p') X.env x = pure x := by intro _; rfl) : SB X (.For (.Name n np) (.Call (.Name "range" p) [a, b, c] [] p') body [] pos :: rest) D σ H := fun H' x =>
  have r := rgC (lo := lo) (m := m) (c := st) hb.1.1 hb.1.2 hb.2.1.1 hb.2.1.2 hb.2.2.1 hb.2.2.2
  sx_st (ps_for hp hc (pi_range3 hg hm he hs1 hpl) (pg_name hN hi hv hf) (sx_all X body) hs') ⟨rfl, x, fun H2 y => ⟨lo, m, st, _, rfl, r.1,
    for_rangeC (lo := lo) (c := st) (fun i => Up (W i)) ⟨H, x.trans y, h0⟩ (fun i σ' H3 hi ⟨H0, z, w⟩ => hs i σ' H0 (r.2 i hi) w H3 z) fun σ' H3 ⟨H0, z, w⟩ => hd _ σ' H0 w H3 z⟩⟩
/-- an item of a list that is made there -/
theorem ex_ixN {X : Cx} {a b : Expr} {σ : L2.St} {H : Hp} {pos : Pos} {xs : List V} {i : Int} {v : V} (ha : EX X a σ H (NL xs)) (hb : EX X b σ H (Is (.int i))) (hi : atI xs i = some v) (hs : PlainIx b := by exact fun _ _ => rfl) : EX X (.Subscript a b pos) σ H (Is v) :=
  PE.weak (pe_ix ix_list ha hb hs) fun σ' H' Q ⟨e1, e2, q'⟩ => ⟨e1, e2, fun u H2 x2 hu => ⟨e1, e2.trans x2, fun u' H3 x3 hu' => by
    obtain ⟨l, rfl, _, hl⟩ := hu
    cases hu'
    exact ⟨l, xs, i, v, rfl, rfl, SqL.of (x3 _ _ hl), hi, q' _ H3 (x2.trans x3) rfl⟩⟩⟩
/-- int(a truth value) -/
theorem ex_intB {X : Cx} {e : Expr} {es : List Expr} {σ : L2.St} {H : Hp} {p pos : Pos} {k : Bool} (hm : X.mg "int" = none) (ha : AV X (e :: es) σ H [.bl k]) (hg : Gl X "int" := by rfl) (he : starEach (e :: es) X.env = (false, eval e X.env) :: starEach es X.env := by rfl) (hpl : (backTo pos (starEach es X.env)).any (·.1) = false := by rfl) :
    EX X (.Call (.Name "int" p) (e :: es) [] pos) σ H (Is (.int (if k then 1 else 0))) :=
  ex_callT call_int1 hm boot_int' ha (fun H1 Q x q => .inr ⟨k, rfl, q _ H1 (Ex.refl _) rfl⟩) hg (by decide) (by decide) he hpl
/-- the heap without what stands at h -/
def del (H : Hp) (h : Addr) : Hp := fun x => if x = h then none else H x
theorem del_same {H : Hp} {h : Addr} : del H h h = none := by unfold del; rw [if_pos rfl]
theorem del_ne {H : Hp} {h x : Addr} (n : x ≠ h) : del H h x = H x := by unfold del; rw [if_neg n]
theorem del_ex {H : Hp} {h : Addr} : Ex (del H h) H := fun a o e => by
  by_cases q : a = h
  · rw [q, del_same] at e; cases e
  · rw [del_ne q] at e; exact e
theorem del_in {Hb H : Hp} {h : Addr} (x : Ex Hb H) (n : Hb h = none) : Ex Hb (del H h) := fun a o e => by
  have q : a ≠ h := fun q => by rw [q, n] at e; cases e
  rw [del_ne q]
  exact x a o e
theorem Led.renew {Hb H : Hp} {h : Addr} {ps : List V} (L : Led Hb H h ps) : Led (del H h) H h ps := ⟨del_ex, del_same, L.at_, L.all.ex (del_in L.ex L.no)⟩
end RB
namespace RB
open PySem L2 PyProof.Rows
open Evl (Ex)
/-- for over what an expression gives, which is known of it when it is there -/
theorem sb_forP {X : Cx} {e : Expr} {rest body : List Stmt} {D : Ends} {σ : L2.St} {H : Hp} {pos : Pos} {R : Rk} [q : RM R] {n : Str} {np : Pos} (j : Nat) (hp : PassesOwn (model X.prog X.w) X.A X.env X.xe) (hN : X.N.Nodup) (he : EX X e σ H R)
    (k : ∀ u H1, Ex H H1 → R H u H1 → ∃ (l : Addr) (xs : List V) (W : Nat → L2.St → Hp → Prop), u = .ref l ∧ W 0 σ H1 ∧ (∀ i σ' H', i ≤ xs.length → W i σ' H' → SqL X.K H' l xs) ∧
      (∀ i x σ' H', xs[i]? = some x → W i σ' H' → SB X body { nx := Up (W (i + 1)), rt := D.rt, bk := fun σ' H' => SX X rest D σ' H', ct := Up (W (i + 1)) } (σ'.set j (some x)) H') ∧ (∀ σ' H', W xs.length σ' H' → SB X rest D σ' H'))
    (hc : X.calm = true := by rfl) (hi : X.N[j]? = some n := by rfl) (hv : Loc X.env.scope n := by first | exact Or.inl rfl | exact Or.inr rfl) (hf : X.fn n = true ∨ X.env.scope.names.lookup n = some .local := by first | exact .inl rfl | exact .inr rfl | assumption)
    (hs' : ∀ x, foldedSetIterable e X.env x = pure x := by intro _; rfl) : SB X (.For (.Name n np) e body [] pos :: rest) D σ H := fun H' x =>
  sx_st (ps_for hp hc (pi_list he) (pg_name hN hi hv hf) (sx_all X body) hs') ⟨rfl, x, fun v H2 y r => by
    obtain ⟨l, xs, W, e1, h0, hl, hs, hd⟩ := k v H2 (x.trans y) (q.m x (Ex.refl _) r)
    subst e1
    exact ⟨l, rfl, ⟨xs, hl 0 _ _ (Nat.zero_le _) h0⟩, for_list (xs := xs) (fun i => Up (W i)) ⟨H2, Ex.refl _, h0⟩ (fun i σ' H3 hi ⟨H0, z, w⟩ => z.l (hl i σ' H0 hi w)) (fun i x σ' H3 hi ⟨H0, z, w⟩ => hs i x σ' H0 hi w H3 z) fun σ' H3 ⟨H0, z, w⟩ => hd σ' H0 w H3 z⟩⟩
def tElI (σ : L2.St) (H : Hp) (j : Nat) (xs ys : List V) : TE := fun σ' H1 Q => ∃ (i : Nat) (x y : V), xs[i]? = some x ∧ ys[i]? = some y ∧ σ' = (wipe σ [j]).set j (some x) ∧ Ex H H1 ∧ ∀ H2, Ex H1 H2 → Q y H2
/-- [elt for x in a list], the values told by place -/
theorem ex_lcY {X : Cx} {σ : L2.St} {H : Hp} {pos : Pos} {elt it : Expr} {n : Str} {scope : Scope} {xs : List V} {l : Addr} {np : Pos} (j : Nat) (ys : List V) (hN : X.N.Nodup) (hit : EX X it σ H (Is (.ref l))) (hl : SqL X.K H l xs) (hz : xs.length ≤ 900000) (hy : ys.length = xs.length) (ok : BlkOk X.N X.env.scope scope [(n, j)])
    (hgn : ∀ (s : Shared) (H : Hp) (C : Addr) (cl : List (Str × Addr)) (fp : List Addr), PG (X.blk s H scope (compEnvC scope cl C X.env) fp) (.Name n np) (gName j))
    (he : ∀ (s : Shared) (H' : Hp) (C : Addr) (cl : List (Str × Addr)) (fp : List Addr) (i : Nat) (x y : V) (H1 : Hp), Ex H H1 → xs[i]? = some x → ys[i]? = some y → EX (X.blk s H' scope (compEnvC scope cl C X.env) fp) elt ((wipe σ [j]).set j (some x)) H1 (Is y))
    (hc : X.calm = true := by rfl) (hs : ∀ x, foldedSetIterable it X.env x = pure x := by intro _; rfl) :
    EX X (.ListComp elt [⟨.Name n np, it, [], 0⟩] scope pos) σ H (NL ys) := by
  have h1 : ∀ (s : Shared) (H' : Hp) (C : Addr) (cl : List (Str × Addr)) (fp : List Addr), PE (X.blk s H' scope (compEnvC scope cl C X.env) fp) elt (tElI σ H j xs ys) :=
    fun s H' C cl fp => ⟨fun pins s' σ' H1 Q I ⟨i, x, y, hi, hyi, e, z, q⟩ => (he s H' C cl fp i x y H1 z hi hyi).run pins s' σ' H1 Q I ⟨e, Ex.refl _, fun v H2 y r => by cases r; exact q H2 y⟩⟩
  refine PE.weak (pe_lc (own := [(n, j)]) (tt := tYes) hc hN (pi_list hit) ok hgn (fun _ _ _ _ _ => pts_nil) h1 hs) fun σ' H' Q ⟨e1, e2, q⟩ => ?_
  subst e1
  refine ⟨rfl, e2, fun u H2 x2 r => ?_⟩
  cases r
  refine ⟨l, rfl, ⟨xs, (e2.trans x2).l hl⟩, fun D hD => ?_⟩
  refine lc_list (K := X.K) (xs := xs) (g := gName j) (tt := tYes) (te := tElI σ' H j xs ys) (vs := [j]) (σ := σ') (fun i H3 => Ex H2 H3 ∧ H3 D = some (.lst (ys.take i))) ⟨Ex.new hD, upd_same⟩ (fun i H3 _ w => ((e2.trans x2).trans w.1).l hl) (fun i x H3 hi ⟨w1, w2⟩ => ?_) (fun H3 ⟨w1, w2⟩ => q _ H3 (x2.trans w1) ⟨D, rfl, x2.fresh hD, by rw [w2, ← hy, List.take_length]⟩)
  have hlt := (List.getElem?_eq_some_iff.mp hi).1
  obtain ⟨y, hyi⟩ : ∃ y, ys[i]? = some y := ⟨_, List.getElem?_eq_getElem (by omega)⟩
  refine ⟨wipe_one _ _ _, i, x, y, hi, hyi, rfl, (e2.trans x2).trans w1, fun H4 x4 => ⟨_, x4 _ _ w2, ?_, Ex.mut (w1.trans x4) hD, ?_⟩⟩
  · rw [List.length_take]
    exact sz_lt (by omega)
  · rw [List.take_succ, hyi]
    exact upd_same
end RB
namespace RB
open PySem L2 PyProof.Rows
open Evl (Ex)
/-- a call of fresh things that may raise -/
theorem ex_callXx {X : Cx} {e : Expr} {es : List Expr} {σ : L2.St} {H : Hp} {pos : Pos} {Rs : List Rk} {k kk : Nat} {ps : List Str} {sp : Sp} {n : Str} {p : Pos} {Q' : Rk} {E : XK} (hx : Passes (L2.CX X.prog X.w) X E) (G : Dn X.prog X.w X.K X.mg X.base n k ps sp) (hr : Room kk X.A) (ha : AX X (e :: es) σ H Rs) (hsp : ∀ vs H1 Q, Ex H H1 → AllR Rs H vs H1 → Gives Q' H1 Q → sp vs H1 Q E) [q0 : RMs Rs] [q : RM Q'] (hk : k ≤ kk := by omega) (hg : Gl X n := by rfl) (hdb : (n == ("__debug__" : Str)) = false := by decide)
    (he : starEach (e :: es) X.env = (false, eval e X.env) :: starEach es X.env := by rfl) (hpl : (backTo pos (starEach es X.env)).any (·.1) = false := by rfl) : EX X (.Call (.Name n p) (e :: es) [] pos) σ H Q' := by
  obtain ⟨f, fd, hm, hk', hb, F, _⟩ := G
  exact PE.weak (pe_call F (hr.mono hk) hg hm hk' hb .nil hx ha hdb he hpl) fun σ' H' Q ⟨e1, e2, q'⟩ => ⟨e1, e2, fun us H2 x2 hu => by
    show sp (_ ++ []) _ _ _
    rw [List.append_nil]
    exact hsp us H2 Q (e2.trans x2) (q0.m e2 (Ex.refl _) hu) fun v H3 x3 z => q' v H3 (x2.trans x3) (q.m x2 (Ex.refl _) z)⟩
end RB
namespace RB
open PySem L2 PyProof.Rows
open Evl (Ex)
section
variable {X : Cx} {a b e : Expr} {es : List Expr} {rest : List Stmt} {D : Ends} {σ : L2.St} {H : Hp} {pos : Pos}
/-- try: body / except x as n: suite, where the body raises nothing -/
theorem sb_tryAs0 {Cc : Addr} {x n : Str} {i : Nat} {body suite : List Stmt} {b₀ : Stmt} {np pos' : Pos} {Wout : WX} (hs : X.stack = X.env :: X.outer) (hf : X.env.frame = some X.env.locals) (hN : X.N.Nodup) (hi : X.N[i]? = some n) (hln : X.env.kindOf n = some .local) (hc : Names X x (.ref Cc)) (tk : Takes X Wout)
    (hb : ∀ (W : WX) (pn : List (Addr × Obj)) (xe : Value → Shared → Prop), Takes (X.tr pn xe) W → PassesOwn (model X.prog X.w) X.A X.env xe → SB (X.tr pn xe) body { D with nx := fun σ' H' => SX X rest D σ' H' } σ H) :
    SB X (.Try body [.ExceptHandler (some (.Name x np)) (some n) (b₀ :: suite) pos'] [] [] pos :: rest) D σ H := fun H' x' =>
  sx_st (ps_try_as (tb := fun W D' σ' H2 => ∀ (pn : List (Addr × Obj)) (xe : Value → Shared → Prop), Takes (X.tr pn xe) W → PassesOwn (model X.prog X.w) X.A X.env xe → SX (X.tr pn xe) body D' σ' H2)
      (ts := fun a cls d D' σ' H2 => ∀ (oe : Obj) (pn : List (Addr × Obj)), Zc cls d oe → (∃ vs, oe.data = .fields vs) → SX (X.suite a ((a, oe) :: pn)) (b₀ :: suite) D' σ' H2) hs hf hN hi hln hc tk
      (fun W pn xe tk' pw => ⟨fun pins s σ' H2 D' I h => (h pn xe tk' pw).run pins s σ' H2 D' I ⟨rfl, rfl, rfl⟩⟩)
      (fun a oe cls d pn z1 z2 => ⟨fun pins s σ' H2 D' I h => (h oe pn z1 z2).run pins s σ' H2 D' I ⟨rfl, rfl, rfl⟩⟩))
    (fun pn xe tk' pw => hb _ pn xe tk' pw H' x')
end
end RB
namespace RB
open PySem L2 PyProof.Rows
open Evl (Ex)
/-! ### what changes the heap: all that is known behind it stands in R -/
abbrev Rm := V → Hp → Prop
def tM (σ : L2.St) (H : Hp) (R : Rm) : TE := fun σ' H' Q => σ' = σ ∧ Ex H H' ∧ ∀ v H2, R v H2 → Q v H2
def tMT (σ : L2.St) (H : Hp) (b : Bool) (R : Hp → Prop) : TT := fun σ' H' Q => σ' = σ ∧ Ex H H' ∧ ∀ H2, R H2 → Q b H2
def EXm (X : Cx) (e : Expr) (σ : L2.St) (H : Hp) (R : Rm) : Prop := PE X e (tM σ H R)
def TXm (X : Cx) (e : Expr) (σ : L2.St) (H : Hp) (b : Bool) (R : Hp → Prop) : Prop := PT X e (tMT σ H b R)
def WXm (X : Cx) (e : Expr) (σ : L2.St) (H : Hp) (b : Bool) (R : Hp → Prop) : Prop := PW X e (tMT σ H b R)
/-- it ends with all of R -/
def GivesM (R : Rm) (Q : VK) : Prop := ∀ v H2, R v H2 → Q v H2
section
variable {X : Cx} {a b c e : Expr} {es : List Expr} {rest body orelse : List Stmt} {D : Ends} {σ : L2.St} {H : Hp} {pos : Pos} {vs : List V} {R : Rm} {T : Hp → Prop} {k : Bool}
theorem ex_callM {j kk : Nat} {ps : List Str} {sp : Sp} {n : Str} {p : Pos} (G : Dn X.prog X.w X.K X.mg X.base n j ps sp) (hr : Room kk X.A) (ha : AV X (e :: es) σ H vs) (hsp : ∀ H1 Q, Ex H H1 → GivesM R Q → sp vs H1 Q E0) (hk : j ≤ kk := by omega) (hg : Gl X n := by rfl) (hdb : (n == ("__debug__" : Str)) = false := by decide)
    (he : starEach (e :: es) X.env = (false, eval e X.env) :: starEach es X.env := by rfl) (hpl : (backTo pos (starEach es X.env)).any (·.1) = false := by rfl) : EXm X (.Call (.Name n p) (e :: es) [] pos) σ H R := by
  obtain ⟨f, fd, hm, hk', hb, F, _⟩ := G
  exact PE.weak (pe_call F (hr.mono hk) hg hm hk' hb .nil passL ha hdb he hpl) fun σ' H' Q ⟨e1, e2, q'⟩ => ⟨e1, e2, fun H2 x2 => by
    show sp (_ ++ []) _ _ _
    rw [List.append_nil]
    exact hsp H2 Q (e2.trans x2) q'⟩
theorem EXm.mono {R' : Rm} (h : EXm X e σ H R) (w : ∀ v H2, R v H2 → R' v H2) : EXm X e σ H R' := PE.weak h fun σ' H' Q ⟨e1, e2, q⟩ => ⟨e1, e2, fun v H2 r => q v H2 (w v H2 r)⟩
theorem txm_val (h : EXm X e σ H (fun v H2 => v = .bl k ∧ T H2)) (he : ∀ whole, isTrue e X.env whole = (do let v ← whole; standAt e.pos; holding [v] (truthy v)) := by intro _; rfl) : TXm X e σ H k T :=
  PT.weak (pt_val h he) fun σ' H' Q ⟨e1, e2, q⟩ => ⟨e1, e2, fun v H2 ⟨hv, r⟩ => ⟨k, hv, q H2 r⟩⟩
theorem txm_not (h : TXm X a σ H k T) : TXm X (.UnaryOp .Not a pos) σ H (!k) T :=
  PT.weak (pt_not h) fun σ' H' Q ⟨e1, e2, q⟩ => ⟨e1, e2, fun H2 r => q H2 r⟩
theorem wxm_and1 {k : Bool} (h : TXm X a σ H k T) : WXm X (.BoolOp .And [a] pos) σ H k T := pw_and1 h
theorem wxm_and {k m : Bool} {rest : List Expr} (h : TX X a σ H k) (hk : k = true) (h2 : WXm X (.BoolOp .And (b :: rest) pos) σ H m T) : WXm X (.BoolOp .And (a :: b :: rest) pos) σ H m T := by
  subst hk
  exact PW.weak (pw_and h h2) fun σ' H' Q ⟨e1, e2, q⟩ => ⟨e1, e2, fun H2 x2 => ⟨e1, e2.trans x2, fun H3 r => q H3 r⟩⟩
theorem txm_w (h : WXm X e σ H k T) : TXm X e σ H k T := PW.pt h
theorem txm_and2 {k m : Bool} (h : TX X a σ H k) (hk : k = true) (h2 : TXm X b σ H m T) : TXm X (.BoolOp .And [a, b] pos) σ H m T := txm_w (wxm_and h hk (wxm_and1 h2))
theorem TXm.is {k' : Bool} (h : TXm X e σ H k T) (w : k = k') : TXm X e σ H k' T := w ▸ h
theorem sb_whenM (hc : TXm X c σ H k T) (h1 : k = true → ∀ H2, T H2 → SB X body { D with nx := fun σ' H' => SX X rest D σ' H' } σ H2) (h2 : k = false → ∀ H2, T H2 → SB X rest D σ H2) : SB X (.If c body [] pos :: rest) D σ H := fun H' x =>
  sx_st (ps_if hc (sx_all X body) (sx_all X [])) ⟨rfl, x, fun H2 r => by
    cases k with
    | true => exact h1 rfl H2 r H2 (Ex.refl _)
    | false => exact sx_nil (D := { D with nx := fun σ' H' => SX X rest D σ' H' }) (h2 rfl H2 r H2 (Ex.refl _))⟩
theorem sb_exprM (he : EXm X e σ H R) (k : ∀ v H2, R v H2 → SB X rest D σ H2) (hs : swapsWith e none pos.line X.env = pure false := by rfl) : SB X (.Expr e pos :: rest) D σ H := fun H' x =>
  sx_st (ps_expr he hs) ⟨rfl, x, fun v H2 r => k v H2 r H2 (Ex.refl _)⟩
theorem sb_retM (he : EXm X e σ H R) (k : ∀ v H2, R v H2 → D.rt v H2) : SB X (.Return (some e) pos :: rest) D σ H := fun H' x =>
  sx_st (ps_ret he) ⟨rfl, x, fun v H2 r => k v H2 r⟩
theorem sb_asgM (i : Nat) {n : Str} {pos' : Pos} (hN : X.N.Nodup) (he : EXm X e σ H R) (k : ∀ v H2, R v H2 → SB X rest D (σ.set i (some v)) H2) (hi : X.N[i]? = some n := by rfl) (hx : Loc X.env.scope n := by first | exact Or.inl rfl | exact Or.inr rfl)
    (hs : swapsWith e (some (.Name n pos')) pos.line X.env = pure false := by rfl) (hf : X.fn n = true ∨ X.env.scope.names.lookup n = some .local := by first | exact .inl rfl | exact .inr rfl | assumption) : SB X (.Assign [.Name n pos'] e pos :: rest) D σ H := fun H' x =>
  sx_st (ps_set hN hi hx he hs hf) ⟨rfl, x, fun v H2 r => k v H2 r H2 (Ex.refl _)⟩
end
/-- min of a list that is made there -/
theorem ex_minN {X : Cx} {e : Expr} {es : List Expr} {σ : L2.St} {H : Hp} {p pos : Pos} {xs : List V} {ns : List Int} {m : Int} (hm : X.mg "min" = none) (ha : AX X (e :: es) σ H [NL xs]) (hx : xs = ns.map V.int) (h : IsMin m ns) (hc : X.calm = true := by rfl) (hg : Gl X "min" := by rfl) (he : starEach (e :: es) X.env = (false, eval e X.env) :: starEach es X.env := by rfl) (hpl : (backTo pos (starEach es X.env)).any (·.1) = false := by rfl) :
    EX X (.Call (.Name "min" p) (e :: es) [] pos) σ H (Is (.int m)) :=
  ex_callBx (cr_min hc) hm boot_min ha (fun H0 vs H1 Q x0 x1 hv q => by
    obtain ⟨_, _, rfl, ⟨l, rfl, _, hl⟩, rfl⟩ := hv
    rw [hx] at hl
    exact ⟨l, ns, rfl, SqL.of hl, List.length_pos_of_mem h.1, fun m' h1 h2 => by
      have e : m' = m := isMin_unique ⟨h1, h2⟩ h
      rw [e]
      exact q _ H1 (Ex.refl _) rfl⟩) hg (by decide) (by decide) he hpl
/-- list.index of a list that is made there -/
theorem ex_indexN {X : Cx} {a e : Expr} {σ : L2.St} {H : Hp} {p cpos : Pos} {xs : List V} {ns : List Int} {j : Nat} {m : Int} (ha : EX X a σ H (NL xs)) (hx : xs = ns.map V.int) (he : EX X e σ H (Is (.int m))) (h1 : ns[j]? = some m) (h2 : ∀ (k : Nat) y, k < j → ns[k]? = some y → y ≠ m)
    (hs1 : starEach [e] X.env = (false, eval e X.env) :: starEach [] X.env := by rfl) (hbase : attributeBase a "index" X.env (eval a X.env) = eval a X.env := by rfl)
    (hfew : ((backTo cpos (starEach [e] X.env)).all (fun x => !x.1) && (backToKw cpos (keywordEach [] X.env)).all (fun x => x.1.isSome)
      && decide ([e].length + ([] : List Keyword).length + (if ([] : List Keyword).isEmpty then 0 else 1) < 30)) = true := by rfl)
    (hline : (p.endLine == cpos.line) = true := by rfl) : EX X (.Call (.Attribute a "index" p) [e] [] cpos) σ H (Is (.int (j : Int))) := by
  have h3 : PE X (.Call (.Attribute a "index" p) [e] [] cpos) (tBM X.K "list" (rIndex X.K) (tE σ H (NL xs)) (tCons (tE σ H (Is (.int m))) tNil)) := pe_bm PySem.F.plainAttrs_list PySem.F.slot_list_index PySem.F.type_list_index mt_index ha (pa_cons he pa_nil hs1) hbase hfew hline hs1
  refine PE.weak h3 fun σ' H' Q ⟨e1, e2, q⟩ => ⟨e1, e2, fun u H2 x2 r => ?_⟩
  obtain ⟨l, rfl, n1, hl⟩ := r
  refine ⟨.inl ⟨rfl, _, SqL.of hl⟩, e1, e2.trans x2, fun u H3 x3 r => ?_⟩
  cases r
  subst hx
  refine ⟨l, ns.map V.int, .int m, j, .int m, rfl, rfl, SqL.of (x3 _ _ hl), rfl, ?_, ?_, ?_, ?_, q _ H3 (x2.trans x3) rfl⟩
  · rw [List.all_map]
    exact List.all_eq_true.mpr fun _ _ => rfl
  · rw [List.getElem?_map, h1]
    rfl
  · show decide (m = m) = true
    simp
  · intro k z hk hz
    rw [List.getElem?_map] at hz
    cases hy : ns[k]? with
    | none => rw [hy] at hz; cases hz
    | some y =>
      rw [hy] at hz
      cases hz
      show decide (y = m) = false
      exact decide_eq_false (h2 k y hk hy)
/-- a list whose items are told by place -/
def NLo (P : Nat → Hp → V → Prop) (n : Nat) : Rk := fun H1 u H2 => ∃ p xs, u = .ref p ∧ H1 p = none ∧ H2 p = some (.lst xs) ∧ xs.length = n ∧ ∀ (i : Nat) x, xs[i]? = some x → P i H2 x
/-- told by tuples alone -/
class TM (P : Hp → V → Prop) : Prop where
  m : ∀ {H H' : Hp} {v : V}, (∀ a xs, H a = some (.tup xs) → H' a = some (.tup xs)) → P H v → P H' v
instance (P : Hp → V → Prop) [q : TM P] : PM P := ⟨fun x h => q.m (fun a xs e => x a _ e) h⟩
instance (P : Nat → Hp → V → Prop) (n : Nat) [q : ∀ i, TM (P i)] : RM (NLo P n) := ⟨fun e0 e2 ⟨p, xs, h1, h2, h3, h4, h5⟩ => ⟨p, xs, h1, e0.fresh h2, e2 _ _ h3, h4, fun i x hx => (q i).m (fun a xs e => e2 a _ e) (h5 i x hx)⟩⟩
def tElP (σ : L2.St) (H : Hp) (j : Nat) (m : Int) (P : Nat → Hp → V → Prop) : TE := fun σ' H1 Q => ∃ i : Nat, (i : Int) < m ∧ σ' = (wipe σ [j]).set j (some (.int i)) ∧ Ex H H1 ∧ ∀ v H2, Ex H1 H2 → P i H2 v → Q v H2
/-- [elt for x in range(m)], what is told of the items -/
theorem ex_lcRP {X : Cx} {a elt : Expr} {n : Str} {scope : Scope} {m : Int} {np p p' pos : Pos} {σ : L2.St} {H : Hp} (j : Nat) (P : Nat → Hp → V → Prop) [qp : ∀ i, TM (P i)] (hN : X.N.Nodup) (hm : X.mg "range" = none) (ha : AV X [a] σ H [.int m]) (hb : 0 ≤ m ∧ m ≤ 1000000) (ok : BlkOk X.N X.env.scope scope [(n, j)])
    (hgn : ∀ (s : Shared) (H : Hp) (C : Addr) (cl : List (Str × Addr)) (fp : List Addr), PG (X.blk s H scope (compEnvC scope cl C X.env) fp) (.Name n np) (gName j))
    (he : ∀ (s : Shared) (H' : Hp) (C : Addr) (cl : List (Str × Addr)) (fp : List Addr) (i : Nat) (H1 : Hp), Ex H H1 → (i : Int) < m → EX (X.blk s H' scope (compEnvC scope cl C X.env) fp) elt ((wipe σ [j]).set j (some (.int i))) H1 (Of (P i)))
    (hc : X.calm = true := by rfl) (hg : Gl X "range" := by rfl) (hs1 : starEach [a] X.env = [(false, eval a X.env)] := by rfl) (hs : ∀ x, foldedSetIterable (.Call (.Name "range" p) [a] [] p') X.env x = pure x := by intro _; rfl) :
    EX X (.ListComp elt [⟨.Name n np, .Call (.Name "range" p) [a] [] p', [], 0⟩] scope pos) σ H (NLo P m.toNat) := by
  have h1 : ∀ (s : Shared) (H' : Hp) (C : Addr) (cl : List (Str × Addr)) (fp : List Addr), PE (X.blk s H' scope (compEnvC scope cl C X.env) fp) elt (tElP σ H j m P) :=
    fun s H' C cl fp => ⟨fun pins s' σ' H1 Q I ⟨i, hi, e, x, q⟩ => (he s H' C cl fp i H1 x hi).run pins s' σ' H1 Q I ⟨e, Ex.refl _, fun v H2 y r => q v H2 y r⟩⟩
  refine PE.weak (pe_lc (own := [(n, j)]) (tt := tYes) hc hN (pi_range1 hg hm ha hs1) ok hgn (fun _ _ _ _ _ => pts_nil) h1 hs) fun σ' H' Q ⟨e1, e2, q⟩ => ?_
  subst e1
  refine ⟨rfl, e2, fun H2 x2 => ⟨m, rfl, by omega, by omega, fun D hD => ?_⟩⟩
  refine lc_range (lo := 0) (n := m.toNat) (g := gName j) (tt := tYes) (te := tElP σ' H j m P) (vs := [j]) (σ := σ') (fun i H3 => Ex H2 H3 ∧ ∃ xs, H3 D = some (.lst xs) ∧ xs.length = i ∧ ∀ (k : Nat) x, xs[k]? = some x → P k H3 x) ⟨Ex.new hD, [], upd_same, rfl, fun k x hk => by simp at hk⟩ (fun i H3 hi ⟨w1, xs, w2, w3, w4⟩ => ?_) (fun H3 ⟨w1, xs, w2, w3, w4⟩ => q _ H3 (x2.trans w1) ⟨D, xs, rfl, x2.fresh hD, w2, w3, w4⟩)
  refine ⟨wipe_one _ _ _, i, by omega, by rw [Int.zero_add], (e2.trans x2).trans w1, fun v H4 x4 pv => ⟨xs, x4 _ _ w2, ?_, Ex.mut (w1.trans x4) hD, xs ++ [v], upd_same, by rw [List.length_append, w3]; rfl, fun k x hk => ?_⟩⟩
  · rw [w3]
    exact sz_lt (by omega)
  have dd : ∀ (a : Addr) (zs : List V), H4 a = some (.tup zs) → (upd H4 D (.lst (xs ++ [v]))) a = some (.tup zs) := fun a zs e => by
    rw [upd_ne (ne_of e (x4 _ _ w2) (by intro z; cases z))]
    exact e
  by_cases c : k < xs.length
  · rw [List.getElem?_append_left c] at hk
    exact (qp k).m dd ((qp k).m (fun a zs e => x4 a _ e) (w4 k x hk))
  · have e : k = xs.length := by
      have := (List.getElem?_eq_some_iff.mp hk).1
      rw [List.length_append, List.length_singleton] at this
      omega
    subst e
    rw [List.getElem?_concat_length] at hk
    cases hk
    rw [w3]
    exact (qp i).m dd pv
/-- a further pair: a list that was made behind Hb, beside one that stands -/
theorem Led.pair {Hb H H2 : Hp} {h p y : Addr} {ps : List V} {ns : List Int} {v : V} (L : Led Hb H h ps) (hb : Hb p = none) (hp : H p = some (.lst (ns.map V.int))) (hph : p ≠ h) (hy : Hb y = some (.lst (ns.map V.int))) (x : Ex H H2) (r : NT [.ref p, .ref y] H v H2) :
    ∃ Hb', Ex Hb Hb' ∧ Led Hb' (upd H2 h (.lst (ps ++ [v]))) h (ps ++ [v]) := by
  obtain ⟨q, rfl, nq, hq⟩ := r
  have q1 : q ≠ h := fun e => by rw [e, L.at_] at nq; cases nq
  have qp : q ≠ p := fun e => by rw [e, hp] at nq; cases nq
  have z1 : Ex Hb (upd Hb p (.lst (ns.map V.int))) := Ex.new hb
  have bq : (upd Hb p (.lst (ns.map V.int))) q = none := by rw [upd_ne qp]; exact L.ex.fresh nq
  have z3 := Ex.new (o := .tup [.ref p, .ref y]) bq
  refine ⟨_, z1.trans z3, ⟨?_, ?_, upd_same, ?_⟩⟩
  · refine Ex.mut (upd_in (upd_in (L.ex.trans x) (x _ _ hp)) hq) ?_
    rw [upd_ne (Ne.symm q1), upd_ne (Ne.symm hph)]
    exact L.no
  · rw [upd_ne (Ne.symm q1), upd_ne (Ne.symm hph)]
    exact L.no
  · intro w hw
    rcases List.mem_append.mp hw with hw | hw
    · exact (L.all.ex (z1.trans z3)) w hw
    · refine ⟨q, p, y, ns, List.mem_singleton.mp hw, upd_same, ?_, ?_⟩
      · rw [upd_ne (Ne.symm qp)]
        exact upd_same
      · exact (z1.trans z3) _ _ hy
end RB
namespace RB
open PySem L2 PyProof.Rows
open Evl (Ex)
/-- if a and not b: .., b a call that changes the heap and is true -/
theorem sb_andM {X : Cx} {a b : Expr} {rest body : List Stmt} {D : Ends} {σ : L2.St} {H : Hp} {p p2 pos : Pos} {T : Hp → Prop} {k : Bool} (h : TX X a σ H k) (h2 : k = true → EXm X b σ H (fun v H2 => v = .bl true ∧ T H2)) (h0 : T H) (kk : ∀ H2, T H2 → SB X rest D σ H2)
    (he : ∀ whole, isTrue b X.env whole = (do let v ← whole; standAt b.pos; holding [v] (truthy v)) := by intro _; rfl) : SB X (.If (.BoolOp .And [a, .UnaryOp .Not b p] p2) body [] pos :: rest) D σ H := by
  cases k with
  | true => exact sb_whenM (k := false) (txm_and2 h rfl (txm_not (k := true) (txm_val (h2 rfl) he))) (fun c => by cases c) (fun _ H2 t => kk H2 t)
  | false => exact sb_when (k := false) (tx_w (wx_and (m := true) h (fun c => by cases c))) (fun c => by cases c) (fun _ => kk H h0)
theorem sb_notM {X : Cx} {b : Expr} {rest body : List Stmt} {D : Ends} {σ : L2.St} {H : Hp} {p pos : Pos} {T : Hp → Prop} (h2 : EXm X b σ H (fun v H2 => v = .bl true ∧ T H2)) (kk : ∀ H2, T H2 → SB X rest D σ H2)
    (he : ∀ whole, isTrue b X.env whole = (do let v ← whole; standAt b.pos; holding [v] (truthy v)) := by intro _; rfl) : SB X (.If (.UnaryOp .Not b p) body [] pos :: rest) D σ H :=
  sb_whenM (k := false) (txm_not (k := true) (txm_val h2 he)) (fun c => by cases c) (fun _ H2 t => kk H2 t)
end RB
namespace RB
open PySem L2 PyProof.Rows
open Evl (Ex)
/-- name = [elt for x in range(m)] on one line -/
theorem sb_lcRP {X : Cx} {a elt : Expr} {n y : Str} {scope : Scope} {m : Int} {np py p p' pos spos : Pos} {rest : List Stmt} {D : Ends} {σ : L2.St} {H : Hp} (i j : Nat) (P : Nat → Hp → V → Prop) [qp : ∀ i, TM (P i)] (hN : X.N.Nodup) (hm : X.mg "range" = none) (ha : AV X [a] σ H [.int m]) (hb : 0 ≤ m ∧ m ≤ 1000000) (ok : BlkOk X.N X.env.scope scope [(n, j)])
    (hgn : ∀ (s : Shared) (H : Hp) (C : Addr) (cl : List (Str × Addr)) (fp : List Addr), PG (X.blk s H scope (compEnvC scope cl C X.env) fp) (.Name n np) (gName j))
    (he : ∀ (s : Shared) (H' : Hp) (C : Addr) (cl : List (Str × Addr)) (fp : List Addr) (i : Nat) (H1 : Hp), Ex H H1 → (i : Int) < m → EX (X.blk s H' scope (compEnvC scope cl C X.env) fp) elt ((wipe σ [j]).set j (some (.int i))) H1 (Of (P i)))
    (k : ∀ v H2, Ex H H2 → NLo P m.toNat H v H2 → SB X rest D (σ.set i (some v)) H2)
    (hi : X.N[i]? = some y := by rfl) (hyl : X.env.scope.names.lookup y = some .local := by rfl) (hk : X.env.scope.kind = .function := by rfl) (hl : (py.line == pos.line) = true := by rfl) (hany : (scope.names.any fun (n, k) => n == y && (k == .local || k == .cell)) = false := by decide +kernel)
    (hc : X.calm = true := by rfl) (hg : Gl X "range" := by rfl) (hs1 : starEach [a] X.env = [(false, eval a X.env)] := by rfl) (hs : ∀ x, foldedSetIterable (.Call (.Name "range" p) [a] [] p') X.env x = pure x := by intro _; rfl) :
    SB X (.Assign [.Name y py] (.ListComp elt [⟨.Name n np, .Call (.Name "range" p) [a] [] p', [], 0⟩] scope pos) spos :: rest) D σ H := fun H0 e2 => by
  have h1 : ∀ (s : Shared) (H' : Hp) (C : Addr) (cl : List (Str × Addr)) (fp : List Addr), PE (X.blk s H' scope (compEnvC scope cl C X.env) fp) elt (tElP σ H j m P) :=
    fun s H' C cl fp => ⟨fun pins s' σ' H1 Q I ⟨i, hi, e, x, q⟩ => (he s H' C cl fp i H1 x hi).run pins s' σ' H1 Q I ⟨e, Ex.refl _, fun v H2 y r => q v H2 y r⟩⟩
  refine sx_st (ps_setLc (own := [(n, j)]) (tt := tYes) hc hN hi hyl (sw_true hk hyl hl hany) (pi_range1 hg hm ha hs1) ok hgn (fun _ _ _ _ _ => pts_nil) h1 hs) ?_
  refine ⟨rfl, e2, fun H2 x2 => ⟨m, rfl, by omega, by omega, fun L hD => ?_⟩⟩
  refine lc_range (lo := 0) (n := m.toNat) (g := gName j) (tt := tYes) (te := tElP σ H j m P) (vs := [j]) (σ := σ) (fun i H3 => Ex H2 H3 ∧ ∃ xs, H3 L = some (.lst xs) ∧ xs.length = i ∧ ∀ (k : Nat) x, xs[k]? = some x → P k H3 x) ⟨Ex.new hD, [], upd_same, rfl, fun k x hk => by simp at hk⟩ (fun i H3 hi ⟨w1, xs, w2, w3, w4⟩ => ?_) (fun H3 ⟨w1, xs, w2, w3, w4⟩ => k _ H3 (e2.trans (x2.trans w1)) ⟨L, xs, rfl, (e2.trans x2).fresh hD, w2, w3, w4⟩ H3 (Ex.refl _))
  refine ⟨wipe_one _ _ _, i, by omega, by rw [Int.zero_add], (e2.trans x2).trans w1, fun v H4 x4 pv => ⟨xs, x4 _ _ w2, ?_, Ex.mut (w1.trans x4) hD, xs ++ [v], upd_same, by rw [List.length_append, w3]; rfl, fun k x hk => ?_⟩⟩
  · rw [w3]
    exact sz_lt (by omega)
  have dd : ∀ (a : Addr) (zs : List V), H4 a = some (.tup zs) → (upd H4 L (.lst (xs ++ [v]))) a = some (.tup zs) := fun a zs e => by
    rw [upd_ne (ne_of e (x4 _ _ w2) (by intro z; cases z))]
    exact e
  by_cases c : k < xs.length
  · rw [List.getElem?_append_left c] at hk
    exact (qp k).m dd ((qp k).m (fun a zs e => x4 a _ e) (w4 k x hk))
  · have e : k = xs.length := by
      have := (List.getElem?_eq_some_iff.mp hk).1
      rw [List.length_append, List.length_singleton] at this
      omega
    subst e
    rw [List.getElem?_concat_length] at hk
    cases hk
    rw [w3]
    exact (qp i).m dd pv
end RB
namespace RB
open PySem L2 PyProof.Rows
open Evl (Ex)
section
variable {X : Cx} {a b c e : Expr} {es : List Expr} {rest body : List Stmt} {D : Ends} {σ : L2.St} {H : Hp} {pos : Pos} {vs : List V} {R : Rm}
/-- l.pop() -/
theorem sb_pop {l : Addr} {xs : List V} {y : V} {p cpos : Pos} (ha : EX X a σ H (Is (.ref l))) (hl : H l = some (.lst xs)) (hy : xs[xs.length - 1]? = some y) (k : SB X rest D σ (upd H l (.lst xs.dropLast)))
    (hs : swapsWith (.Call (.Attribute a "pop" p) [] [] cpos) none pos.line X.env = pure false := by rfl)
    (hbase : attributeBase a "pop" X.env (eval a X.env) = eval a X.env := by rfl) (hline : (p.endLine == cpos.line) = true := by rfl) : SB X (.Expr (.Call (.Attribute a "pop" p) [] [] cpos) pos :: rest) D σ H := fun H' x => by
  have h1 : PE X (.Call (.Attribute a "pop" p) [] [] cpos) (tBM0 X.K "list" rPop (tE σ H (Is (.ref l)))) := pe_bm0 PySem.F.plainAttrs_list PySem.F.slot_list_pop PySem.F.type_list_pop mt_pop ha hbase hline
  refine sx_st (ps_expr h1 hs) ⟨rfl, x, fun v H2 y' r => ?_⟩
  cases r
  refine ⟨.inl ⟨rfl, _, SqL.of ((x.trans y') _ _ hl)⟩, l, xs, y, rfl, rfl, (x.trans y') _ _ hl, hy, ?_⟩
  exact k _ (upd_mono (x.trans y'))
/-- l.append(e), e a call that changes the heap -/
theorem sb_appM {l : Addr} {ys : List V} {p cpos : Pos} (ha : EX X a σ H (Is (.ref l))) (hl : H l = some (.lst ys)) (he : EXm X e σ H R) (k : ∀ v H2, R v H2 → ∃ xs, H2 l = some (.lst xs) ∧ xs.length < 1000000 ∧ SB X rest D σ (upd H2 l (.lst (xs ++ [v]))))
    (hs : swapsWith (.Call (.Attribute a "append" p) [e] [] cpos) none pos.line X.env = pure false := by rfl) (hs1 : starEach [e] X.env = (false, eval e X.env) :: starEach [] X.env := by rfl)
    (hbase : attributeBase a "append" X.env (eval a X.env) = eval a X.env := by rfl)
    (hfew : ((backTo cpos (starEach [e] X.env)).all (fun x => !x.1) && (backToKw cpos (keywordEach [] X.env)).all (fun x => x.1.isSome)
      && decide ([e].length + ([] : List Keyword).length + (if ([] : List Keyword).isEmpty then 0 else 1) < 30)) = true := by rfl)
    (hline : (p.endLine == cpos.line) = true := by rfl) : SB X (.Expr (.Call (.Attribute a "append" p) [e] [] cpos) pos :: rest) D σ H := fun H' x => by
  have h1 : PE X (.Call (.Attribute a "append" p) [e] [] cpos) (tBM X.K "list" rAppend (tE σ H (Is (.ref l))) (tCons (tM σ H R) tNil)) := pe_bm PySem.F.plainAttrs_list PySem.F.slot_list_append PySem.F.type_list_append mt_append ha (pa_cons he pa_nil hs1) hbase hfew hline hs1
  refine sx_st (ps_expr h1 hs) ⟨rfl, x, fun v H2 y r => ?_⟩
  cases r
  refine ⟨.inl ⟨rfl, _, SqL.of ((x.trans y) _ _ hl)⟩, rfl, x.trans y, fun u H3 r => ?_⟩
  obtain ⟨xs, h2, h3, h4⟩ := k u H3 r
  exact ⟨l, xs, u, rfl, rfl, h2, sz_lt h3, h4 _ (Ex.refl _)⟩
/-- such a call in a try's body: what is raised is wished for by W -/
theorem ex_callMT' {k kk : Nat} {ps : List Str} {sp : Sp} {n : Str} {p : Pos} {W : WX} (tk : Takes X W) (G : Dn X.prog X.w X.K X.mg X.base n k ps sp) (hr : Room kk X.A) (ha : AV X (e :: es) σ H vs) (hsp : ∀ H1 Q, Ex H H1 → GivesM R Q → sp vs H1 Q (WE W σ)) (hk : k ≤ kk := by omega) (hg : Gl X n := by rfl) (hdb : (n == ("__debug__" : Str)) = false := by decide)
    (he : starEach (e :: es) X.env = (false, eval e X.env) :: starEach es X.env := by rfl) (hpl : (backTo pos (starEach es X.env)).any (·.1) = false := by rfl) : EXm X (.Call (.Name n p) (e :: es) [] pos) σ H R := by
  obtain ⟨f, fd, hm, hk', hb, F, _⟩ := G
  exact PE.weak (pe_callS F (hr.mono hk) hg hm hk' hb (fun σ => passAt tk σ) ha hdb he hpl) fun σ' H' Q ⟨e1, e2, q'⟩ => by
    subst e1
    exact ⟨rfl, e2, fun H2 x2 => hsp H2 Q (e2.trans x2) q'⟩
end
end RB
namespace RB
open PySem L2 PyProof.Rows
open Evl (Ex)
/-- what a suite comes to -/
abbrev tsS (X : Cx) (sts : List Stmt) : Addr → Value → Option Addr → TS := fun a cls d D' σ' H2 => ∀ (oe : Obj) (pn : List (Addr × Obj)), Zc cls d oe → (∃ vs, oe.data = .fields vs) → SX (X.suite a ((a, oe) :: pn)) sts D' σ' H2
/-- try: body / except x1: .. / except x2: .. / except x3: .. -/
theorem sb_try3 {X : Cx} {rest body : List Stmt} {D : Ends} {σ : L2.St} {H : Hp} {pos : Pos} {C1 C2 C3 : Addr} {x1 x2 x3 : Str} {s1 s2 s3 : List Stmt} {b1 b2 b3 : Stmt} {n1 n2 n3 p1 p2 p3 : Pos} {Wout : WX} (Q1 Q2 Q3 : Prop) (hs : X.stack = X.env :: X.outer) (hf : X.env.frame = some X.env.locals)
    (hc1 : Names X x1 (.ref C1)) (hc2 : Names X x2 (.ref C2)) (hc3 : Names X x3 (.ref C3)) (e11 : PySem.W.exmOne X.K (.ref C1) (.ref C1) = some true) (e21 : PySem.W.exmOne X.K (.ref C2) (.ref C1) = some false) (e22 : PySem.W.exmOne X.K (.ref C2) (.ref C2) = some true)
    (e31 : PySem.W.exmOne X.K (.ref C3) (.ref C1) = some false) (e32 : PySem.W.exmOne X.K (.ref C3) (.ref C2) = some false) (e33 : PySem.W.exmOne X.K (.ref C3) (.ref C3) = some true) (tk : Takes X Wout)
    (hsu1 : Q1 → ∀ (a : Addr) (oe : Obj) (pn : List (Addr × Obj)), Zc (.ref C1) none oe → (∃ vs, oe.data = .fields vs) → SB (X.suite a ((a, oe) :: pn)) (b1 :: s1) { D with nx := fun σ' H' => SX X rest D σ' H' } σ H)
    (hsu2 : Q2 → ∀ (a : Addr) (oe : Obj) (pn : List (Addr × Obj)), Zc (.ref C2) none oe → (∃ vs, oe.data = .fields vs) → SB (X.suite a ((a, oe) :: pn)) (b2 :: s2) { D with nx := fun σ' H' => SX X rest D σ' H' } σ H)
    (hsu3 : Q3 → ∀ (a : Addr) (oe : Obj) (pn : List (Addr × Obj)), Zc (.ref C3) none oe → (∃ vs, oe.data = .fields vs) → SB (X.suite a ((a, oe) :: pn)) (b3 :: s3) { D with nx := fun σ' H' => SX X rest D σ' H' } σ H)
    (hb : ∀ (W : WX) (pn : List (Addr × Obj)) (xe : Value → Shared → Prop), Takes (X.tr pn xe) W → PassesOwn (model X.prog X.w) X.A X.env xe → (∀ C, (C = C1 ∧ Q1) ∨ (C = C2 ∧ Q2) ∨ (C = C3 ∧ Q3) → ∀ H1, Ex H H1 → W (.ref C) none σ H1) → SB (X.tr pn xe) body { D with nx := fun σ' H' => SX X rest D σ' H' } σ H) :
    SB X (.Try body [.ExceptHandler (some (.Name x1 n1)) none (b1 :: s1) p1, .ExceptHandler (some (.Name x2 n2)) none (b2 :: s2) p2, .ExceptHandler (some (.Name x3 n3)) none (b3 :: s3) p3] [] [] pos :: rest) D σ H := fun H' x' => by
  have run : ∀ (sts : List Stmt) (a : Addr) (oe : Obj) (cls : Value) (d : Option Addr) (pn : List (Addr × Obj)), Zc cls d oe → (∃ vs, oe.data = .fields vs) → PSs (X.suite a ((a, oe) :: pn)) sts (tsS X sts a cls d) :=
    fun sts a oe cls d pn z1 z2 => ⟨fun pins s σ' H2 D' I h => (h oe pn z1 z2).run pins s σ' H2 D' I ⟨rfl, rfl, rfl⟩⟩
  refine sx_st (ps_try_many (l := [(.ref C1, tsS X (b1 :: s1)), (.ref C2, tsS X (b2 :: s2)), (.ref C3, tsS X (b3 :: s3))]) (tb := fun W D' σ' H2 => ∀ (pn : List (Addr × Obj)) (xe : Value → Shared → Prop), Takes (X.tr pn xe) W → PassesOwn (model X.prog X.w) X.A X.env xe → SX (X.tr pn xe) body D' σ' H2) hs hf tk
      (fun W pn xe tk' pw => ⟨fun pins s σ' H2 D' I h => (h pn xe tk' pw).run pins s σ' H2 D' I ⟨rfl, rfl, rfl⟩⟩)
      (.cons hc1 (run _) (.cons hc2 (run _) (.cons hc3 (run _) .nil)))) ?_
  refine fun pn xe tk' pw => hb _ pn xe tk' pw (fun C hC H1 y => ?_) H' x'
  rcases hC with ⟨rfl, hQ⟩ | ⟨rfl, hQ⟩ | ⟨rfl, hQ⟩
  · exact ⟨true, e11, fun _ a ha oe pn z1 z2 => hsu1 hQ a oe pn z1 z2 H1 y, fun z => by cases z⟩
  · exact ⟨false, e21, (fun z => by cases z), fun _ => ⟨true, e22, fun _ a ha oe pn z1 z2 => hsu2 hQ a oe pn z1 z2 H1 y, fun z => by cases z⟩⟩
  · exact ⟨false, e31, (fun z => by cases z), fun _ => ⟨false, e32, (fun z => by cases z), fun _ => ⟨true, e33, fun _ a ha oe pn z1 z2 => hsu3 hQ a oe pn z1 z2 H1 y, fun z => by cases z⟩⟩⟩
end RB
namespace RB
open PySem L2 PyProof.Rows
open Evl (Ex)
/-- a call of fresh things that changes the heap -/
theorem ex_callMx {X : Cx} {e : Expr} {es : List Expr} {σ : L2.St} {H : Hp} {pos : Pos} {Rs : List Rk} {R : Rm} {j kk : Nat} {ps : List Str} {sp : Sp} {n : Str} {p : Pos} (G : Dn X.prog X.w X.K X.mg X.base n j ps sp) (hr : Room kk X.A) (ha : AX X (e :: es) σ H Rs) (hsp : ∀ vs H0 H1 Q, Ex H H0 → Ex H0 H1 → AllR Rs H0 vs H1 → GivesM R Q → sp vs H1 Q E0) (hk : j ≤ kk := by omega) (hg : Gl X n := by rfl) (hdb : (n == ("__debug__" : Str)) = false := by decide)
    (he : starEach (e :: es) X.env = (false, eval e X.env) :: starEach es X.env := by rfl) (hpl : (backTo pos (starEach es X.env)).any (·.1) = false := by rfl) : EXm X (.Call (.Name n p) (e :: es) [] pos) σ H R := by
  obtain ⟨f, fd, hm, hk', hb, F, _⟩ := G
  exact PE.weak (pe_call F (hr.mono hk) hg hm hk' hb .nil passL ha hdb he hpl) fun σ' H' Q ⟨e1, e2, q'⟩ => ⟨e1, e2, fun us H2 x2 hu => by
    show sp (_ ++ []) _ _ _
    rw [List.append_nil]
    exact hsp us H' H2 Q e2 x2 hu q'⟩
/-! pairs of two things of the same data -/
mutual
theorem Dp.up {K : PySem.W.Frag} {H H' : Hp} (x : Ex H H') : ∀ (d : PyData) (v : V), Dp K H v d → Dp K H' v d
  | .none, _, h => by cases h; exact .non
  | .bool _, _, h => by cases h; exact .bl _
  | .int _, _, h => by cases h; exact .int _
  | .str _, _, h => by cases h; exact .str _
  | .list ds, _, h => by
    cases h with
    | lst hs ha => exact .lst (x.l hs) (Dp.upAll x ds _ ha)
  | .tuple ds, _, h => by
    cases h with
    | tup hs ha => exact .tup (x.t hs) (Dp.upAll x ds _ ha)
  | .dict _, _, h => by cases h
theorem Dp.upAll {K : PySem.W.Frag} {H H' : Hp} (x : Ex H H') : ∀ (ds : List PyData) (vs : List V), DpAll K H vs ds → DpAll K H' vs ds
  | [], _, h => by cases h; exact .nil
  | d :: ds, _, h => by
    cases h with
    | cons h1 h2 => exact .cons (Dp.up x d _ h1) (Dp.upAll x ds _ h2)
end
theorem dpAll_at {K : PySem.W.Frag} {H : Hp} : ∀ {vs : List V} {ds : List PyData}, vs.length = ds.length → (∀ (i : Nat) d, ds[i]? = some d → ∃ v, vs[i]? = some v ∧ Dp K H v d) → DpAll K H vs ds
  | [], [], _, _ => .nil
  | [], d :: ds, h, _ => by cases h
  | v :: vs, [], h, _ => by cases h
  | v :: vs, d :: ds, h, f => by
    obtain ⟨u, e, hu⟩ := f 0 d rfl
    cases e
    exact .cons hu (dpAll_at (Nat.succ.inj h) fun i d' hd => f (i + 1) d' hd)
def HeldG (K : PySem.W.Frag) (H : Hp) (ps : List V) : Prop := ∀ v ∈ ps, ∃ (q x y : Addr) (d : PyData), v = .ref q ∧ H q = some (.tup [.ref x, .ref y]) ∧ SeqAt.shaped d = true ∧ Dp K H (.ref x) d ∧ Dp K H (.ref y) d
theorem HeldG.ex {K : PySem.W.Frag} {H H' : Hp} {ps : List V} (h : HeldG K H ps) (x : Ex H H') : HeldG K H' ps := fun v hv => by
  obtain ⟨q, a, b, d, e, h1, h2, h3, h4⟩ := h v hv
  exact ⟨q, a, b, d, e, x _ _ h1, h2, Dp.up x d _ h3, Dp.up x d _ h4⟩
theorem heldTXg {X : Cx} {σ : L2.St} {H : Hp} {kk : Nat} {Hb : Hp} {ps : List V} {x : V} {e1 e2 i0 i1 : Expr} {p0 p1 pc : Pos} (hr : Room kk X.A) (hb : HeldG X.K Hb ps) (ex : Ex Hb H) (hx : x ∈ ps) (ha : EX X e1 σ H (Is x)) (hc : EX X e2 σ H (Is x)) (h0 : EX X i0 σ H (Is (.int 0))) (h1 : EX X i1 σ H (Is (.int 1)))
    (hs0 : PlainIx i0) (hs1 : PlainIx i1) : TX X (.Compare (.Subscript e1 i0 p0) [.NotEq] [.Subscript e2 i1 p1] pc) σ H false := by
  obtain ⟨q, a, b, d, rfl, k1, k2, k3, k4⟩ := hb x hx
  exact tx_neD (ex_ixT ha h0 (SqT.of (ex _ _ k1)) rfl hs0) (ex_ixT hc h1 (SqT.of (ex _ _ k1)) rfl hs1) hr d k2 (fun H1 v H2 y z r => by cases r; exact Dp.up (ex.trans (y.trans z)) d _ k3) (fun H1 v H2 y z r => by cases r; exact Dp.up (ex.trans (y.trans z)) d _ k4)
/-- the heap without some places -/
def dels (H : Hp) (S : List Addr) : Hp := fun x => if x ∈ S then none else H x
theorem dels_in {H : Hp} {S : List Addr} {x : Addr} (n : x ∈ S) : dels H S x = none := by unfold dels; rw [if_pos n]
theorem dels_ne {H : Hp} {S : List Addr} {x : Addr} (n : x ∉ S) : dels H S x = H x := by unfold dels; rw [if_neg n]
theorem dels_ex {H : Hp} {S : List Addr} : Ex (dels H S) H := fun a o e => by
  by_cases q : a ∈ S
  · rw [dels_in q] at e; cases e
  · rw [dels_ne q] at e; exact e
theorem dels_mono {H H' : Hp} {S : List Addr} (x : Ex H H') : Ex (dels H S) (dels H' S) := fun a o e => by
  by_cases q : a ∈ S
  · rw [dels_in q] at e; cases e
  · rw [dels_ne q] at e ⊢; exact x a o e
theorem dels_upd {H : Hp} {S : List Addr} {a : Addr} {o : HO} (n : a ∈ S) : dels (upd H a o) S = dels H S := by
  funext x
  by_cases q : x ∈ S
  · rw [dels_in q, dels_in q]
  · rw [dels_ne q, dels_ne q, upd_ne (fun e => q (by rw [e]; exact n))]
theorem dels_of {Hb H : Hp} {S : List Addr} (x : Ex Hb H) (n : ∀ a ∈ S, Hb a = none) : Ex Hb (dels H S) := fun a o e => by
  have q : a ∉ S := fun q => by rw [n a q] at e; cases e
  rw [dels_ne q]
  exact x a o e
theorem dels_sub {H : Hp} {S S' : List Addr} (s : ∀ a ∈ S', a ∈ S) : Ex (dels H S) (dels H S') := fun a o e => by
  have q : a ∉ S := fun q => by rw [dels_in q] at e; cases e
  rw [dels_ne q] at e
  rw [dels_ne (fun z => q (s a z))]
  exact e
end RB
namespace RB
open PySem L2 PyProof.Rows
open Evl (Ex)
instance tm_eq {f : Nat → V} (i : Nat) : TM (fun (_ : Hp) u => u = f i) := ⟨fun _ h => h⟩
theorem nlo_map {f : Nat → V} {n : Nat} {H1 H2 : Hp} {u : V} (h : NLo (fun i _ u => u = f i) n H1 u H2) : NL ((List.range n).map f) H1 u H2 := by
  obtain ⟨p, xs, h1, h2, h3, h4, h5⟩ := h
  have e : xs = (List.range n).map f := by
    apply List.ext_getElem?
    intro i
    rw [List.getElem?_map]
    by_cases c : i < n
    · have hx := List.getElem?_eq_getElem (l := xs) (i := i) (by omega)
      rw [hx, List.getElem?_range c, h5 i _ hx]
      rfl
    · rw [List.getElem?_eq_none (by omega), List.getElem?_eq_none (by rw [List.length_range]; omega)]
      rfl
  rw [e] at h3
  exact ⟨p, h1, h2, h3⟩
end RB
set_option autoImplicit false
/-! lines of words, numbers written -/
namespace RB
open PySem TL NumText
/-- the words between blanks -/
def wdsF : List Nat → List Nat → List (List Nat)
  | cur, [] => [cur]
  | cur, c :: l => if c = 32 then cur :: wdsF [] l else wdsF (cur ++ [c]) l
def wds (l : List Nat) : List (List Nat) := wdsF [] l
theorem wdsF_ne : ∀ (l cur : List Nat), wdsF cur l ≠ []
  | [], _ => by simp [wdsF]
  | c :: l, cur => by
    rw [wdsF]
    split
    · simp
    · exact wdsF_ne l _
theorem wdsF_join : ∀ (l cur : List Nat), joinL [32] (wdsF cur l) = cur ++ l
  | [], cur => by rw [wdsF, List.append_nil]; rfl
  | c :: l, cur => by
    rw [wdsF]
    split
    · rename_i e
      subst e
      have ih := wdsF_join l []
      have hne := wdsF_ne l []
      cases h : wdsF [] l with
      | nil => exact absurd h hne
      | cons p r =>
        rw [h] at ih
        show cur ++ ([32] ++ joinL [32] (p :: r)) = _
        rw [ih]
        rfl
    · rw [wdsF_join l (cur ++ [c]), List.append_assoc]
      rfl
theorem wdsF_free : ∀ (l cur : List Nat), 32 ∉ cur → ∀ p ∈ wdsF cur l, 32 ∉ p
  | [], cur, h, p, hp => by
    rw [wdsF] at hp
    rw [List.mem_singleton.mp hp]
    exact h
  | c :: l, cur, h, p, hp => by
    rw [wdsF] at hp
    split at hp
    · rcases List.mem_cons.mp hp with e | hp
      · rw [e]; exact h
      · exact wdsF_free l [] (by simp) p hp
    · rename_i n
      refine wdsF_free l (cur ++ [c]) (fun hm => ?_) p hp
      rcases List.mem_append.mp hm with hm | hm
      · exact h hm
      · exact n (List.mem_singleton.mp hm).symm
theorem wdsF_len : ∀ (l cur : List Nat), ∀ p ∈ wdsF cur l, p.length ≤ cur.length + l.length
  | [], cur, p, hp => by
    rw [wdsF] at hp
    rw [List.mem_singleton.mp hp]
    omega
  | c :: l, cur, p, hp => by
    rw [wdsF] at hp
    rw [List.length_cons]
    split at hp
    · rcases List.mem_cons.mp hp with e | hp
      · rw [e]; omega
      · have := wdsF_len l [] p hp
        rw [List.length_nil] at this
        omega
    · have := wdsF_len l (cur ++ [c]) p hp
      rw [List.length_append, List.length_singleton] at this
      omega
theorem wdsF_count : ∀ (l cur : List Nat), (wdsF cur l).length ≤ l.length + 1
  | [], cur => by rw [wdsF]; exact Nat.le_refl _
  | c :: l, cur => by
    rw [wdsF, List.length_cons]
    split
    · rw [List.length_cons]
      have := wdsF_count l []
      omega
    · have := wdsF_count l (cur ++ [c])
      omega
/-- a loop over the line and a blank behind: the parts so far, the part -/
def wst (st : List (List Nat) × List Nat) (c : Nat) : List (List Nat) × List Nat := if c = 32 then (st.1 ++ [st.2], []) else (st.1, st.2 ++ [c])
theorem wst_fold : ∀ (l : List Nat) (ps : List (List Nat)) (cur : List Nat), (l ++ [32]).foldl wst (ps, cur) = (ps ++ wdsF cur l, [])
  | [], ps, cur => by
    show wst (ps, cur) 32 = _
    unfold wst wdsF
    rw [if_pos rfl]
  | c :: l, ps, cur => by
    rw [List.cons_append, List.foldl_cons]
    unfold wdsF
    by_cases e : c = 32
    · have h : wst (ps, cur) c = (ps ++ [cur], []) := if_pos e
      rw [h, wst_fold l, if_pos e, List.append_assoc]
      rfl
    · have h : wst (ps, cur) c = (ps, cur ++ [c]) := if_neg e
      rw [h, wst_fold l, if_neg e]
def mkS (l : List Nat) : Str := ⟨l.toArray⟩
theorem tl_mkS (l : List Nat) : tl (mkS l) = l := rfl
theorem mkS_tl (x : Str) : mkS (tl x) = x := mk_tl x
theorem mkS_inj {a b : List Nat} (h : mkS a = mkS b) : a = b := by
  have := congrArg tl h
  exact this
theorem mkS_len (l : List Nat) : (mkS l).length = l.length := by rw [len_tl, tl_mkS]
theorem line_join (x : Str) : Txt.join (mkS [32]) ((wds (tl x)).map mkS) = x := by
  rw [join_eq]
  refine ext_tl ?_
  rw [tl_join, List.map_map]
  show joinL [32] ((wds (tl x)).map fun l => tl (mkS l)) = tl x
  rw [show (fun l => tl (mkS l)) = id from rfl, List.map_id]
  have := wdsF_join (tl x) []
  rw [List.nil_append] at this
  exact this
theorem line_split (x : Str) : Txt.split x (mkS [32]) = (wds (tl x)).map mkS := by
  conv => lhs; rw [← line_join x]
  refine split_join (s := 32) (S := []) rfl (by decide +kernel) (fun e => wdsF_ne _ _ (List.map_eq_nil_iff.mp e)) fun p hp => ?_
  obtain ⟨l, hl, rfl⟩ := List.mem_map.mp hp
  exact wdsF_free _ _ (by simp) l hl

/-! numbers -/
def figs (w : List Nat) : List Nat := if w.take 1 = [45] then w.drop 1 else w
def OkN (w : List Nat) : Prop := figs w ≠ [] ∧ w ≠ [45, 48] ∧ ¬ ((figs w).head? = some 48 ∧ 1 < (figs w).length) ∧ AllDigits (figs w)
instance (w : List Nat) : Decidable (AllDigits w) := by unfold AllDigits; infer_instance
instance (w : List Nat) : Decidable (OkN w) := by unfold OkN; infer_instance
def valN (w : List Nat) : Int := if w.take 1 = [45] then 0 - (digitsVal (figs w) : Int) else (digitsVal (figs w) : Int)
theorem digitsVal_snoc (l : List Nat) (c : Nat) : digitsVal (l ++ [c]) = digitsVal l * 10 + (c - 48) := by
  unfold digitsVal
  rw [List.foldl_append]
  rfl
theorem fold_mono : ∀ (l : List Nat) (a : Nat), 0 < a → 0 < l.foldl (fun acc c => acc * 10 + (c - 48)) a
  | [], _, h => h
  | c :: l, a, h => fold_mono l (a * 10 + (c - 48)) (by omega)
theorem digitsVal_pos {l : List Nat} (h : AllDigits l) (hne : l ≠ []) (h0 : l.head? ≠ some 48) : 0 < digitsVal l := by
  cases l with
  | nil => exact absurd rfl hne
  | cons c l =>
    have hc := h.head
    have : c ≠ 48 := fun e => h0 (by rw [e]; rfl)
    exact fold_mono l (0 * 10 + (c - 48)) (by omega)
theorem digitsVal_lt : ∀ {l : List Nat}, AllDigits l → digitsVal l < 10 ^ l.length := by
  have key : ∀ (l : List Nat) (a : Nat), AllDigits l → l.foldl (fun acc c => acc * 10 + (c - 48)) a < (a + 1) * 10 ^ l.length := by
    intro l
    induction l with
    | nil => intro a _; simp
    | cons c l ih =>
      intro a h
      have hc := h.head
      have := ih (a * 10 + (c - 48)) h.tail
      rw [List.foldl_cons, List.length_cons, Nat.pow_succ]
      refine Nat.lt_of_lt_of_le this ?_
      rw [Nat.mul_comm (10 ^ l.length) 10, ← Nat.mul_assoc]
      exact Nat.mul_le_mul_right _ (by omega)
  intro l h
  have := key l 0 h
  rw [Nat.zero_add, Nat.one_mul] at this
  exact this
theorem numL_canon : ∀ (n : Nat) (l : List Nat), l.length = n → AllDigits l → l ≠ [] → (l.head? ≠ some 48 ∨ l.length = 1) → numL (digitsVal l) = l := by
  intro n
  induction n with
  | zero => intro l h _ hne; exact absurd (List.eq_nil_of_length_eq_zero h) hne
  | succ n ih =>
    intro l hl hd hne hz
    obtain ⟨m, c, rfl⟩ : ∃ m c, l = m ++ [c] := ⟨l.dropLast, l.getLast hne, (List.dropLast_concat_getLast hne).symm⟩
    have hc := hd c (by simp)
    have hm : AllDigits m := fun d hd' => hd d (List.mem_append_left _ hd')
    rw [digitsVal_snoc]
    by_cases e : m = []
    · subst e
      show numL (0 * 10 + (c - 48)) = [c]
      rw [numL_lt (by omega)]
      congr 1
      omega
    · rw [List.length_append, List.length_singleton] at hl hz
      have hml := List.length_pos_iff.mpr e
      have h0 : m.head? ≠ some 48 := by
        rcases hz with hz | hz
        · intro h
          apply hz
          cases m with
          | nil => exact absurd rfl e
          | cons x r => exact h
        · omega
      have hp := digitsVal_pos hm e h0
      rw [numL_step (by omega), show (digitsVal m * 10 + (c - 48)) / 10 = digitsVal m by omega, show 48 + (digitsVal m * 10 + (c - 48)) % 10 = c by omega, ih m (by omega) hm e (.inl h0)]
theorem tl_neg (n : Nat) (h : 0 < n) : tl (Str.ofString (toString (0 - (n : Int)))) = 45 :: numL n := by
  obtain ⟨m, rfl⟩ : ∃ m, n = m + 1 := ⟨n - 1, by omega⟩
  have e : (0 : Int) - ((m + 1 : Nat) : Int) = Int.negSucc m := by omega
  rw [e]
  have e2 : toString (Int.negSucc m) = "-" ++ toString (m + 1) := rfl
  rw [e2, tl_ofString, String.toList_append, List.map_append]
  have e3 := tl_num (m + 1)
  rw [tl_ofString] at e3
  have e4 : toString ((m + 1 : Nat) : Int) = toString (m + 1) := rfl
  rw [e4] at e3
  rw [e3]
  rfl
/-- a number that is written so is written by its own text -/
theorem ok_text {w : List Nat} (h : OkN w) : Str.ofString (toString (valN w)) = mkS w := by
  obtain ⟨h1, h2, h3, h4⟩ := h
  have hc : numL (digitsVal (figs w)) = figs w := numL_canon _ _ rfl h4 h1 (by
    by_cases c : (figs w).head? = some 48
    · have := List.length_pos_iff.mpr h1
      have nq : ¬ 1 < (figs w).length := fun q => h3 ⟨c, q⟩
      exact .inr (by omega)
    · exact .inl c)
  refine ext_tl ?_
  rw [tl_mkS]
  unfold valN
  by_cases c : w.take 1 = [45]
  · have ef : figs w = w.drop 1 := if_pos c
    have ew : w = 45 :: figs w := by
      rw [ef]
      conv => lhs; rw [← List.take_append_drop 1 w, c]
      rfl
    rw [if_pos c]
    have hp : 0 < digitsVal (figs w) := by
      refine digitsVal_pos h4 h1 fun z => ?_
      have hl := List.length_pos_iff.mpr h1
      have nq : ¬ 1 < (figs w).length := fun q => h3 ⟨z, q⟩
      have l1 : (figs w).length = 1 := by omega
      cases hf : figs w with
      | nil => exact h1 hf
      | cons x r =>
        rw [hf] at z l1
        have : x = 48 := by simpa using z
        have : r = [] := List.eq_nil_of_length_eq_zero (by rw [List.length_cons] at l1; omega)
        subst this
        apply h2
        rw [ew, hf]
        subst x
        rfl
    rw [tl_neg _ hp, hc]
    exact ew.symm
  · have ef : figs w = w := if_neg c
    rw [if_neg c, tl_num, hc, ef]
theorem figs_len (w : List Nat) : (figs w).length ≤ w.length := by
  unfold figs
  split
  · rw [List.length_drop]; omega
  · exact Nat.le_refl _
theorem log2_lt {n k : Nat} (h : n < 10 ^ k) (hk : k ≤ 500) : n.log2 < 1920 := by
  by_cases e : n = 0
  · rw [e]; decide
  · rw [Nat.log2_lt e]
    refine Nat.lt_of_lt_of_le h ?_
    refine Nat.le_trans (Nat.pow_le_pow_right (by decide) hk) ?_
    decide +kernel
theorem valN_log {w : List Nat} (h : OkN w) (hl : w.length ≤ 500) : (valN w).natAbs.log2 < 1920 := by
  have hf := figs_len w
  have hv := digitsVal_lt h.2.2.2
  have e : (valN w).natAbs = digitsVal (figs w) := by
    unfold valN
    split <;> omega
  rw [e]
  exact log2_lt hv (by omega)
theorem int_figs {w : List Nat} (h : OkN w) (hl : w.length ≤ 640) : intText? (mkS (figs w)) = some (digitsVal (figs w) : Int) := by
  have hf := figs_len w
  have := intText_digits (x := mkS (figs w)) h.2.2.2 h.1 (by rw [mkS_len]; omega)
  exact this
theorem int_word {w : List Nat} (h : OkN w) (hl : w.length ≤ 640) : intText? (mkS w) = some (valN w) := by
  unfold valN
  by_cases c : w.take 1 = [45]
  · have ef : figs w = w.drop 1 := if_pos c
    have ew : w = 45 :: figs w := by
      rw [ef]
      conv => lhs; rw [← List.take_append_drop 1 w, c]
      rfl
    rw [if_pos c]
    have := intText_neg (x := mkS w) (cs := figs w) ew h.2.2.2 h.1 (by rw [mkS_len]; omega)
    rw [this, Int.zero_sub]
  · have ef : figs w = w := if_neg c
    rw [if_neg c]
    have := int_figs h hl
    rw [ef] at this
    rw [ef]
    exact this
/-- the deed that a line writes -/
def cnts : List (Str × Int) := [("add", 3), ("fill", 3), ("total", 2), ("least", 2), ("place", 2), ("first", 2), ("list", 2), ("back", 0)]
def OkL (l : List Nat) : Prop := cnts.lookup (mkS ((wds l).headD [])) = some (((wds l).length : Int) - 1) ∧ ∀ w ∈ (wds l).tail, OkN w
instance (l : List Nat) : Decidable (OkL l) := by unfold OkL; infer_instance
end RB
/-! a comprehension whose element may raise -/
namespace RB
open PySem L2 PyProof.Rows
open Evl (Ex)
/-- the block's context, xe what is wished of a raise in it -/
abbrev bx (X : Cx) (s : Shared) (H : Hp) (scope : Scope) (ce : Env) (fp : List Addr) (xe : Value → Shared → Prop) : Cx := { X.blk s H scope ce fp with xe := xe }
section
variable {X : Cx} {s0 : Shared} {H0 : Hp} {scope : Scope} {ce : Env} {fp : List Addr} {xe : Value → Shared → Prop} {pins : List (Addr × Obj)} {σ : L2.St} {H : Hp} {s : Shared}
theorem bx_of (J : Inv (X.blk s0 H0 scope ce fp) pins σ H s) : Inv (bx X s0 H0 scope ce fp xe) pins σ H s :=
  ⟨⟨J.ok.mod, J.ok.kind, J.ok.glob, J.ok.blt, J.ok.above, J.ok.inj, J.ok.has, J.ok.cab, J.ok.hd, J.ok.frames, J.ok.stk, J.ok.exf, J.ok.bs, J.ok.bsz, J.ok.noex, J.ok.exfs, J.ok.funs, J.ok.frf⟩, J.os, J.bare, J.base, J.loc, J.cell, J.free, J.freeC, J.pin, J.hok, J.len⟩
theorem of_bx (J : Inv (bx X s0 H0 scope ce fp xe) pins σ H s) : Inv (X.blk s0 H0 scope ce fp) pins σ H s :=
  ⟨⟨J.ok.mod, J.ok.kind, J.ok.glob, J.ok.blt, J.ok.above, J.ok.inj, J.ok.has, J.ok.cab, J.ok.hd, J.ok.frames, J.ok.stk, J.ok.exf, J.ok.bs, J.ok.bsz, J.ok.noex, J.ok.exfs, J.ok.funs, J.ok.frf⟩, J.os, J.bare, J.base, J.loc, J.cell, J.free, J.freeC, J.pin, J.hok, J.len⟩
end
/-- a frame's dict is no record -/
theorem ns_norec {h : Heap} {C : Addr} {m : Str → Option Value} (hn : h.Ns C m) : ∃ o, h.get? C = some o ∧ ∀ vs, o.data ≠ .fields vs := by
  obtain ⟨o, es, ep, ho, hd, _⟩ := hn
  exact ⟨o, ho, fun vs q => by rw [hd] at q; cases q⟩
/-- an exception of a call in the block: noted, the block let go, it is in the def's own air -/
theorem comp_raise {X : Cx} {pins : List (Addr × Obj)} {σ : L2.St} {H : Hp} {s s' : Shared} {ce : Env} {E : XK} {u : Value} (J : Inv X pins σ H s) (tk : Takes X (fun cls d _ H => E cls d H)) (hs : X.stack = X.env :: X.outer) (hf : X.env.frame = some X.env.locals) (hcf : ce.frame = X.env.frame)
    (hC : FpOk X pins H ce.locals) (hn : ∃ m, s.heap.Ns ce.locals m) (c : L2.CX X.prog X.w X.stack H s E u s') : notedBy (model X.prog X.w) X.A ce (CompFails (model X.prog X.w) X.A X.xe ce) u s' := by
  obtain ⟨a, B, H', cls, d, rfl, fl, hok, ub, na, os, ag, hE⟩ := c
  have hfr : X.A.frames = some (X.env :: X.outer) := by rw [J.ok.frames, hs]
  generalize hCC : ce.locals = C at hC hn
  obtain ⟨m0, hn0⟩ := hn
  obtain ⟨oC, hoC, hrC⟩ := ns_norec hn0
  have hCs : C ∉ frs X.stack := fun hm => by
    rcases List.mem_cons.mp (J.stkSub C hm) with z | z
    · exact hC.2.1 z
    · exact hC.2.2.1 z
  have hC' : H' C = none := ub.free C oC hoC hC.1
  have hBC : B.get? C = some oC := ub.keep C oC hoC hC.1 hCs
  have hsC : s'.heap.get? C = some oC := fl.1 C oC hBC
  have hn1 : s'.heap.Ns C m0 := by
    obtain ⟨o, es, ep, ho, r⟩ := hn0
    rw [hoC] at ho
    cases ho
    exact ⟨_, es, ep, hsC, r⟩
  show wpAny _ X.A (noteFrame (.ref a) ce) _ _ s'
  rw [noteFrame_env _ hcf]
  rw [hs] at fl
  refine HandSPX.looks_onZ Zc.steady hfr hf fl fun h1 hh up1 => ?_
  obtain ⟨slC, hC1⟩ := up1 C oC hsC hrC
  have hn2 : h1.Ns C m0 := hn1.upToSlots up1
  refine ⟨m0, by rw [hCC]; exact hn2, fun h2 m2 hm2 sb => ?_⟩
  rw [hCC] at hm2 sb
  obtain ⟨k1, k2, k3, oe, vs, T, oT, ts, he, hz, hd, hv1, hnT, hTe, hT, hdT, hv3⟩ := hh
  have aC : a ≠ C := fun e => by
    rw [e, hC1] at he
    cases he
    exact hrC vs hd
  have TC : T ≠ C := fun e => by
    rw [e, hC1] at hT
    cases hT
    exact hrC ts hdT
  -- the ground without the block
  obtain ⟨B2, b1, b2⟩ := restrict B fun b => decide (b ≠ C)
  have gB2 : ∀ b o, B2.get? b = some o → b ≠ C ∧ B.get? b = some o := fun b o e => by
    by_cases q : b = C
    · rw [b2 b (by simp [q])] at e; cases e
    · rw [b1 b (by simp [q])] at e; exact ⟨q, e⟩
  have nB2 : ∀ b, B.get? b = none → B2.get? b = none := fun b e => by
    cases q : B2.get? b with
    | none => rfl
    | some o => rw [(gB2 b o q).2] at e; cases e
  have toB2 : ∀ b o, b ≠ C → B.get? b = some o → B2.get? b = some o := fun b o n e => by rw [b1 b (by simp [n])]; exact e
  have held : HandSPX.HeldZ B2 (X.env :: X.outer) a (Zc cls d) X.env.locals h2 := by
    refine ⟨fun b o e => ?_, nB2 a k2, ?_, oe, vs, T, oT, ts, (sb.2 a aC).trans he, hz, hd, hv1, nB2 T hnT, hTe, (sb.2 T TC).trans hT, hdT, hv3⟩
    · obtain ⟨n, e'⟩ := gB2 b o e
      exact (sb.2 b n).trans (k1 b o e')
    · exact funFrames_none (Heap.FunFrames.sameBut sb hm2 k3) fun b hb => nB2 b (k3.mem hb).1
  have he2 : h2.get? a = some oe := (sb.2 a aC).trans he
  unfold PySem.passOn
  refine wpAny_bind (wpAny_field he2 hd hv1 ?_)
  rw [if_neg (show ¬ ((Value.ref T == Value.none) = true) from by simp), hcf, hf]
  refine wpAny_bind (HandSPX.setFlight_onZ held fun h3 hh3 up3 => ?_)
  refine wpAny_throw (tk _ _ ?_)
  obtain ⟨G, g1, g2⟩ := restrict s'.heap fun b => (B2.get? b).isSome || decide (b ∈ frs X.stack)
  have st : B.StaysIn s'.heap := fl.1
  have gB : ∀ b o, B2.get? b = some o → G.get? b = some o := fun b o e => by
    rw [g1 b (by simp [e])]
    exact st b o (gB2 b o e).2
  have gF : ∀ b, b ∈ frs X.stack → G.get? b = s'.heap.get? b := fun b hb => g1 b (by simp [hb])
  have og : ∀ b o, G.get? b = some o → s'.heap.get? b = some o ∧ ((B2.get? b).isSome = true ∨ b ∈ frs X.stack) := fun b o e => by
    cases q : ((B2.get? b).isSome || decide (b ∈ frs X.stack)) with
    | false => rw [g2 b q] at e; cases e
    | true =>
      rw [g1 b q] at e
      exact ⟨e, by simpa [Bool.or_eq_true] using q⟩
  have gC : ∀ b o, G.get? b = some o → b ≠ C := fun b o e q => by
    rcases (og b o e).2 with z | z
    · obtain ⟨o', z⟩ := Option.isSome_iff_exists.mp z
      exact (gB2 b o' z).1 q
    · exact hCs (q ▸ z)
  have okB2 : HOk X.prog X.w H' B2 := fun b o q => (hok b o q).stay (fun y u hy r => toB2 y u (fun e => by
      rcases hy with hy | hy
      · rw [← hy, e, hC'] at q; cases q
      · rw [e, hC'] at hy; cases hy) r) (fun _ r => r) fun _ _ r => r
  have nc : ∀ b, b ∉ [C] → b ≠ C := fun b h e => h (by rw [e]; exact List.mem_singleton.mpr rfl)
  refine ⟨a, B2, { s with heap := G, gens := s'.gens, drawn := s'.drawn, toks := s'.toks }, pins, σ, H', cls, d, rfl, ?_, fun b o e hb => ?_, fun b o e hr => ?_, .inr (.inr (by rw [hs]; exact hh3)), na, os, ag, hE⟩
  · refine J.call (ch := [C]) ⟨fun b o e n hb hc => gB b o (toB2 b o (nc b hc) (ub.keep b o e n hb)), fun b o e n hb hc => ?_, fun b o e n _ => ub.free b o e n, fun b o e hc => ?_, ub.tups, ub.frzs, ub.tbls⟩ (okB2.kept gB) ag fun b hb => ?_
    · obtain ⟨sl, q⟩ := ub.slot b o e hb
      exact ⟨sl, by rw [gF b hb]; exact q⟩
    · by_cases hb : b ∈ frs X.stack
      · obtain ⟨sl, q⟩ := ub.slot b o e hb
        exact ⟨_, by rw [gF b hb]; exact q⟩
      · obtain ⟨o', q⟩ := ub.there b o e hb
        exact ⟨o', gB b o' (toB2 b o' (nc b hc) q)⟩
    · rw [List.mem_singleton.mp hb]
      exact ⟨hC.2.2.2.1, hC.2.1, hC.2.2.2.2.1, hC.2.2.2.2.2⟩
  · obtain ⟨e', h⟩ := og b o e
    rcases h with h | h
    · obtain ⟨o', q⟩ := Option.isSome_iff_exists.mp h
      have z := st b o' (gB2 b o' q).2
      rw [e'] at z
      cases z
      exact q
    · exact absurd h hb
  · obtain ⟨sl1, q1⟩ := up1 b o (og b o e).1 hr
    obtain ⟨sl3, q3⟩ := up3 b _ ((sb.2 b (gC b o e)).trans q1) hr
    exact ⟨sl3, q3⟩
/-- [elt for n in a walked thing]: the element may raise -/
theorem lcx_core {X : Cx} {pins : List (Addr × Obj)} {s : Shared} {σ : L2.St} {H : Hp} {Q : VK} {elt tg iter : Expr} {scope : Scope} {own : List (Str × Nat)} {pos pos' : Pos} {wi : TI} {g : TG} {te : TE} {E : XK}
    (hc : X.calm = true) (hN : X.N.Nodup) (J : Inv X pins σ H s) (hi : PI X tg iter wi) (ok : BlkOk X.N X.env.scope scope own) (tk : Takes X (fun cls d _ H => E cls d H)) (hst : X.stack = X.env :: X.outer) (hfm : X.env.frame = some X.env.locals)
    (hg : ∀ (s : Shared) (H : Hp) (C : Addr) (cl : List (Str × Addr)) (fp : List Addr), PG (X.blk s H scope (compEnvC scope cl C X.env) fp) tg g)
    (he : ∀ (s : Shared) (H : Hp) (C : Addr) (cl : List (Str × Addr)) (fp : List Addr) (xe : Value → Shared → Prop), L2.Passes (L2.CX X.prog X.w) (bx X s H scope (compEnvC scope cl C X.env) fp xe) E → PE (bx X s H scope (compEnvC scope cl C X.env) fp xe) elt te) (hs : ∀ x, foldedSetIterable iter X.env x = pure x)
    (h : tLc wi g tYes te (own.map (·.2)) σ H Q) :
    wpAny (model X.prog X.w) X.A (comprehension (.ListComp elt [⟨tg, iter, [], 0⟩] scope pos) scope X.env pos' (newList []) false (eval iter X.env) none) (EP X pins σ Q) X.xe s := by
  have hfree : ∀ y ∈ scope.names, y.2 = .free → ∃ c, X.env.cells.lookup y.1 = some c := fun y hy e => (ok.free y hy e).elim (fun k => J.ok.has _ (.inl k)) (fun k => J.ok.has _ (.inr k))
  refine comprehension_at (use := none) rfl hs (closure_ok hfree) ok.kind (fun y hy e => by rw [ok.uniq y hy, e]) (thn (hi.run pins s σ H _ J h) fun xv t1 hx => thn hx fun itv t2 ht2 => ?_)
  obtain ⟨it, fp, tn, Jt, H2, e, J2, T, n2, f2, q⟩ := ht2
  subst e
  refine wpAny_newObj_type (newEnv_comp ?_) (by show 0 ≤ sizeLine; decide)
  generalize hD : t2.heap.objs.size = D
  have hDn : H2 D = none := J2.hok.fresh (Nat.le_of_eq hD)
  obtain ⟨W, ⟨m0, w0⟩, turn⟩ := q D hDn
  generalize ht3 : ({ t2 with heap := t2.heap.push { cls := .type "list", data := .seq ([] : List Value).toArray } } : Shared) = t3
  have J3 : Inv X pins σ (upd H2 D (.lst [])) t3 := by
    rw [← ht3]
    refine J2.laid (t' := t2.toks) (fun b o e => Heap.get?_push_of_some _ e) (Nat.le_of_eq hD) ⟨Nat.zero_le _, [], 0, .nil, ?_⟩
    rw [← hD]
    exact Heap.get?_push_size _ rfl
  have p3 : t3.heap = t2.heap.push { cls := .type "list", data := .seq ([] : List Value).toArray } := by rw [← ht3]
  have f3 : ∀ b ∈ fp, FpOk X pins (upd H2 D (.lst [])) b ∧ b < t3.heap.objs.size := fun b hb => by
    obtain ⟨ob, eb, _⟩ := T.obj _ _ n2 b hb
    have lt := Heap.lt_size eb
    refine ⟨⟨?_, (f2 b hb).2⟩, by rw [p3, Heap.size_push]; exact Nat.lt_succ_of_lt lt⟩
    rw [upd_ne (by rw [← hD]; exact Nat.ne_of_lt lt)]
    exact (f2 b hb).1
  have n3 : tn 0 t3.heap := T.keep _ _ _ n2 fun b _ o e => by rw [p3]; exact Heap.get?_push_of_some _ e
  have J4 := block_start J3 ok hN f3
  have pg := hg t3 (upd H2 D (.lst [])) t3.heap.objs.size (cellsFrom (t3.heap.objs.size + 1) scope.names (cloFrom X.env.cells scope.names [])) fp
  have pe := he t3 (upd H2 D (.lst [])) t3.heap.objs.size (cellsFrom (t3.heap.objs.size + 1) scope.names (cloFrom X.env.cells scope.names [])) fp
  show codeAny _ _ (.compStart (.ListComp elt [⟨tg, iter, [], 0⟩] scope pos) 0 (.ref it) (.ref D) (compEnvC scope (cellsFrom (t3.heap.objs.size + 1) scope.names (cloFrom X.env.cells scope.names [])) t3.heap.objs.size X.env)) (compEnds (model X.prog X.w) X.A X.xe none (EP X pins σ Q) (.ref D) (compEnvC scope (cellsFrom (t3.heap.objs.size + 1) scope.names (cloFrom X.env.cells scope.names [])) t3.heap.objs.size X.env)) { t3 with heap := pushCells (t3.heap.push { cls := .type "dict", data := .dict #[] }) scope.names }
  have nfp : ∀ b ∈ fp, (upd H2 D (.lst [])) b = none := fun b hb => (f3 b hb).1.1
  generalize hce : compEnvC scope (cellsFrom (t3.heap.objs.size + 1) scope.names (cloFrom X.env.cells scope.names [])) t3.heap.objs.size X.env = ce at J4 pg pe ⊢
  have cL : ce.locals = t3.heap.objs.size := by subst hce; rfl
  have cF : ce.frame = X.env.frame := by subst hce; rfl
  generalize hH3 : upd H2 D (.lst []) = H3 at J3 J4 pg pe w0 nfp f3
  generalize ht4 : ({ t3 with heap := pushCells (t3.heap.push { cls := .type "dict", data := .dict #[] }) scope.names } : Shared) = t4 at J4 ⊢
  have n4 : tn 0 t4.heap := T.keep _ _ _ n3 fun b _ o e => by rw [← ht4]; exact pushCells_keeps _ _ _ _ (Heap.get?_push_of_some _ e)
  have stat : ∀ {σ' : L2.St} {H' : Hp} {s' : Shared}, Inv (X.blk t3 H3 scope ce fp) [] σ' H' s' → (∀ b ∈ fp, H' b = none) → ∀ b ∈ fp, FpOk (X.blk t3 H3 scope ce fp) [] H' b := fun {σ' H' s'} Jb hn b hb =>
    ⟨hn b hb, (Jb.ok.exf b hb).1, Jb.ok.exfs b hb, .inl hb, fun x c e => (Jb.ok.exf b hb).2 x c e, fun p hp => absurd (show p ∈ ([] : List (Addr × Obj)) ++ [] from hp) (by simp)⟩
  -- back in the def's context
  have back : ∀ {pins' : List (Addr × Obj)} {σ' : L2.St} {H' : Hp} {s' : Shared}, Inv (X.blk t3 H3 scope ce fp) pins' σ' H' s' → Inv X pins σ H' s' ∧ FpOk X pins H' ce.locals ∧ ∃ m, s'.heap.Ns ce.locals m := fun {pins' σ' H' s'} Jb => by
    have nC : H' t3.heap.objs.size = none := by
      have z : H' ce.locals = none := Jb.free
      rw [cL] at z
      exact z
    obtain ⟨m, hm, _⟩ := Jb.loc
    exact ⟨J3.call' (ch := fp) Jb.os Jb.base Jb.hok Jb.bare fun b hb => ⟨(f3 b hb).1.2.2.2.1, (f3 b hb).1.2.1, (f3 b hb).1.2.2.2.2.1, (f3 b hb).1.2.2.2.2.2⟩, by rw [cL]; exact J3.fpOk (Nat.le_refl _) nC, m, hm⟩
  have pe := pe (notedBy (model X.prog X.w) X.A ce (CompFails (model X.prog X.w) X.A X.xe ce)) (fun pins' σ' H' s' u s'' Jb c => by
    obtain ⟨b1, b2, b3⟩ := back (of_bx Jb)
    exact comp_raise b1 tk hst hfm cF b2 b3 c)
  have loop : codeAny (model X.prog X.w) X.A (.compLoop (.ListComp elt [⟨tg, iter, [], 0⟩] scope pos) 0 (.ref it) (.ref D) ce) (compEnds (model X.prog X.w) X.A X.xe none (EP X pins σ Q) (.ref D) ce) t4 := by
    refine compLoop_any (fun n s' => ∃ i H', Inv (X.blk t3 H3 scope ce fp) [] (wipe σ (own.map (·.2))) H' s' ∧ tn i s'.heap ∧ (∀ b ∈ fp, H' b = none) ∧ W i n H') ?_ m0 ⟨0, H3, J4, n4, nfp, w0⟩
    rintro n t5 ⟨i, H5, J5, n5, v5, w5⟩
    rcases turn i n H5 w5 with ⟨stop, qq⟩ | ⟨go, Nx, hNx, step⟩
    · have td := T.done (X.blk t3 H3 scope ce fp) rfl rfl rfl hc i [] t5 _ H5 (fun _ _ => False) J5 (stat J5 v5) n5 stop
      refine thnF td fun r t6 ⟨hr, J6⟩ => ?_
      subst hr
      obtain ⟨J7, ⟨g0, g1, g2, g3, g4, g5⟩, m, hm⟩ := back J6
      exact ⟨m, hm, fun h'' sb => ⟨.ref D, H5, J7.turned (t' := t6.toks) (fun b o hb e => (sb.2 b hb).trans e) g0 g1 g3 g4 g5, rfl, qq⟩⟩
    · have ti := T.item (X.blk t3 H3 scope ce fp) rfl rfl rfl hc i [] t5 _ H5 (fun _ _ => False) J5 (stat J5 v5) n5 go
      refine thnF ti fun r t6 ⟨u, hr, h6⟩ => ?_
      subst hr
      refine thnF h6 fun _ t7 ⟨x, H7, J7, r7, y7, n7, v7⟩ => ?_
      have K7 := J7.pinned (stat J7 v7) (T.obj _ _ n7)
      refine thnF (pg.run _ t7 _ H7 x u _ K7 r7 (step x H7 y7)) fun _ t8 ⟨σ8, H8, J8, hw8, q8⟩ => ?_
      refine thnF ((pts_nil (X := X.blk t3 H3 scope ce fp)).run _ t8 σ8 H8 _ J8 q8) fun b t9 ⟨H9, J9, q9⟩ => ?_
      have fin : ∀ {s' : Shared} {H' : Hp}, Inv (X.blk t3 H3 scope ce fp) ([] ++ pinsAt fp t7.heap) σ8 H' s' → Nx H' → ∃ m, m < n ∧ ∃ i H', Inv (X.blk t3 H3 scope ce fp) [] (wipe σ (own.map (·.2))) H' s' ∧ tn i s'.heap ∧ (∀ b ∈ fp, H' b = none) ∧ W i m H' := fun {s' H'} Jb nx => by
        obtain ⟨m', hm, w'⟩ := hNx H' nx
        have pin' : ∀ b ∈ fp, ∀ o, t7.heap.get? b = some o → s'.heap.get? b = some o ∧ H' b = none := fun b hb o e =>
          let z := Jb.pin (b, o) (List.mem_append_right _ (List.mem_append_right _ (mem_pinsAt hb e)))
          ⟨z.1, z.2.1⟩
        have hl : (wipe σ (own.map (·.2))).length = σ8.length := by rw [← hw8, wipe_length]
        refine ⟨m', hm, i + 1, H', (Jb.unpinned (pins := [])).weak hl (fun j v e => ?_), T.keep _ _ _ n7 fun b hb o e => (pin' b hb o e).1, fun b hb => ?_, w'⟩
        · rw [← hw8] at e
          exact (wipe_some e).1
        · obtain ⟨ob, eb, _⟩ := T.obj _ _ n7 b hb
          exact (pin' b hb ob eb).2
      cases b with
      | false =>
        simp only [Bool.false_eq_true, if_false] at q9 ⊢
        exact fin J9 q9
      | true =>
        simp only [if_true] at q9 ⊢
        refine wpAny_mono (pe.run _ t9 σ8 H9 _ (bx_of J9) q9) (fun z t10 ⟨yv, H10, J10, r10, acc, hD10, hz10, nx⟩ => ?_) fun _ _ z => z
        exact app_ok (X := X.blk t3 H3 scope ce fp) (of_bx J10) hD10 hz10 r10 fun t11 J11 => fin J11 nx
  exact codeAny_compStart_list loop (T.self X.A 0 _ _ _ n4 loop)
theorem pe_lcx {X : Cx} {elt tg iter : Expr} {scope : Scope} {own : List (Str × Nat)} {pos : Pos} {wi : TI} {g : TG} {te : TE} {E : XK} (hc : X.calm = true) (hN : X.N.Nodup) (hi : PI X tg iter wi) (ok : BlkOk X.N X.env.scope scope own) (tk : Takes X (fun cls d _ H => E cls d H)) (hst : X.stack = X.env :: X.outer) (hfm : X.env.frame = some X.env.locals)
    (hg : ∀ (s : Shared) (H : Hp) (C : Addr) (cl : List (Str × Addr)) (fp : List Addr), PG (X.blk s H scope (compEnvC scope cl C X.env) fp) tg g)
    (he : ∀ (s : Shared) (H : Hp) (C : Addr) (cl : List (Str × Addr)) (fp : List Addr) (xe : Value → Shared → Prop), L2.Passes (L2.CX X.prog X.w) (bx X s H scope (compEnvC scope cl C X.env) fp xe) E → PE (bx X s H scope (compEnvC scope cl C X.env) fp xe) elt te) (hs : ∀ x, foldedSetIterable iter X.env x = pure x := by intro _; rfl) :
    PE X (.ListComp elt [⟨tg, iter, [], 0⟩] scope pos) (tLc wi g tYes te (own.map (·.2))) := by
  refine ⟨fun pins s σ H Q J h => ?_⟩
  rw [eval_ListComp]
  exact lcx_core hc hN J hi ok tk hst hfm hg he hs h
/-- the list ys, where it came to its end -/
def NLe (ys : List V) (n : Nat) : Rk := fun H1 u H2 => ys.length = n ∧ NL ys H1 u H2
instance (ys : List V) (n : Nat) : RM (NLe ys n) := ⟨fun e0 e2 ⟨h0, h⟩ => ⟨h0, RM.m e0 e2 h⟩⟩
def tElX (σ : L2.St) (H : Hp) (j : Nat) (xs ys : List V) : TE := fun σ' H1 Q => ∃ (i : Nat) (x : V), xs[i]? = some x ∧ i ≤ ys.length ∧ σ' = (wipe σ [j]).set j (some x) ∧ Ex H H1 ∧ ∀ y H2, Ex H1 H2 → ys[i]? = some y → Q y H2
/-- [elt for x in a list that is made there]: the first elements are ys, the one behind them raises (or there is none) -/
theorem ex_lcX {X : Cx} {σ : L2.St} {H : Hp} {pos : Pos} {elt it : Expr} {n : Str} {scope : Scope} {xs : List V} {np : Pos} {E : XK} (j : Nat) (ys : List V) (hN : X.N.Nodup) (hit : EX X it σ H (NL xs)) (hz : xs.length ≤ 900000) (ok : BlkOk X.N X.env.scope scope [(n, j)]) (tk : Takes X (fun cls d _ H => E cls d H)) (hst : X.stack = X.env :: X.outer) (hfm : X.env.frame = some X.env.locals)
    (hgn : ∀ (s : Shared) (H : Hp) (C : Addr) (cl : List (Str × Addr)) (fp : List Addr), PG (X.blk s H scope (compEnvC scope cl C X.env) fp) (.Name n np) (gName j)) (hle : ys.length ≤ xs.length)
    (he : ∀ (s : Shared) (H' : Hp) (C : Addr) (cl : List (Str × Addr)) (fp : List Addr) (xe : Value → Shared → Prop), L2.Passes (L2.CX X.prog X.w) (bx X s H' scope (compEnvC scope cl C X.env) fp xe) E → ∀ (i : Nat) (x : V) (H1 : Hp), Ex H H1 → xs[i]? = some x → i ≤ ys.length → EX (bx X s H' scope (compEnvC scope cl C X.env) fp xe) elt ((wipe σ [j]).set j (some x)) H1 (fun _ u _ => ys[i]? = some u))
    (hc : X.calm = true := by rfl) (hs : ∀ x, foldedSetIterable it X.env x = pure x := by intro _; rfl) :
    EX X (.ListComp elt [⟨.Name n np, it, [], 0⟩] scope pos) σ H (NLe ys xs.length) := by
  have h1 : ∀ (s : Shared) (H' : Hp) (C : Addr) (cl : List (Str × Addr)) (fp : List Addr) (xe : Value → Shared → Prop), L2.Passes (L2.CX X.prog X.w) (bx X s H' scope (compEnvC scope cl C X.env) fp xe) E → PE (bx X s H' scope (compEnvC scope cl C X.env) fp xe) elt (tElX σ H j xs ys) :=
    fun s H' C cl fp xe hp => ⟨fun pins s' σ' H1 Q I ⟨i, x, hx, hi, e, z, q⟩ => (he s H' C cl fp xe hp i x H1 z hx hi).run pins s' σ' H1 Q I ⟨e, Ex.refl _, fun v H2 y r => q v H2 y r⟩⟩
  refine PE.weak (pe_lcx (own := [(n, j)]) hc hN (pi_list hit) ok tk hst hfm hgn h1 hs) fun σ' H' Q ⟨e1, e2, q⟩ => ?_
  subst e1
  refine ⟨rfl, e2, fun u H2 x2 ⟨l, r1, r2, r3⟩ => ?_⟩
  subst r1
  refine ⟨l, rfl, ⟨xs, SqL.of r3⟩, fun D hD => ?_⟩
  refine lc_list (K := X.K) (xs := xs) (g := gName j) (tt := tYes) (te := tElX σ' H j xs ys) (vs := [j]) (σ := σ') (fun i H3 => Ex H2 H3 ∧ i ≤ ys.length ∧ H3 D = some (.lst (ys.take i))) ⟨Ex.new hD, Nat.zero_le _, upd_same⟩ (fun i H3 _ w => SqL.of (w.1 _ _ r3)) (fun i x H3 hi ⟨w1, w0, w2⟩ => ?_) (fun H3 ⟨w1, w0, w2⟩ => ?_)
  · refine ⟨wipe_one _ _ _, i, x, hi, w0, rfl, (e2.trans x2).trans w1, fun y H4 x4 hy => ⟨_, x4 _ _ w2, ?_, Ex.mut (w1.trans x4) hD, ?_, ?_⟩⟩
    · rw [List.length_take]
      exact sz_lt (by omega)
    · have := (List.getElem?_eq_some_iff.mp hy).1
      omega
    · rw [List.take_succ, hy]
      exact upd_same
  · have el : ys.length = xs.length := by omega
    refine q _ H3 (x2.trans w1) ⟨el, D, rfl, x2.fresh hD, ?_⟩
    rw [w2, ← el, List.take_length]
end RB
/-! texts, written dicts, tuples walked -/
namespace RB
open PySem L2 PyProof.Rows
open Evl (Ex)
section
variable {X : Cx} {a b c e o : Expr} {es : List Expr} {rest body : List Stmt} {D : Ends} {σ : L2.St} {H : Hp} {pos apos : Pos} {i j z w : Str} {x y : V} {xs : List V}
theorem ex_adds (ha : EX X a σ H (Is (.str i))) (hb : EX X b σ H (Is (.str j))) (hz : i.length + j.length ≤ 1000000) : EX X (.BinOp a .Add b pos) σ H (Is (.str (i ++ j))) :=
  ex_op op_add_str ha hb fun H1 Q x q => ⟨i, j, rfl, rfl, sz hz, q _ H1 (Ex.refl _) rfl⟩
theorem ex_sliceS {lo hi : Option Expr} {ol oh : Option Int} {p2 : Pos} (ha : EX X a σ H (Is (.str z))) (hl : PO X lo (tO σ H ol)) (hh : PO X hi (tO σ H oh)) (hz : z.length ≤ 1000000) : EX X (.Subscript a (.Slice lo hi none p2) pos) σ H (Is (.str (cutS z ol oh))) :=
  PE.weak (pe_slice sl_str ha hl hh) fun σ' H' Q ⟨e1, e2, q'⟩ => ⟨e1, e2, fun u H2 x2 hu => ⟨e1, e2.trans x2, fun H3 x3 => ⟨e1, (e2.trans x2).trans x3, fun H4 x4 => by
    cases hu
    exact ⟨z, rfl, sz hz, q' _ _ ((x2.trans x3).trans x4) rfl⟩⟩⟩⟩
theorem tx_notInC {c : Nat} (ha : EX X a σ H (Is (.str ⟨#[c]⟩))) (hb : EX X b σ H (Is (.str z))) (hm : behindInMarks .NotIn b = false := by rfl) : TX X (.Compare a [.NotIn] [b] pos) σ H (!decide (c ∈ z.cps.toList)) :=
  tx_cmp op_notIn_sign hm ha hb fun _ _ _ q => ⟨c, z, rfl, rfl, q⟩
/-- over a text, sign by sign -/
theorem for_str {g : TG} {tb : TS} (Pv : Nat → L2.St → Hp → Prop) (h0 : Pv 0 σ H) (hs : ∀ k c σ H, z.cps[k]? = some c → Pv k σ H → g (.str ⟨#[c]⟩) σ H fun σ2 H2 => tb { D with nx := Pv (k + 1), ct := Pv (k + 1), bk := D.nx } σ2 H2) (hd : ∀ σ H, Pv z.cps.size σ H → D.nx σ H) :
    ∃ W : Nat → Nat → L2.St → Hp → Prop, (∃ m, W 0 m σ H) ∧ ∀ k m σ H, W k m σ H →
      ((Its z).stop k H ∧ D.nx σ H) ∨ ((Its z).go k H ∧ ∃ N : L2.St → Hp → Prop, (∀ σ' H', N σ' H' → ∃ m', m' < m ∧ W (k + 1) m' σ' H') ∧ ∀ x H', (Its z).yld k H x H' → g x σ H' fun σ2 H2 => tb { D with nx := N, ct := N, bk := D.nx } σ2 H2) := by
  refine ⟨fun k m σ H => m = z.cps.size - k ∧ k ≤ z.cps.size ∧ Pv k σ H, ⟨z.cps.size, by simp, Nat.zero_le _, h0⟩, ?_⟩
  rintro k m σ H ⟨rfl, hk, p⟩
  by_cases lt : k < z.cps.size
  · refine .inr ⟨lt, Pv (k + 1), fun σ' H' p' => ⟨z.cps.size - (k + 1), by omega, rfl, lt, p'⟩, fun x H' y => ?_⟩
    obtain ⟨e1, c, hc, e2⟩ := y
    subst e1 e2
    exact hs k c _ _ hc p
  · have e1 : k = z.cps.size := by omega
    subst e1
    exact .inl ⟨Nat.le_refl _, hd _ _ p⟩
theorem sb_forS {n : Str} {np : Pos} (j : Nat) (hp : PassesOwn (model X.prog X.w) X.A X.env X.xe) (hN : X.N.Nodup) (he : EX X e σ H (Is (.str z))) (W : Nat → L2.St → Hp → Prop) (h0 : W 0 σ H)
    (hs : ∀ k c σ' H', z.cps[k]? = some c → W k σ' H' → SB X body { nx := Up (W (k + 1)), rt := D.rt, bk := fun σ' H' => SX X rest D σ' H', ct := Up (W (k + 1)) } (σ'.set j (some (.str ⟨#[c]⟩))) H')
    (hd : ∀ σ' H', W z.cps.size σ' H' → SB X rest D σ' H') (hc : X.calm = true := by rfl) (hi : X.N[j]? = some n := by rfl) (hv : Loc X.env.scope n := by first | exact Or.inl rfl | exact Or.inr rfl) (hf : X.fn n = true ∨ X.env.scope.names.lookup n = some .local := by first | exact .inl rfl | exact .inr rfl | assumption)
    (hs' : ∀ x, foldedSetIterable e X.env x = pure x := by intro _; rfl) : SB X (.For (.Name n np) e body [] pos :: rest) D σ H := fun H' x =>
  sx_st (ps_for hp hc (pi_str he) (pg_name hN hi hv hf) (sx_all X body) hs') ⟨rfl, x, fun v H2 y r => by
    cases r
    exact ⟨z, rfl, for_str (fun k => Up (W k)) ⟨H, x.trans y, h0⟩ (fun k c σ' H3 hk ⟨H0, t, w⟩ => hs k c σ' H0 hk w H3 t) fun σ' H3 ⟨H0, t, w⟩ => hd σ' H0 w H3 t⟩⟩
theorem ex_split (ho : EX X o σ H (Is (.str i))) (he : EX X e σ H (Is (.str j))) (hb : (j.length == 0) = false) (hz : i.length ≤ 900000) (hs : starEach [e] X.env = [(false, eval e X.env)] := by rfl) (hbase : attributeBase o "split" X.env (eval o X.env) = eval o X.env := by rfl) (hline : (apos.endLine == pos.line) = true := by rfl) :
    EX X (.Call (.Attribute o "split" apos) [e] [] pos) σ H (NL ((Txt.split i j).map V.str)) :=
  PE.weak (pe_split ho he hs hbase hline) fun σ' H' Q ⟨e1, e2, q'⟩ => ⟨e1, e2, fun u H2 x2 hu => by
    cases hu
    exact ⟨⟨i, rfl⟩, e1, e2.trans x2, fun v H3 x3 hv => by
      cases hv
      exact ⟨i, j, rfl, rfl, hb, sz (by omega), fun p hp => q' _ _ ((x2.trans x3).trans (Ex.new hp)) ⟨p, rfl, (x2.trans x3).fresh hp, upd_same⟩⟩⟩⟩
theorem ex_join {ys : List Str} (ho : EX X o σ H (Is (.str i))) (he : EX X e σ H (NL (ys.map V.str))) (hz : (ys.map (·.length)).sum + ys.length * i.length ≤ 16777216) (hs : starEach [e] X.env = [(false, eval e X.env)] := by rfl) (hbase : attributeBase o "join" X.env (eval o X.env) = eval o X.env := by rfl) (hline : (apos.endLine == pos.line) = true := by rfl) :
    EX X (.Call (.Attribute o "join" apos) [e] [] pos) σ H (Is (.str (Txt.join i ys))) :=
  PE.weak (pe_join ho he hs hbase hline) fun σ' H' Q ⟨e1, e2, q'⟩ => ⟨e1, e2, fun u H2 x2 hu => by
    cases hu
    exact ⟨⟨i, rfl⟩, e1, e2.trans x2, fun v H3 x3 ⟨p, r1, r2, r3⟩ => by
      subst r1
      exact ⟨i, p, ys, rfl, rfl, .inl (SqL.of r3), hz, q' _ _ (x2.trans x3) rfl⟩⟩⟩
/-- tuple(a list) -/
theorem ex_tupleN {p : Pos} (hm : X.mg "tuple" = none) (ha : AX X (e :: es) σ H [NL xs]) (hg : Gl X "tuple" := by rfl) (he : starEach (e :: es) X.env = (false, eval e X.env) :: starEach es X.env := by rfl) (hpl : (backTo pos (starEach es X.env)).any (·.1) = false := by rfl) : EX X (.Call (.Name "tuple" p) (e :: es) [] pos) σ H (NT xs) :=
  ex_callTx call_tuple_of hm boot_tuple' ha (fun H0 vs H1 Q x0 x1 hvs q => by
    obtain ⟨u, r, rfl, ⟨l, rfl, n1, h1⟩, rfl⟩ := hvs
    exact ⟨l, xs, rfl, .inl ⟨SqL.of h1, fun t ht => q _ _ (Ex.new ht) ⟨t, rfl, x1.fresh ht, upd_same⟩⟩⟩) hg (by decide) (by decide) he hpl
theorem ex_tupleI {p : Pos} {l : Addr} (hm : X.mg "tuple" = none) (ha : AV X (e :: es) σ H [.ref l]) (hl : SqL X.K H l xs) (hg : Gl X "tuple" := by rfl) (he : starEach (e :: es) X.env = (false, eval e X.env) :: starEach es X.env := by rfl) (hpl : (backTo pos (starEach es X.env)).any (·.1) = false := by rfl) : EX X (.Call (.Name "tuple" p) (e :: es) [] pos) σ H (NT xs) :=
  ex_callT call_tuple_of hm boot_tuple' ha (fun H1 Q x q => ⟨l, xs, rfl, .inl ⟨x.l hl, fun t ht => q _ _ (Ex.new ht) ⟨t, rfl, ht, upd_same⟩⟩⟩) hg (by decide) (by decide) he hpl
/-- int(a text), str(a number), str(a text) -/
theorem ex_intS {p : Pos} {n : Int} (hm : X.mg "int" = none) (ha : AV X (e :: es) σ H [.str z]) (hn : PySem.intText? z = some n) (hz : z.length ≤ 640) (hg : Gl X "int" := by rfl) (he : starEach (e :: es) X.env = (false, eval e X.env) :: starEach es X.env := by rfl) (hpl : (backTo pos (starEach es X.env)).any (·.1) = false := by rfl) : EX X (.Call (.Name "int" p) (e :: es) [] pos) σ H (Is (.int n)) :=
  ex_callT call_int_str hm boot_int' ha (fun H1 Q x q => ⟨z, n, rfl, hn, hz, q _ H1 (Ex.refl _) rfl⟩) hg (by decide) (by decide) he hpl
theorem ex_strI {p : Pos} {n : Int} (hm : X.mg "str" = none) (ha : AV X (e :: es) σ H [.int n]) (hn : n.natAbs.log2 < 1920) (hg : Gl X "str" := by rfl) (he : starEach (e :: es) X.env = (false, eval e X.env) :: starEach es X.env := by rfl) (hpl : (backTo pos (starEach es X.env)).any (·.1) = false := by rfl) : EX X (.Call (.Name "str" p) (e :: es) [] pos) σ H (Is (.str (toString n))) :=
  ex_callT call_str_int hm boot_str' ha (fun H1 Q x q => ⟨n, rfl, hn, q _ H1 (Ex.refl _) rfl⟩) hg (by decide) (by decide) he hpl
theorem ex_strS {p : Pos} (hm : X.mg "str" = none) (ha : AV X (e :: es) σ H [.str z]) (hg : Gl X "str" := by rfl) (he : starEach (e :: es) X.env = (false, eval e X.env) :: starEach es X.env := by rfl) (hpl : (backTo pos (starEach es X.env)).any (·.1) = false := by rfl) : EX X (.Call (.Name "str" p) (e :: es) [] pos) σ H (Is (.str z)) :=
  ex_callT SkE.call_str_str hm boot_str' ha (fun H1 Q x q => ⟨z, rfl, q _ H1 (Ex.refl _) rfl⟩) hg (by decide) (by decide) he hpl
/-- x in a list that is made there -/
theorem tx_inN (ha : EX X a σ H (Is x)) (hb : EX X b σ H (NL xs)) (fx : flatV x = true) (fs : xs.all flatV = true) (hm : behindInMarks .In b = false := by rfl) : TX X (.Compare a [.In] [b] pos) σ H (inV x xs) :=
  PT.weak (pt_cmpR op_in_seq ha hb hm) fun σ' H' Q ⟨e1, e2, q⟩ => ⟨e1, e2, fun u H2 x2 hu => ⟨e1, e2.trans x2, fun u' H3 x3 ⟨p, r1, r2, r3⟩ => by
    cases hu
    subst r1
    exact ⟨p, xs, rfl, .inl (SqL.of r3), fx, fs, _, rfl, q H3 (x2.trans x3)⟩⟩⟩
/-- a tuple cut, the whole one not -/
theorem ex_sliceT {l : Addr} {lo hi : Option Expr} {ol oh : Option Int} {p2 : Pos} (ha : EX X a σ H (Is (.ref l))) (hl : PO X lo (tO σ H ol)) (hh : PO X hi (tO σ H oh)) (h : SqT X.K H l xs) (hw : ¬ (HT.sIx xs.length 0 ol = 0 ∧ HT.sIx xs.length xs.length oh = xs.length)) : EX X (.Subscript a (.Slice lo hi none p2) pos) σ H (NT (cutV xs ol oh)) :=
  PE.weak (pe_slice sl_tup ha hl hh) fun σ' H' Q ⟨e1, e2, q'⟩ => ⟨e1, e2, fun u H2 x2 hu => ⟨e1, e2.trans x2, fun H3 x3 => ⟨e1, (e2.trans x2).trans x3, fun H4 x4 => by
    cases hu
    have x := (x2.trans x3).trans x4
    exact ⟨l, xs, rfl, (e2.trans x).t h, hw, fun t ht => q' _ _ (x.trans (Ex.new ht)) ⟨t, rfl, x.fresh ht, upd_same⟩⟩⟩⟩⟩
/-- for over a tuple that is made there -/
theorem sb_forT {n : Str} {np : Pos} (j : Nat) (hp : PassesOwn (model X.prog X.w) X.A X.env X.xe) (hN : X.N.Nodup) (he : EX X e σ H (NT xs)) (W : Addr → Nat → L2.St → Hp → Prop) (h0 : ∀ l, H l = none → W l 0 σ (upd H l (.tup xs)))
    (hl : ∀ l i σ' H', i ≤ xs.length → W l i σ' H' → SqT X.K H' l xs) (hs : ∀ l i x σ' H', xs[i]? = some x → W l i σ' H' → SB X body { nx := Up (W l (i + 1)), rt := D.rt, bk := fun σ' H' => SX X rest D σ' H', ct := Up (W l (i + 1)) } (σ'.set j (some x)) H')
    (hd : ∀ l σ' H', W l xs.length σ' H' → SB X rest D σ' H') (hc : X.calm = true := by rfl) (hi : X.N[j]? = some n := by rfl) (hv : Loc X.env.scope n := by first | exact Or.inl rfl | exact Or.inr rfl) (hf : X.fn n = true ∨ X.env.scope.names.lookup n = some .local := by first | exact .inl rfl | exact .inr rfl | assumption)
    (hs' : ∀ x, foldedSetIterable e X.env x = pure x := by intro _; rfl) : SB X (.For (.Name n np) e body [] pos :: rest) D σ H := fun H' x =>
  sx_st (ps_for hp hc (pi_tup he) (pg_name hN hi hv hf) (sx_all X body) hs') ⟨rfl, x, fun v H2 y ⟨l, e1, e2, e3⟩ => by
    subst e1
    exact ⟨l, rfl, ⟨xs, SqT.of e3⟩, for_tup (xs := xs) (fun i => Up (W l i)) ⟨_, upd_in (x.trans y) e3, h0 l (x.fresh e2)⟩ (fun i σ' H3 hi ⟨H0, z, w⟩ => z.t (hl l i σ' H0 hi w)) (fun i x σ' H3 hi ⟨H0, z, w⟩ => hs l i x σ' H0 hi w H3 z) fun σ' H3 ⟨H0, z, w⟩ => hd l σ' H0 w H3 z⟩⟩
/-- [elt for x in a tuple], the values told by place -/
theorem ex_lcT {elt it : Expr} {n : Str} {scope : Scope} {l : Addr} {np : Pos} (j : Nat) (ys : List V) (hN : X.N.Nodup) (hit : EX X it σ H (Is (.ref l))) (hl : SqT X.K H l xs) (hz : xs.length ≤ 900000) (hy : ys.length = xs.length) (ok : BlkOk X.N X.env.scope scope [(n, j)])
    (hgn : ∀ (s : Shared) (H : Hp) (C : Addr) (cl : List (Str × Addr)) (fp : List Addr), PG (X.blk s H scope (compEnvC scope cl C X.env) fp) (.Name n np) (gName j))
    (he : ∀ (s : Shared) (H' : Hp) (C : Addr) (cl : List (Str × Addr)) (fp : List Addr) (i : Nat) (x y : V) (H1 : Hp), Ex H H1 → xs[i]? = some x → ys[i]? = some y → EX (X.blk s H' scope (compEnvC scope cl C X.env) fp) elt ((wipe σ [j]).set j (some x)) H1 (Is y))
    (hc : X.calm = true := by rfl) (hs : ∀ x, foldedSetIterable it X.env x = pure x := by intro _; rfl) :
    EX X (.ListComp elt [⟨.Name n np, it, [], 0⟩] scope pos) σ H (NL ys) := by
  have h1 : ∀ (s : Shared) (H' : Hp) (C : Addr) (cl : List (Str × Addr)) (fp : List Addr), PE (X.blk s H' scope (compEnvC scope cl C X.env) fp) elt (tElI σ H j xs ys) :=
    fun s H' C cl fp => ⟨fun pins s' σ' H1 Q I ⟨i, x, y, hi, hyi, e, z, q⟩ => (he s H' C cl fp i x y H1 z hi hyi).run pins s' σ' H1 Q I ⟨e, Ex.refl _, fun v H2 y r => by cases r; exact q H2 y⟩⟩
  refine PE.weak (pe_lc (own := [(n, j)]) (tt := tYes) hc hN (pi_tup hit) ok hgn (fun _ _ _ _ _ => pts_nil) h1 hs) fun σ' H' Q ⟨e1, e2, q⟩ => ?_
  subst e1
  refine ⟨rfl, e2, fun u H2 x2 r => ?_⟩
  cases r
  refine ⟨l, rfl, ⟨xs, (e2.trans x2).t hl⟩, fun D hD => ?_⟩
  refine lc_tup (K := X.K) (xs := xs) (g := gName j) (tt := tYes) (te := tElI σ' H j xs ys) (vs := [j]) (σ := σ') (fun i H3 => Ex H2 H3 ∧ H3 D = some (.lst (ys.take i))) ⟨Ex.new hD, upd_same⟩ (fun i H3 _ w => ((e2.trans x2).trans w.1).t hl) (fun i x H3 hi ⟨w1, w2⟩ => ?_) (fun H3 ⟨w1, w2⟩ => q _ H3 (x2.trans w1) ⟨D, rfl, x2.fresh hD, by rw [w2, ← hy, List.take_length]⟩)
  have hlt := (List.getElem?_eq_some_iff.mp hi).1
  obtain ⟨y, hyi⟩ : ∃ y, ys[i]? = some y := ⟨_, List.getElem?_eq_getElem (by omega)⟩
  refine ⟨wipe_one _ _ _, i, x, y, hi, hyi, rfl, (e2.trans x2).trans w1, fun H4 x4 => ⟨_, x4 _ _ w2, ?_, Ex.mut (w1.trans x4) hD, ?_⟩⟩
  · rw [List.length_take]
    exact sz_lt (by omega)
  · rw [List.take_succ, hyi]
    exact upd_same
end
/-! a written text, a written dict of the top -/
def Gs (mg : Str → Option Value) (n : Str) (z : Str) : Prop := ∃ t, mg n = some (.str z t)
theorem ex_globS {X : Cx} {n z : Str} {pos : Pos} {σ : L2.St} {H : Hp} (h : Gs X.mg n z) (hg : Gl X n := by rfl) (hd : (n == ("__debug__" : Str)) = false := by decide) : EX X (.Name n pos) σ H (Is (.str z)) := by
  obtain ⟨t, h⟩ := h
  exact ex_glob hg h ⟨t, rfl⟩ hd
/-- the entries, in order: texts and numbers -/
def LitD : List DictEntry → List (Str × Int) → Prop
  | [], [] => True
  | e :: r, p :: q => (∃ t, e.key = .str p.1 t) ∧ (∃ t, e.val = .int p.2 t) ∧ LitD r q
  | _, _ => False
theorem LitD.refs : ∀ {es : List DictEntry} {ps : List (Str × Int)}, LitD es ps → es.any (·.refKey) = false
  | [], [], _ => rfl
  | [], _ :: _, h => h.elim
  | _ :: _, [], h => h.elim
  | e :: r, p :: q, ⟨⟨t, h1⟩, _, h2⟩ => by
    rw [List.any_cons, LitD.refs h2]
    have : e.refKey = false := by
      unfold DictEntry.refKey
      rw [h1]
    rw [this]
    rfl
theorem LitD.find : ∀ {es : List DictEntry} {ps : List (Str × Int)} (z : Str), LitD es ps → (∀ n, (ps.lookup z) = some n → ∃ e t, es.find? (·.key.isStr z) = some e ∧ e.val = .int n t) ∧ ((ps.lookup z) = none → es.find? (·.key.isStr z) = none)
  | [], [], z, _ => ⟨fun n h => (by cases h), fun _ => rfl⟩
  | [], _ :: _, _, h => h.elim
  | _ :: _, [], _, h => h.elim
  | e :: r, (k, n) :: q, z, ⟨⟨t, h1⟩, ⟨t', h2⟩, h3⟩ => by
    have ih := LitD.find z h3
    have hk : e.key.isStr z = (k == z) := by rw [h1]; rfl
    by_cases c : z = k
    · subst c
      have e1 : ((z, n) :: q).lookup z = some n := by rw [List.lookup_cons, beq_self_eq_true]
      rw [e1, List.find?_cons, hk, beq_self_eq_true]
      exact ⟨fun m hm => by cases hm; exact ⟨e, t', rfl, h2⟩, fun hm => by cases hm⟩
    · have c1 : (z == k) = false := beq_eq_false_iff_ne.mpr c
      have c2 : (k == z) = false := beq_eq_false_iff_ne.mpr fun e => c e.symm
      rw [List.lookup_cons, c1, List.find?_cons, hk, c2]
      exact ih
/-- the name n is a written dict of these -/
def Gd (K : PySem.W.Frag) (w : World) (mg : Str → Option Value) (n : Str) (ps : List (Str × Int)) : Prop := ∃ d es m, mg n = some (.ref d) ∧ KDict K w d es m ∧ LitD es.toList ps
theorem gd_in {K : PySem.W.Frag} {w : World} {d : Addr} {es : Array DictEntry} {m : Nat} {ps : List (Str × Int)} (D : KDict K w d es m) (h : LitD es.toList ps) (z : Str) : ∃ r, PySem.W.nsIn K d z = some r ∧ r.isSome = (ps.lookup z).isSome ∧ ∀ n, ps.lookup z = some n → ∃ t, r = some (.int n t) := by
  have hf := h.find z
  unfold PySem.W.nsIn
  rw [D.at_]
  cases e : ps.lookup z with
  | none =>
    refine ⟨none, ?_, rfl, fun n hn => (by cases hn)⟩
    simp only [hf.2 e, h.refs]
    rfl
  | some n =>
    obtain ⟨en, t, h1, h2⟩ := hf.1 n e
    refine ⟨some en.val, ?_, rfl, fun n' hn => ?_⟩
    · simp only [h1]
    · cases hn
      exact ⟨t, by rw [h2]⟩
section
variable {X : Cx} {a b : Expr} {σ : L2.St} {H : Hp} {pos pos2 : Pos} {z n : Str} {ps : List (Str × Int)}
theorem tx_notInG (h : Gd X.K X.w X.mg n ps) (ha : EX X a σ H (Is (.str z))) (hg : Gl X n := by rfl) (hd : (n == ("__debug__" : Str)) = false := by decide) (hm : behindInMarks .NotIn (.Name n pos2) = false := by rfl) : TX X (.Compare a [.NotIn] [.Name n pos2] pos) σ H (!(ps.lookup z).isSome) := by
  obtain ⟨d, es, m, h1, D, h2⟩ := h
  obtain ⟨r, e1, e2, _⟩ := gd_in D h2 z
  rw [← e2]
  exact tx_cmp (y := .ref d) (op_notIn_kd D) hm ha (ex_glob hg h1 rfl hd) fun _ _ _ q => ⟨z, r, rfl, rfl, e1, q⟩
theorem ex_ixG {m : Int} (h : Gd X.K X.w X.mg n ps) (hb : EX X b σ H (Is (.str z))) (hl : ps.lookup z = some m) (hg : Gl X n := by rfl) (hd : (n == ("__debug__" : Str)) = false := by decide) (hs : PlainIx b := by exact fun _ _ => rfl) : EX X (.Subscript (.Name n pos2) b pos) σ H (Is (.int m)) := by
  obtain ⟨d, es, k, h1, D, h2⟩ := h
  obtain ⟨r, e1, _, e3⟩ := gd_in D h2 z
  obtain ⟨t, rfl⟩ := e3 m hl
  exact ex_ix ix_kdict (ex_glob (v := .ref d) hg h1 rfl hd) hb (fun H1 Q x q => ⟨d, z, .int m, rfl, rfl, ⟨es, k, _, D.at_, D.lit, e1, ⟨t, rfl⟩⟩, q _ H1 (Ex.refl _) rfl⟩) hs
end
theorem gs_mk {K : PySem.W.Frag} {mg : Str → Option Value} {h : Heap} {n z : Str} {t : Tok} (X : K.In h) (G : h.Ns mainGlobals mg) (a : PySem.W.nsIn K mainGlobals n = some (some (.str z t))) : Gs mg n z := ⟨t, PySem.W.mg_of X G a⟩
theorem gd_use {K : PySem.W.Frag} {w : World} {mg : Str → Option Value} {h : Heap} {n : Str} {d : Addr} {es : Array DictEntry} {m : Nat} {ps : List (Str × Int)} {Goal : Prop} (X : K.In h) (G : h.Ns mainGlobals mg) (a : PySem.W.nsIn K mainGlobals n = some (some (.ref d))) (l : K.lookup d = some ⟨.type "dict", none, .dict es m, #[]⟩)
    (kl : PySem.W.KeysLit w.params es.toList) (lo : (d == sysModules) = false) (hp : LitD es.toList ps) (r : Gd K w mg n ps → Goal) : Goal := r ⟨d, es, m, PySem.W.mg_of X G a, ⟨l, kl, lo⟩, hp⟩
/-- isinstance(e, (c1, c2, ..)) of the exception that the suite holds -/
theorem call_isET {X : Cx} {a D : Addr} {oe : Obj} {pn : List (Addr × Obj)} (C : ExcC X.K D) (hz : Zc (.ref D) none oe) (hf : ∃ vs, oe.data = .fields vs) : CallR (X.suite a ((a, oe) :: pn)) (.builtin "isinstance") (fun xs H Q => ∃ (tp : Addr) (cs : List V) (us : List Value) (b : Bool), xs = [.ref a, .ref tp] ∧ H tp = some (.tup cs) ∧ Paired ClsV cs us ∧ PySem.W.kitAny X.K (.ref D) us = some b ∧ Q (.bl b) H) := by
  intro pins s σ H xs us Q I r h
  obtain ⟨tp, cs, ws, b, rfl, hT, k, e, q⟩ := h
  obtain ⟨u1, u2, rfl, r1, r2⟩ := vals2 r
  cases (show u1 = Value.ref a from r1)
  cases (show u2 = Value.ref tp from r2)
  obtain ⟨_, its, rv, ob, h1, h2, n, h3⟩ := (show ObjOk X.prog X.w H s.heap tp (.tup cs) from I.hok tp _ hT)
  have e3 := ClsV.all k rv
  subst e3
  obtain ⟨oc, od, dt, sl⟩ := ob
  simp only at h2 h3
  subst h2 h3
  obtain ⟨hget, _⟩ := I.pin (a, oe) (List.mem_append.mpr (.inl List.mem_cons_self))
  obtain ⟨vs, hv⟩ := hf
  have J : PySem.W.InstAt s.heap a oe D none := by
    obtain ⟨oc, od, oda, osl⟩ := oe
    obtain ⟨z1, z2⟩ := hz
    dsimp only at z1 z2 hv
    subst z1 z2 hv
    exact ⟨hget, rfl, rfl, trivial⟩
  exact PySem.W.kia_tup (PySem.W.handS_kitx_exc C.hg C.hk C.hs C.hd C.ha C.hn C.ht C.hm) I.kIn J h1 e (fun z => nomatch z) fun tk => ⟨.bl b, H, I.kept (t' := tk) fun _ _ z => z, rfl, q⟩
/-- nothing comes of the right one -/
theorem ex_catNo {X : Cx} {a b : Expr} {σ : L2.St} {H : Hp} {pos : Pos} {Ra : Rk} (ha : EX X a σ H Ra) (hb : EX X b σ H No) : EX X (.BinOp a .Add b pos) σ H No :=
  PE.weak (pe_op op_cat ha hb) fun σ' H' Q ⟨e1, e2, q'⟩ => ⟨e1, e2, fun u H2 x2 hu => ⟨e1, e2.trans x2, fun u' H3 x3 hu' => hu'.elim⟩⟩
theorem ex_call0 {X : Cx} {σ : L2.St} {H : Hp} {pos p : Pos} {k kk : Nat} {ps : List Str} {sp : Sp} {n : Str} {Q' : Rk} (G : Dn X.prog X.w X.K X.mg X.base n k ps sp) (hr : Room kk X.A) (hsp : ∀ H1 Q, Ex H H1 → Gives Q' H1 Q → sp [] H1 Q E0) (hk : k ≤ kk := by omega) (hg : Gl X n := by rfl) (hdb : (n == ("__debug__" : Str)) = false := by decide) : EX X (.Call (.Name n p) [] [] pos) σ H Q' := by
  obtain ⟨f, fd, hm, hk', hb, F, _⟩ := G
  exact PE.weak (pe_call0 F (hr.mono hk) hg hm hk' hb .nil passL hdb) fun σ' H' Q ⟨e1, e2, q'⟩ => by
    subst e1
    show sp ([] ++ []) _ _ _
    exact hsp H' Q e2 fun v H3 x3 z => q' v H3 x3 z
/-- try: body / except x: suite, where the body raises nothing -/
theorem sb_try0 {X : Cx} {rest : List Stmt} {D : Ends} {σ : L2.St} {H : Hp} {pos : Pos} {Cc : Addr} {x : Str} {body suite : List Stmt} {b₀ : Stmt} {np pos' : Pos} {Wout : WX} (hs : X.stack = X.env :: X.outer) (hf : X.env.frame = some X.env.locals) (hc : Names X x (.ref Cc)) (tk : Takes X Wout)
    (hb : ∀ (W : WX) (pn : List (Addr × Obj)) (xe : Value → Shared → Prop), Takes (X.tr pn xe) W → PassesOwn (model X.prog X.w) X.A X.env xe → SB (X.tr pn xe) body { D with nx := fun σ' H' => SX X rest D σ' H' } σ H) :
    SB X (.Try body [.ExceptHandler (some (.Name x np)) none (b₀ :: suite) pos'] [] [] pos :: rest) D σ H := fun H' x' =>
  sx_st (ps_try_only (tb := fun W D' σ' H2 => ∀ (pn : List (Addr × Obj)) (xe : Value → Shared → Prop), Takes (X.tr pn xe) W → PassesOwn (model X.prog X.w) X.A X.env xe → SX (X.tr pn xe) body D' σ' H2)
      (ts := fun a cls d D' σ' H2 => ∀ (oe : Obj) (pn : List (Addr × Obj)), Zc cls d oe → (∃ vs, oe.data = .fields vs) → SX (X.suite a ((a, oe) :: pn)) (b₀ :: suite) D' σ' H2) hs hf hc tk
      (fun W pn xe tk' pw => ⟨fun pins s σ' H2 D' I h => (h pn xe tk' pw).run pins s σ' H2 D' I ⟨rfl, rfl, rfl⟩⟩)
      (fun a oe cls d pn z1 z2 => ⟨fun pins s σ' H2 D' I h => (h oe pn z1 z2).run pins s σ' H2 D' I ⟨rfl, rfl, rfl⟩⟩))
    (fun pn xe tk' pw => hb _ pn xe tk' pw H' x')
theorem ex_isET {X : Cx} {a D : Addr} {oe : Obj} {pn : List (Addr × Obj)} {e : Expr} {es : List Expr} {σ : L2.St} {H : Hp} {cs : List V} {us : List Value} {b : Bool} {p pos : Pos} (hm : X.mg "isinstance" = none) (C : ExcC X.K D) (hz : Zc (.ref D) none oe) (hf : ∃ vs, oe.data = .fields vs) (ha : AX (X.suite a ((a, oe) :: pn)) (e :: es) σ H [Is (.ref a), NT cs]) (hc : Paired ClsV cs us) (hk : PySem.W.kitAny X.K (.ref D) us = some b)
    (hg : Gl (X.suite a ((a, oe) :: pn)) "isinstance" := by rfl) (he : starEach (e :: es) (X.suite a ((a, oe) :: pn)).env = (false, eval e (X.suite a ((a, oe) :: pn)).env) :: starEach es (X.suite a ((a, oe) :: pn)).env := by rfl) (hpl : (backTo pos (starEach es (X.suite a ((a, oe) :: pn)).env)).any (·.1) = false := by rfl) :
    EX (X.suite a ((a, oe) :: pn)) (.Call (.Name "isinstance" p) (e :: es) [] pos) σ H (Is (.bl b)) :=
  ex_callBx (call_isET C hz hf) hm boot_isinstance' ha (fun H0 vs H1 Q x0 x1 hv q => by
    obtain ⟨_, _, rfl, e1, _, _, rfl, ⟨t, rfl, _, ht⟩, rfl⟩ := hv
    cases e1
    exact ⟨t, cs, us, b, rfl, ht, hc, hk, q _ H1 (Ex.refl _) rfl⟩) hg (by decide) (by decide) he hpl
def TxtP (n : Nat) : Hp → V → Prop := fun _ u => ∃ z : Str, u = .str z ∧ z.length ≤ n
instance (n : Nat) : PM (TxtP n) := ⟨fun _ h => h⟩
/-- a text, and some text of at most n signs behind it -/
theorem ex_addsO {X : Cx} {a b : Expr} {σ : L2.St} {H : Hp} {pos : Pos} {z : Str} {n : Nat} (ha : EX X a σ H (Is (.str z))) (hb : EX X b σ H (Of (TxtP n))) (hz : z.length + n ≤ 1000000) (hl : ∀ y : Str, (z ++ y).length = z.length + y.length) : EX X (.BinOp a .Add b pos) σ H (Of (TxtP (z.length + n))) :=
  PE.weak (pe_op op_add_str ha hb) fun σ' H' Q ⟨e1, e2, q'⟩ => ⟨e1, e2, fun u H2 x2 hu => ⟨e1, e2.trans x2, fun u' H3 x3 hu' => by
    cases hu
    obtain ⟨y, rfl, hy⟩ := hu'
    exact ⟨z, y, rfl, rfl, sz (by omega), q' _ _ (x2.trans x3) ⟨_, rfl, by rw [hl]; omega⟩⟩⟩⟩
end RB
namespace RB
open PySem L2 PyProof.Rows
open Evl (Ex)
def topS (i : Nat) : Stmt := PySem.Challenge.pw_rangebook_k09_lines_read_and_written.main.body.getD i (.Pass ⟨0, 0, 0, 0⟩)
/-! trees as they stand in the heap -/
def IsT (H : Hp) : Addr → T → Prop
  | a, .leaf n v => H a = some (.tup [.int n, .int (n * v), .int v, .int 0, .non, .non])
  | a, .node l r b => ∃ p q, H a = some (.tup [.int (l.many + r.many), .int (l.total + r.total + (l.many + r.many) * b), .int ((if r.least < l.least then r.least else l.least) + b), .int b, .ref p, .ref q]) ∧ IsT H p l ∧ IsT H q r
/-- tuples stay -/
def Tx (H H' : Hp) : Prop := ∀ a xs, H a = some (.tup xs) → H' a = some (.tup xs)
theorem _root_.Evl.Ex.tx {H H' : Hp} (e : Ex H H') : Tx H H' := fun a xs h => e a _ h
theorem Tx.trans {H H1 H2 : Hp} (a : Tx H H1) (b : Tx H1 H2) : Tx H H2 := fun x xs h => b x xs (a x xs h)
theorem Tx.lst {H : Hp} {l : Addr} {xs ys : List V} (h : H l = some (.lst xs)) : Tx H (upd H l (.lst ys)) := fun a zs e => by
  rw [upd_ne (ne_of e h (by intro z; cases z))]
  exact e
theorem Tx.new {H : Hp} {l : Addr} {o : HO} (h : H l = none) : Tx H (upd H l o) := (Ex.new h).tx
theorem IsT.tx {H H' : Hp} (e : Tx H H') : ∀ {t : T} {a : Addr}, IsT H a t → IsT H' a t
  | .leaf _ _, _, h => e _ _ h
  | .node _ _ _, _, ⟨p, q, h1, h2, h3⟩ => ⟨p, q, e _ _ h1, IsT.tx e h2, IsT.tx e h3⟩
theorem IsT.ex {H H' : Hp} (e : Ex H H') {t : T} {a : Addr} (h : IsT H a t) : IsT H' a t := h.tx e.tx
theorem IsT.tup {H : Hp} : ∀ {t : T} {a : Addr}, IsT H a t → ∃ b x y, H a = some (.tup [.int t.many, .int t.total, .int t.least, b, x, y])
  | .leaf _ _, _, h => ⟨_, _, _, h⟩
  | .node _ _ _, _, ⟨p, q, h1, h2, h3⟩ => ⟨_, _, _, h1⟩
def Tr (t : T) : Hp → V → Prop := fun H u => ∃ a, u = .ref a ∧ IsT H a t
instance (t : T) : PM (Tr t) := ⟨fun e ⟨a, h1, h2⟩ => ⟨a, h1, h2.ex e⟩⟩
/-- some tree of that row, not deeper than d -/
def TrR (d : Nat) (xs : List Int) : Hp → V → Prop := fun H u => ∃ t, Tr t H u ∧ t.Ok d ∧ t.row = xs
instance (d : Nat) (xs : List Int) : PM (TrR d xs) := ⟨fun e ⟨t, h1, h2⟩ => ⟨t, PM.m e h1, h2⟩⟩
/-- a number or None -/
def optV : Option Int → V
  | some k => .int k
  | none => .non

def spEvenNode : Sp := fun vs H Q _ => ∃ n v : Int, vs = [.int n, .int v] ∧ (-(2 ^ 64) < n ∧ n < 2 ^ 64) ∧ Gives (Of (Tr (.leaf n v))) H Q
def spNodeOf : Sp := fun vs H Q _ => ∃ (p q : Addr) (l r : T) (b : Int), vs = [.ref p, .ref q, .int b] ∧ IsT H p l ∧ IsT H q r ∧ (-(2 ^ 64) < l.many + r.many ∧ l.many + r.many < 2 ^ 64) ∧ Gives (Of (Tr (.node l r b))) H Q
def spParted : Sp := fun vs H Q _ => ∃ (a : Addr) (t : T), vs = [.ref a] ∧ IsT H a t ∧ (-(2 ^ 64) < t.many ∧ t.many < 2 ^ 64) ∧ (∀ l r b, t = .node l r b → Gives (Of (Tr t)) H Q) ∧ ∀ n v, t = .leaf n v → 0 ≤ n ∧ Gives (Of (Tr (.node (.leaf (n / 2) v) (.leaf (n - n / 2) v) 0))) H Q
def spRaised : Sp := fun vs H Q _ => ∃ (a : Addr) (t : T) (d : Nat) (by_ : Int), vs = [.ref a, .int by_] ∧ IsT H a t ∧ t.Ok d ∧ d ≤ 60 ∧ Gives (Of (TrR d (t.row.map fun x => x + by_))) H Q
def spTotalIn (d : Nat) : Sp := fun vs H Q _ => ∃ (a : Addr) (t : T) (lo hi : Int), vs = [.ref a, .int lo, .int hi] ∧ IsT H a t ∧ t.Ok d ∧ d ≤ 60 ∧ 0 ≤ lo ∧ hi ≤ t.many ∧ Gives (Is (.int (cut t.row lo hi).sum)) H Q
def spLeastIn (d : Nat) : Sp := fun vs H Q _ => ∃ (a : Addr) (t : T) (lo hi : Int), vs = [.ref a, .int lo, .int hi] ∧ IsT H a t ∧ t.Ok d ∧ 0 ≤ lo ∧ lo < hi ∧ hi ≤ t.many ∧ ∀ m, IsMin m (cut t.row lo hi) → Gives (Is (.int m)) H Q
def spFirstIn (d : Nat) : Sp := fun vs H Q _ => ∃ (a : Addr) (t : T) (lo bd : Int), vs = [.ref a, .int lo, .int bd] ∧ IsT H a t ∧ t.Ok d ∧ 0 ≤ lo ∧ Gives (Is (optV (fst t.row lo bd))) H Q
def spListedIn (d : Nat) : Sp := fun vs H Q _ => ∃ (a : Addr) (t : T) (lo hi by_ : Int), vs = [.ref a, .int lo, .int hi, .int by_] ∧ IsT H a t ∧ t.Ok d ∧ 0 ≤ lo ∧ hi ≤ t.many ∧ hi - lo ≤ 1000 ∧ Gives (NL ((cut t.row lo hi).map fun x => .int (x + by_))) H Q
def spAddedIn (d : Nat) : Sp := fun vs H Q _ => ∃ (a : Addr) (t : T) (lo hi by_ : Int), vs = [.ref a, .int lo, .int hi, .int by_] ∧ IsT H a t ∧ t.Ok d ∧ d ≤ 60 ∧ Gives (Of (TrR d (chg (fun x => x + by_) t.row lo hi))) H Q
def spFilledIn (d : Nat) : Sp := fun vs H Q _ => ∃ (a : Addr) (t : T) (lo hi v : Int), vs = [.ref a, .int lo, .int hi, .int v] ∧ IsT H a t ∧ t.Ok d ∧ d ≤ 60 ∧ Gives (Of (TrR d (chg (fun _ => v) t.row lo hi))) H Q
theorem pow60 {d : Nat} (h : d ≤ 60) : (2 : Int) ^ d < 2 ^ 64 := by
  have h1 : (2 : Nat) ^ d ≤ 2 ^ 60 := Nat.pow_le_pow_right (by decide) h
  have h2 : ((2 ^ d : Nat) : Int) ≤ ((2 ^ 60 : Nat) : Int) := Int.ofNat_le.mpr h1
  rw [Int.natCast_pow] at h2
  exact Int.lt_of_le_of_lt h2 (by decide)
theorem T.Ok.room {t : T} {d : Nat} (h : t.Ok d) (h2 : d ≤ 60) : -(2 ^ 64) < t.many ∧ t.many < 2 ^ 64 := by
  have h3 := h.many0
  have h4 := h.many_le
  have h5 := pow60 h2
  constructor
  · have : (0 : Int) < 2 ^ 64 := by decide
    omega
  · omega
theorem minI (i j : Int) : (if j < i then j else i) = min i j := by
  split <;> omega
theorem maxI (i j : Int) : (if j > i then j else i) = max i j := by
  split <;> omega
/-- facts of what is built in -/
structure Bt (mg : Str → Option Value) : Prop where
  len : mg "len" = none
  min : mg "min" = none
  max : mg "max" = none
  list : mg "list" = none
  range : mg "range" = none
  isinstance : mg "isinstance" = none
  int : mg "int" = none
  bool : mg "bool" = none
  ValueError : mg "ValueError" = none
  str : mg "str" = none
  tuple : mg "tuple" = none
  sum : mg "sum" = none
  sorted : mg "sorted" = none
  abs : mg "abs" = none
section
variable {P : Program} {w : World} {K : PySem.W.Frag} {mg : Str → Option Value} {base : Heap}
/-! ### the law's own helpers -/
def numBy (c : Int) : Int :=
  if c % 16 = 5 then (c / 16 % 5 - 2) * 10 ^ 64 * 10 ^ 64 * 10 ^ 64
  else if c % 4 = 1 then c / 4 % (2 * 10 ^ 60 + 1) - 10 ^ 60
  else if c % 4 = 2 then c / 4 % 3 - 1
  else c / 4 % 41 - 20
def rowBy (c o : Int) (n : Nat) : List Int :=
  if c % 3 = 1 then (List.range n).map fun k : Nat => numBy (o + 4 * ((k : Int) / (1 + c / 3 % 9)))
  else (List.range n).map fun k : Nat => numBy (c / 3 + o * k * k + 13 * k)
theorem rowBy_length (c o : Int) (n : Nat) : (rowBy c o n).length = n := by
  unfold rowBy
  split <;> rw [List.length_map, List.length_range]
def spWhole : Sp := fun vs H Q _ => ∃ i : Int, vs = [.int i] ∧ Gives (Is (.bl true)) H Q
def spCell (K : PySem.W.Frag) : Sp := fun vs H Q _ => ∃ (a : Addr) (ns : List Int) (k : Int), vs = [.ref a, .int k] ∧ SqL K H a (ns.map V.int) ∧ 0 ≤ k ∧ Gives (Is (.int (ns.getD k.toNat 0))) H Q
def spNumBy : Sp := fun vs H Q _ => ∃ c : Int, vs = [.int c] ∧ Gives (Is (.int (numBy c))) H Q
def spRowBy : Sp := fun vs H Q _ => ∃ c o n : Int, vs = [.int c, .int o, .int n] ∧ 0 ≤ n ∧ n ≤ 1001 ∧ Gives (NL ((rowBy c o n.toNat).map V.int)) H Q


abbrev s__law_whole : Stmt := topS 14
theorem sc__law_whole : FnScope ["_law_found"] ["_law_found"] (defScope s__law_whole) := ⟨rfl, rfl, rfl, by decide +kernel, rfl, by decide +kernel, by decide +kernel⟩
theorem ok__law_whole (B : Bt mg) (F : Df K mg "_law_whole" s__law_whole ["_law_found"]) : Dn P w K mg base "_law_whole" 1 ["_law_found"] spWhole :=
  def_ok F sc__law_whole (fun vs H Q E ⟨_, e, _⟩ => by rw [e] <;> rfl) fun f cdv A outer s H vs Q E hr h => by
    obtain ⟨i, rfl, q⟩ := h
    exact sb_ret (EX.is (ex_and (ex_isi B.isinstance (av_cons (ex_var 0) (av_cons (ex_bltn rfl B.int boot_int' rfl) av_nil)) (fun _ _ => ty_int) rfl) (fun z1 => (ex_one (ex_not (ex_isi B.isinstance (av_cons (ex_var 0) (av_cons (ex_bltn rfl B.bool boot_bool' rfl) av_nil)) (fun _ _ => ty_int) rfl))))) rfl) q

abbrev s__law_cell_at : Stmt := topS 15
theorem sc__law_cell_at : FnScope ["_law_script", "_law_k"] ["_law_script", "_law_k"] (defScope s__law_cell_at) := ⟨rfl, rfl, rfl, by decide +kernel, rfl, by decide +kernel, by decide +kernel⟩
theorem ok__law_cell_at (B : Bt mg) (F : Df K mg "_law_cell_at" s__law_cell_at ["_law_script", "_law_k"]) : Dn P w K mg base "_law_cell_at" 1 ["_law_script", "_law_k"] (spCell K) :=
  def_ok F sc__law_cell_at (fun vs H Q E ⟨_, _, _, e, _⟩ => by rw [e] <;> rfl) fun f cdv A outer s H vs Q E hr h => by
    obtain ⟨a, ns, k, rfl, hS, h0, q⟩ := h

    refine sb_when (tx_lt (ex_var 1) (ex_len B.len (av_cons (ex_var 0) av_nil) (hS))) (fun c => ?_) (fun c => ?_)
    · have c := of_decide_eq_true c
      rw [List.length_map] at c
      have hk : k.toNat < ns.length := by omega
      have e : (ns.map V.int)[k.toNat]? = some (V.int (ns.getD k.toNat 0)) := by
        rw [List.getElem?_map, List.getElem?_eq_getElem hk, List.getD_eq_getElem?_getD, List.getElem?_eq_getElem hk]
        rfl
      exact sb_ret (ex_ixL (ex_var 0) (ex_var 1) (hS) (at_of (show k = (k.toNat : Int) by omega) e)) q
    · have c := of_decide_eq_false c
      rw [List.length_map] at c
      rw [List.getD_eq_getElem?_getD, List.getElem?_eq_none (by omega)] at q
      exact sb_ret ex_i q

theorem cl {K : PySem.W.Frag} {H : Hp} {a : Addr} {ns : List Int} {k : Int} (hS : SqL K H a (ns.map V.int)) (h0 : 0 ≤ k) : ∀ H1 Q, Ex H H1 → Gives (Is (.int (ns.getD k.toNat 0))) H1 Q → spCell K [.ref a, .int k] H1 Q E0 :=
  fun H1 Q x q => ⟨a, ns, k, rfl, x.l hS, h0, q⟩



-- SPLIT
/-! ### texts by their signs -/
open TL NumText
theorem eq_mkS {a b : List Nat} : decide (V.str (mkS a) = V.str (mkS b)) = decide (a = b) := by
  rw [decide_eq_decide]
  exact ⟨fun h => by injection h with h; exact mkS_inj h, fun h => by rw [h]⟩
theorem cutS_head (w : List Nat) : cutS (mkS w) none (some 1) = mkS (w.take 1) := by
  unfold cutS
  have e : HT.sIx (mkS w).length (mkS w).length (some ((1 : Nat) : Int)) = min 1 (mkS w).length := HT.sIx_nat _ _ 1
  have e2 : HT.sIx (mkS w).length (mkS w).length (some 1) = min 1 (mkS w).length := e
  rw [HT.sIx_none, e2, List.drop_zero, mkS_len, Nat.sub_zero]
  show mkS (w.take (min 1 w.length)) = _
  cases w with
  | nil => rfl
  | cons c w => rw [show min 1 (c :: w).length = 1 by rw [List.length_cons]; omega]
theorem cutS_tail (w : List Nat) : cutS (mkS w) (some 1) none = mkS (w.drop 1) := by
  unfold cutS
  have e : HT.sIx (mkS w).length 0 (some ((1 : Nat) : Int)) = min 1 (mkS w).length := HT.sIx_nat _ _ 1
  have e2 : HT.sIx (mkS w).length 0 (some 1) = min 1 (mkS w).length := e
  rw [HT.sIx_none, e2, mkS_len]
  show mkS ((w.drop (min 1 w.length)).take (w.length - min 1 w.length)) = _
  cases w with
  | nil => rfl
  | cons c w =>
    rw [show min 1 (c :: w).length = 1 by rw [List.length_cons]; omega]
    show mkS (w.take ((c :: w).length - 1)) = mkS w
    rw [List.length_cons, Nat.add_sub_cancel, List.take_length]
theorem cutV_head (xs : List V) : cutV xs none (some 1) = xs.take 1 := by
  unfold cutV
  have e2 : HT.sIx xs.length xs.length (some 1) = min 1 xs.length := HT.sIx_nat _ _ 1
  rw [HT.sIx_none, e2, List.drop_zero, Nat.sub_zero]
  cases xs with
  | nil => rfl
  | cons c w => rw [show min 1 (c :: w).length = 1 by rw [List.length_cons]; omega]
theorem cutV_tail (xs : List V) : cutV xs (some 1) none = xs.drop 1 := by
  unfold cutV
  have e2 : HT.sIx xs.length 0 (some 1) = min 1 xs.length := HT.sIx_nat _ _ 1
  rw [HT.sIx_none, e2]
  cases xs with
  | nil => rfl
  | cons c w =>
    rw [show min 1 (c :: w).length = 1 by rw [List.length_cons]; omega]
    show w.take ((c :: w).length - 1) = w
    rw [List.length_cons, Nat.add_sub_cancel, List.take_length]
theorem at0 {α : Type} {c : α} {r : List α} : atI (c :: r) 0 = some c := by
  unfold atI ixN
  rw [if_pos (by omega), if_pos (by rw [List.length_cons]; omega)]
  rfl
theorem s_dash : ("-" : Str) = mkS [45] := by decide +kernel
theorem s_blank : (" " : Str) = mkS [32] := by decide +kernel
theorem s_no : ("" : Str) = mkS [] := by decide +kernel
theorem s_m0 : ("-0" : Str) = mkS [45, 48] := by decide +kernel
theorem s_0 : ("0" : Str) = mkS [48] := by decide +kernel
theorem s_figs : ("0123456789" : Str).cps.toList = [48, 49, 50, 51, 52, 53, 54, 55, 56, 57] := by decide +kernel
theorem in_figs (c : Nat) : decide (c ∈ ("0123456789" : Str).cps.toList) = decide (48 ≤ c ∧ c ≤ 57) := by
  rw [decide_eq_decide, s_figs]
  simp only [List.mem_cons, List.not_mem_nil, or_false]
  omega
/-- the deed, as a tuple's items -/
def deedL (l : List Nat) : List V := .str (mkS ((wds l).headD [])) :: ((wds l).tail.map fun w => V.int (valN w))
theorem wds_ht (l : List Nat) : wds l = (wds l).headD [] :: (wds l).tail := by
  have := wdsF_ne l []
  unfold wds
  cases h : wdsF [] l with
  | nil => exact absurd h this
  | cons p r => rfl
theorem wds_len {l : List Nat} {p : List Nat} (h : p ∈ wds l) : p.length ≤ l.length := by
  have := wdsF_len l [] p h
  rw [List.length_nil] at this
  omega
theorem wds_count (l : List Nat) : (wds l).length ≤ l.length + 1 := wdsF_count l []
/-- the first that is none -/
theorem first_bad : ∀ {ws : List (List Nat)}, ¬ (∀ w ∈ ws, OkN w) → ∃ (k : Nat) (w : List Nat), ws[k]? = some w ∧ ¬ OkN w ∧ ∀ (j : Nat) v, j < k → ws[j]? = some v → OkN v
  | [], h => absurd (fun w hw => by cases hw) h
  | w :: ws, h => by
    by_cases c : OkN w
    · have h2 : ¬ ∀ v ∈ ws, OkN v := fun z => h fun v hv => by
        rcases List.mem_cons.mp hv with e | hv
        · rw [e]; exact c
        · exact z v hv
      obtain ⟨k, v, a1, a2, a3⟩ := first_bad h2
      refine ⟨k + 1, v, a1, a2, fun j u hj hu => ?_⟩
      cases j with
      | zero => cases hu; exact c
      | succ j => exact a3 j u (by omega) hu
    · exact ⟨0, w, rfl, c, fun j u hj => by omega⟩
def spShown : Sp := fun vs H Q _ => ∃ (t : Addr) (l : List Nat), vs = [.ref t] ∧ H t = some (.tup (deedL l)) ∧ OkL l ∧ l.length ≤ 400 ∧ Gives (Is (.str (mkS l))) H Q
def spNumberOf (CD : Addr) : Sp := fun vs H Q E => ∃ w : List Nat, vs = [.str (mkS w)] ∧ w.length ≤ 400 ∧ (OkN w → Gives (Is (.int (valN w))) H Q) ∧ (¬ OkN w → Rz CD H E)
def spRead (CD : Addr) : Sp := fun vs H Q E => ∃ l : List Nat, vs = [.str (mkS l)] ∧ l.length ≤ 400 ∧ (OkL l → Gives (NT (deedL l)) H Q) ∧ (¬ OkL l → Rz CD H E)
theorem fold_sum : ∀ (ws : List (List Nat)), (joinL [32] ws).length + 1 ≥ (ws.map (·.length)).sum
  | [] => by simp
  | [p] => by simp [joinL]
  | p :: q :: r => by
    have ih := fold_sum (q :: r)
    show (p ++ ([32] ++ joinL [32] (q :: r))).length + 1 ≥ _
    rw [List.map_cons, List.sum_cons, List.length_append, List.length_append]
    simp only [List.length_singleton]
    omega


abbrev s_shown : Stmt := topS 10
theorem sc_shown : FnScope ["deed", "part"] ["deed"] (defScope s_shown) := ⟨rfl, rfl, rfl, by decide +kernel, rfl, by decide +kernel, by decide +kernel⟩
theorem ok_shown (B : Bt mg) (F : Df K mg "shown" s_shown ["deed"]) : Dn P w K mg base "shown" 1 ["deed"] spShown :=
  def_ok F sc_shown (fun vs H Q E ⟨_, _, e, _⟩ => by rw [e] <;> rfl) fun f cdv A outer s H vs Q E hr h => by
    obtain ⟨t, l, rfl, ht, hk, hl, q⟩ := h
    have hc := wds_count l
    have hs : ((wds l).map (·.length)).sum ≤ 401 := by
      have := fold_sum (wds l)
      have e := wdsF_join l []
      rw [List.nil_append] at e
      unfold wds at this ⊢
      rw [e] at this
      omega
    have ed : (deedL l).length = (wds l).length := by
      unfold deedL
      rw [List.length_cons, List.length_map]
      conv => rhs; rw [wds_ht l]
      rfl
    refine sb_ret (R := Is (.str (mkS l))) (EX.is (ex_join (ys := (wds l).map mkS) (i := " ") ex_s (ex_lcT 1 (((wds l).map mkS).map V.str) sc_shown.nd (ex_var 0) (SqT.of ht) (by omega) (by rw [List.length_map, List.length_map, ed]) (blkOk_by (N := ["deed", "part"]) (sc := defScope s_shown) (by decide +kernel)) (fun _ _ _ _ _ => pg_name (i := 1) sc_shown.nd rfl (Or.inl rfl)) (fun s' H' C cl fp i x y H1 x1 hx hy => ?_)) ?_) ?_) q
    · rw [wds_ht l] at hy
      cases i with
      | zero =>
        cases hx
        cases hy
        exact ex_strS B.str (av_cons (ex_var 1) av_nil)
      | succ i =>
        have hx : ((wds l).tail.map fun w => V.int (valN w))[i]? = some x := hx
        have hy : (((wds l).tail.map mkS).map V.str)[i]? = some y := hy
        rw [List.getElem?_map] at hx
        rw [List.getElem?_map, List.getElem?_map] at hy
        cases hw : (wds l).tail[i]? with
        | none => rw [hw] at hx; cases hx
        | some w =>
          rw [hw] at hx hy
          cases hx
          cases hy
          have hm := List.mem_of_getElem? hw
          have hok := hk.2 w hm
          have hwl := wds_len (l := l) (p := w) (by rw [wds_ht l]; exact List.mem_cons_of_mem _ hm)
          exact EX.is (ex_strI B.str (av_cons (ex_var 1) av_nil) (valN_log hok (by omega))) (congrArg V.str (ok_text hok))
    · rw [List.map_map, List.length_map]
      have e1 : ((wds l).map ((·.length) ∘ mkS)) = (wds l).map (·.length) := List.map_congr_left fun w _ => mkS_len w
      rw [e1, s_blank, mkS_len]
      simp only [List.length_singleton]
      omega
    · rw [s_blank]
      exact congrArg V.str (line_join (mkS l))

abbrev s_number_of : Stmt := topS 11
theorem sc_number_of : FnScope ["word", "figures", "sign"] ["word"] (defScope s_number_of) := ⟨rfl, rfl, rfl, by decide +kernel, rfl, by decide +kernel, by decide +kernel⟩
theorem ok_number_of {CD : Addr} (B : Bt mg) (g_FIGURES : Gs mg "FIGURES" "0123456789") (eD : Ec K mg "NoDeed" CD) (F : Df K mg "number_of" s_number_of ["word"]) : Dn P w K mg base "number_of" 1 ["word"] (spNumberOf CD) :=
  def_ok F sc_number_of (fun vs H Q E ⟨_, e, _⟩ => by rw [e] <;> rfl) fun f cdv A outer s H vs Q E hr h => by
    obtain ⟨w, rfl, hl, q1, q2⟩ := h
    have hwz : (mkS w).length ≤ 1000000 := by rw [mkS_len]; omega

    refine sb_set 1 sc_number_of.nd (ex_var 0) ?_
    refine sb_join (fun σ' H1 => H1 = H ∧ σ' = [some (.str (mkS w)), some (.str (mkS (figs w))), none]) (k := decide (w.take 1 = [45])) (TX.is (tx_eq (ex_sliceS (ex_var 0) ox_none (ox_some ex_i) hwz) ex_s) (by rw [cutS_head, s_dash, eq_mkS])) (fun c => ?_) (fun c => ?_) ?_
    · have ef : figs w = w.drop 1 := if_pos (of_decide_eq_true c)
      refine sb_set (v := .str (mkS (figs w))) 1 sc_number_of.nd (EX.is (ex_sliceS (ex_var 0) (ox_some ex_i) ox_none hwz) (by rw [cutS_tail, ef])) (sb_next (by exact ⟨rfl, rfl⟩))
    · have ef : figs w = w := if_neg (of_decide_eq_false c)
      refine sb_next ?_
      rw [ef]
      exact ⟨rfl, rfl⟩
    rintro σ' H1 ⟨rfl, rfl⟩
    have hfl := figs_len w
    refine sb_forS 2 (passes_of rfl) sc_number_of.nd (ex_var 1) (fun i σ' H2 => H2 = H1 ∧ AllDigits ((figs w).take i) ∧ ∃ v2 : Option V, σ' = [some (.str (mkS w)), some (.str (mkS (figs w))), v2]) ⟨rfl, fun c hc => (by simp at hc), none, rfl⟩ (fun i c σ' H2 hc W => ?_) (fun σ' H2 W => ?_)
    · obtain ⟨rfl, hd, v2, rfl⟩ := W
      have hc' : (figs w)[i]? = some c := by
        have := hc
        rw [← Array.getElem?_toList] at this
        exact this
      refine sb_when (k := !decide (48 ≤ c ∧ c ≤ 57)) (TX.is ((tx_notInC (ex_var 2) (ex_globS g_FIGURES))) (by rw [in_figs])) (fun k => ?_) (fun k => ?_)
      · have k : ¬ (48 ≤ c ∧ c ≤ 57) := fun z => by rw [decide_eq_true z] at k; cases k
        exact sb_raise (takes_of rfl rfl rfl rfl) eD fun H' x => q2 (fun ok => k (ok.2.2.2 c (List.mem_of_getElem? hc'))) H' x
      · have k : 48 ≤ c ∧ c ≤ 57 := by simpa using k
        refine sb_next ?_
        refine ⟨rfl, fun d hd' => ?_, _, rfl⟩
        rw [List.take_succ, hc'] at hd'
        rcases List.mem_append.mp hd' with hd' | hd'
        · exact hd d hd'
        · have : d = c := by simpa using hd'
          rw [this]
          exact k
    obtain ⟨rfl, hd, v2, rfl⟩ := W
    have hd : AllDigits (figs w) := by
      have e : (mkS (figs w)).cps.size = (figs w).length := by
        show (figs w).toArray.size = _
        simp
      rw [e, List.take_length] at hd
      exact hd
    by_cases h1 : figs w = []
    · refine sb_when (k := true) (tx_w (wx_or (m := true) (TX.is (k' := true) (tx_eq (ex_var 1) ex_s) (by rw [h1, s_no, eq_mkS]; rfl)) (fun c => by cases c))) (fun _ => ?_) (fun c => by cases c)
      exact sb_raise (takes_of rfl rfl rfl rfl) eD fun H' x => q2 (fun ok => ok.1 h1) H' x
    obtain ⟨c0, r, hf⟩ := List.exists_cons_of_ne_nil h1
    have hat : atI (mkS (figs w)).cps.toList 0 = some c0 := by
      show atI (figs w) 0 = some c0
      rw [hf]
      exact at0
    have hz : (mkS (figs w)).length ≤ 1000000 := by rw [mkS_len]; omega
    refine sb_when (k := decide (w = [45, 48]) || decide (c0 = 48 ∧ 1 < (figs w).length)) (TX.is (tx_w (wx_or (tx_eq (ex_var 1) ex_s) (fun z1 => wx_or (tx_eq (ex_var 0) ex_s) (fun z2 => (wx_or1 (tx_w (wx_and (tx_eq (ex_ixS (ex_var 1) ex_i hz hat) ex_s) (fun z3 => (wx_and1 (tx_gt (ex_lenS B.len (av_cons (ex_var 1) av_nil) hz) ex_i)))))))))) (by
      rw [s_no, s_m0, s_0, eq_mkS, eq_mkS, decide_eq_false h1, show (⟨#[c0]⟩ : Str) = mkS [c0] from rfl, eq_mkS, mkS_len]
      rw [Bool.false_or]
      congr 1
      rw [← Bool.decide_and, decide_eq_decide]
      constructor
      · rintro ⟨a, b⟩
        exact ⟨by simpa using a, by omega⟩
      · rintro ⟨a, b⟩
        exact ⟨by rw [a], by omega⟩)) (fun c => ?_) (fun c => ?_)
    · refine sb_raise (takes_of rfl rfl rfl rfl) eD fun H' x => q2 (fun ok => ?_) H' x
      rcases Bool.or_eq_true _ _ ▸ c with c | c
      · exact ok.2.1 (of_decide_eq_true c)
      · have c := of_decide_eq_true c
        exact ok.2.2.1 ⟨by rw [hf, c.1]; rfl, c.2⟩
    · have c := Bool.or_eq_false_iff.mp c
      have ok : OkN w := ⟨h1, of_decide_eq_false c.1, fun z => of_decide_eq_false c.2 ⟨by
        have z1 := z.1
        rw [hf] at z1
        simpa using z1, z.2⟩, hd⟩
      have q := q1 ok
      have hi := int_figs ok (by omega)
      have hz2 : (mkS (figs w)).length ≤ 640 := by rw [mkS_len]; omega
      by_cases c1 : w.take 1 = [45]
      · have ne : w ≠ figs w := fun e => by
          have ef : figs w = w.drop 1 := if_pos c1
          rw [ef] at e
          have := congrArg List.length e
          rw [List.length_drop] at this
          cases w with
          | nil => cases c1
          | cons x y => rw [List.length_cons] at this; omega
        have ev : valN w = 0 - (digitsVal (figs w) : Int) := if_pos c1
        refine sb_when (k := false) (TX.is (tx_eq (ex_var 0) (ex_var 1)) (by rw [eq_mkS, decide_eq_false ne])) (fun c => by cases c) (fun _ => ?_)
        rw [ev] at q

        exact sb_ret (R := Is (.int (0 - (digitsVal (figs w) : Int)))) (ex_sub ex_i (ex_intS B.int (av_cons (ex_var 1) av_nil) hi hz2)) (fun v H2 x e => by cases e; exact q _ H2 x rfl)
      · have ef : figs w = w := if_neg c1
        have ev : valN w = (digitsVal (figs w) : Int) := if_neg c1
        refine sb_when (k := true) (TX.is (tx_eq (ex_var 0) (ex_var 1)) (by rw [eq_mkS, ef, decide_eq_true rfl])) (fun _ => ?_) (fun c => by cases c)
        rw [ev] at q
        exact sb_ret (R := Is (.int (digitsVal (figs w) : Int))) (ex_intS B.int (av_cons (ex_var 1) av_nil) hi hz2) (fun v H2 x e => by cases e; exact q _ H2 x rfl)

abbrev s_read : Stmt := topS 12
theorem sc_read : FnScope ["line", "words", "word"] ["line"] (defScope s_read) := ⟨rfl, rfl, rfl, by decide +kernel, rfl, by decide +kernel, by decide +kernel⟩
theorem ok_read {CD : Addr} (B : Bt mg) (g_COUNTS : Gd K w mg "COUNTS" cnts) (eD : Ec K mg "NoDeed" CD) (F : Df K mg "read" s_read ["line"]) (G_number_of : Dn P w K mg base "number_of" 1 ["word"] (spNumberOf CD)) : Dn P w K mg base "read" 2 ["line"] (spRead CD) :=
  def_ok F sc_read (fun vs H Q E ⟨_, e, _⟩ => by rw [e] <;> rfl) fun f cdv A outer s H vs Q E hr h => by
    obtain ⟨l, rfl, hl, q1, q2⟩ := h
    have hlz : (mkS l).length ≤ 900000 := by rw [mkS_len]; omega
    have hc := wds_count l
    have hw := wds_ht l
    refine sb_new 1 sc_read.nd (xs := ((wds l).map mkS).map V.str) (EX.mono (ex_split (i := mkS l) (j := " ") (ex_var 0) ex_s (by decide +kernel) hlz) (fun H1 v H2 _ _ z => by
      rw [s_blank, line_split] at z
      exact z)) fun p hp => ?_
    have x1 : Ex H (upd H p (.lst (((wds l).map mkS).map V.str))) := Ex.new hp
    have hp1 : (upd H p (.lst (((wds l).map mkS).map V.str))) p = some (.lst (((wds l).map mkS).map V.str)) := upd_same
    have q1 : OkL l → Gives (NT (deedL l)) (upd H p (.lst (((wds l).map mkS).map V.str))) Q := fun z => (q1 z).up x1
    have q2 : ¬ OkL l → Rz CD (upd H p (.lst (((wds l).map mkS).map V.str))) E := fun z => (q2 z).up x1
    generalize upd H p (.lst (((wds l).map mkS).map V.str)) = H1 at hp1 q1 q2 ⊢
    have ev : ((wds l).map mkS).map V.str = .str (mkS ((wds l).headD [])) :: (((wds l).tail.map mkS).map V.str) := by
      conv => lhs; rw [hw]
      rfl
    have elen : ((((wds l).map mkS).map V.str).length : Int) = ((wds l).length : Int) := by rw [List.length_map, List.length_map]
    have h0 : atI (((wds l).map mkS).map V.str) 0 = some (.str (mkS ((wds l).headD []))) := by
      have e0 : (((wds l).map mkS).map V.str)[0]? = some (.str (mkS ((wds l).headD []))) := by rw [ev]; rfl
      exact at_of (show (0 : Int) = ((0 : Nat) : Int) from rfl) e0

    have bad : ∀ (D : Ends) (rest : List Stmt) (p2 pos pos' : Pos) (j : Nat), ¬ OkL l → True := fun _ _ _ _ _ _ _ => trivial
    cases hk : cnts.lookup (mkS ((wds l).headD [])) with
    | none =>
      have no : ¬ OkL l := fun z => by have := z.1; rw [hk] at this; cases this
      refine sb_when (k := true) (tx_w (wx_or (m := true) (TX.is (k' := true) ((tx_notInG g_COUNTS (ex_ixL (ex_var 1) ex_i (SqL.of hp1) h0))) (by rw [hk]; rfl)) (fun c => by cases c))) (fun _ => ?_) (fun c => by cases c)
      exact sb_raise (takes_of rfl rfl rfl rfl) eD fun H' x => q2 no H' x
    | some m =>
      refine sb_when (k := !decide (m = ((wds l).length : Int) - 1)) (TX.is (tx_w (wx_or ((tx_notInG g_COUNTS (ex_ixL (ex_var 1) ex_i (SqL.of hp1) h0))) (fun z1 => (wx_or1 (tx_ne (ex_ixG g_COUNTS (ex_ixL (ex_var 1) ex_i (SqL.of hp1) h0) hk) (ex_sub (ex_len B.len (av_cons (ex_var 1) av_nil) (SqL.of hp1)) ex_i)))))) (by rw [hk, elen, dec_int]; rfl)) (fun c => ?_) (fun c => ?_)
      · have no : ¬ OkL l := fun z => by
          have z1 := z.1
          rw [hk] at z1
          have e : m = ((wds l).length : Int) - 1 := by injection z1
          rw [decide_eq_true e] at c
          cases c
        exact sb_raise (takes_of rfl rfl rfl rfl) eD fun H' x => q2 no H' x
      have em : m = ((wds l).length : Int) - 1 := by
        by_cases z : m = ((wds l).length : Int) - 1
        · exact z
        · rw [decide_eq_false z] at c
          cases c
      have hd1 : cutV (((wds l).map mkS).map V.str) none (some 1) = [.str (mkS ((wds l).headD []))] := by
        rw [cutV_head, ev]
        rfl
      have tl1 : cutV (((wds l).map mkS).map V.str) (some 1) none = ((wds l).tail.map mkS).map V.str := by
        rw [cutV_tail, ev]
        rfl
      have tll : (wds l).tail.length ≤ 400 := by rw [List.length_tail]; omega
      by_cases hall : ∀ w ∈ (wds l).tail, OkN w
      · have ok : OkL l := ⟨by rw [hk, em], hall⟩
        refine sb_ret (R := NT (deedL l)) (ex_tupleN B.tuple (ax_cons (R := NL (deedL l)) (ex_cat (xs := [.str (mkS ((wds l).headD []))]) (ys := (wds l).tail.map fun w => V.int (valN w)) (EX.mono (ex_slice (ex_var 1) ox_none (ox_some ex_i) (SqL.of hp1)) (fun _ _ _ _ _ z => by rw [hd1] at z; exact z)) (EX.mono (ex_lcX (xs := ((wds l).tail.map mkS).map V.str) (E := E) 2 ((wds l).tail.map fun w => V.int (valN w)) sc_read.nd (EX.mono (ex_slice (ex_var 1) (ox_some ex_i) ox_none (SqL.of hp1)) (fun _ _ _ _ _ z => by rw [tl1] at z; exact z)) (by rw [List.length_map, List.length_map]; omega) (blkOk_by (N := ["line", "words", "word"]) (sc := defScope s_read) (by decide +kernel)) (takes_of rfl rfl rfl rfl) rfl rfl (fun _ _ _ _ _ => pg_name (i := 2) sc_read.nd rfl (Or.inl rfl)) (by rw [List.length_map, List.length_map, List.length_map]; exact Nat.le_refl _) (fun s' H' C cl fp xe hps i x H2 x2 hx hi => ?_)) (fun _ _ _ _ _ z => z.2)) (by rw [List.length_map]; simp only [List.length_singleton]; omega)) ax_nil)) (q1 ok)
        rw [List.getElem?_map, List.getElem?_map] at hx
        cases hw2 : (wds l).tail[i]? with
        | none => rw [hw2] at hx; cases hx
        | some v =>
          rw [hw2] at hx
          cases hx
          have hm := List.mem_of_getElem? hw2
          have hvl := wds_len (l := l) (p := v) (by rw [hw]; exact List.mem_cons_of_mem _ hm)
          refine EX.mono (ex_callX (Q' := Is (.int (valN v))) hps G_number_of hr (av_cons (ex_var 2) av_nil) (fun H1 Q x q => ⟨v, rfl, by omega, fun _ => q, fun n => absurd (hall v hm) n⟩)) (fun _ u _ _ _ e => ?_)
          rw [List.getElem?_map, hw2, show u = V.int (valN v) from e]
          rfl
      · have no : ¬ OkL l := fun z => hall z.2
        obtain ⟨k, b, hb1, hb2, hb3⟩ := first_bad hall
        have hkl := (List.getElem?_eq_some_iff.mp hb1).1
        refine sb_ret (R := No) (ex_callTx call_tuple_of B.tuple boot_tuple' (ax_cons (R := No) (ex_catNo (ex_slice (ex_var 1) ox_none (ox_some ex_i) (SqL.of hp1)) (EX.mono (R' := No) (ex_lcX (xs := ((wds l).tail.map mkS).map V.str) (E := E) 2 (((wds l).tail.take k).map fun w => V.int (valN w)) sc_read.nd (EX.mono (ex_slice (ex_var 1) (ox_some ex_i) ox_none (SqL.of hp1)) (fun _ _ _ _ _ z => by rw [tl1] at z; exact z)) (by rw [List.length_map, List.length_map]; omega) (blkOk_by (N := ["line", "words", "word"]) (sc := defScope s_read) (by decide +kernel)) (takes_of rfl rfl rfl rfl) rfl rfl (fun _ _ _ _ _ => pg_name (i := 2) sc_read.nd rfl (Or.inl rfl)) (by rw [List.length_map, List.length_map, List.length_map, List.length_take]; omega) (fun s' H' C cl fp xe hps i x H2 x2 hx hi => ?_)) (fun _ _ _ _ _ z => by
          have := z.1
          rw [List.length_map, List.length_map, List.length_map, List.length_take] at this
          omega))) ax_nil) (fun H0 vs H1 Q x0 x1 hv q => by
            obtain ⟨_, _, _, z, _⟩ := hv
            exact z.elim)) (fun _ _ _ z => z.elim)
        rw [List.length_map, List.length_take] at hi
        rw [List.getElem?_map, List.getElem?_map] at hx
        cases hw2 : (wds l).tail[i]? with
        | none => rw [hw2] at hx; cases hx
        | some v =>
          rw [hw2] at hx
          cases hx
          have hm := List.mem_of_getElem? hw2
          have hvl := wds_len (l := l) (p := v) (by rw [hw]; exact List.mem_cons_of_mem _ hm)
          by_cases c1 : i < k
          · refine EX.mono (ex_callX (Q' := Is (.int (valN v))) hps G_number_of hr (av_cons (ex_var 2) av_nil) (fun H1 Q x q => ⟨v, rfl, by omega, fun _ => q, fun n => absurd (hb3 i v c1 hw2) n⟩)) (fun _ u _ _ _ e => ?_)
            rw [List.getElem?_map, List.getElem?_take_of_lt c1, hw2, show u = V.int (valN v) from e]
            rfl
          · have e : i = k := by omega
            subst e
            rw [hb1] at hw2
            have e2 : v = b := by injection hw2 with h; exact h.symm
            subst e2
            exact EX.mono (ex_callX (Q' := No) hps G_number_of hr (av_cons (ex_var 2) av_nil) (fun H1 Q x q => ⟨v, rfl, by omega, fun n => absurd n hb2, fun n => (q2 no).up (x2.trans x)⟩)) (fun _ u _ _ _ e => e.elim)

-- SPLIT
/-! ### the law's own helpers -/
open TL NumText
def cntL (z : Str) : Int := (cnts.lookup z).getD (-1)
theorem cntL_b (z : Str) : -1 ≤ cntL z ∧ cntL z ≤ 3 := by
  unfold cntL
  cases h : cnts.lookup z with
  | none => exact ⟨by decide, by decide⟩
  | some m =>
    have := PySem.mem_of_lookup h
    simp only [cnts, List.mem_cons, List.not_mem_nil, or_false, Prod.mk.injEq] at this
    show -1 ≤ m ∧ m ≤ 3
    omega
theorem dec_str {a b : Str} : decide (V.str a = V.str b) = decide (a = b) := by
  rw [decide_eq_decide]
  exact ⟨fun h => by injection h, fun h => by rw [h]⟩
theorem str_eta (z : Str) : z = mkS (tl z) := (mkS_tl z).symm
/-- an item of a list of texts, of a text -/
theorem at_strs {ss : List Str} {n : Nat} {k : Int} (h0 : 0 ≤ k) (h1 : k < (ss.length : Int)) (hall : ∀ s ∈ ss, s.length ≤ n) : ∃ z, atI (ss.map V.str) k = some (.str z) ∧ z.length ≤ n := by
  have hk : k.toNat < ss.length := by omega
  refine ⟨ss[k.toNat], at_of (show k = ((k.toNat : Nat) : Int) by omega) (by rw [List.getElem?_map, List.getElem?_eq_getElem hk]; rfl), hall _ (List.getElem_mem hk)⟩
theorem at_sign {z : Str} {k : Int} (h0 : 0 ≤ k) (h1 : k < (z.length : Int)) : ∃ c, atI z.cps.toList k = some c := by
  have hl : z.cps.toList.length = z.length := Array.length_toList
  have hk : k.toNat < z.cps.toList.length := by omega
  refine ⟨z.cps.toList[k.toNat], ?_⟩
  unfold atI ixN
  rw [if_pos h0, if_pos (by omega)]
  exact List.getElem?_eq_getElem hk
theorem app_len (a b : Str) : (a ++ b).length = a.length + b.length := by rw [len_tl, tl_append, List.length_append, ← len_tl, ← len_tl]
theorem sign_len (c : Nat) : (⟨#[c]⟩ : Str).length = 1 := rfl
theorem strI_len {n : Int} {k : Nat} (hk : 0 < k) (h : n.natAbs < 10 ^ k) : (Str.ofString (toString n)).length ≤ k + 1 := by
  rw [len_tl]
  by_cases c : 0 ≤ n
  · obtain ⟨m, rfl⟩ := Int.eq_ofNat_of_zero_le c
    have := numL_len hk (show m < 10 ^ k by omega)
    have e := tl_num m
    have e2 : (tl (Str.ofString (toString (Int.ofNat m)))).length = (numL m).length := congrArg List.length e
    refine Nat.le_trans (Nat.le_of_eq e2) ?_
    omega
  · obtain ⟨m, rfl⟩ : ∃ m : Nat, n = 0 - (m : Int) := ⟨n.natAbs, by omega⟩
    rw [tl_neg m (by omega), List.length_cons]
    have := numL_len hk (show m < 10 ^ k by omega)
    omega
theorem cutS_len (z : Str) (lo hi : Option Int) : (cutS z lo hi).length ≤ z.length := by
  have hl : z.cps.toList.length = z.length := Array.length_toList
  rw [len_tl]
  show ((z.cps.toList.drop _).take _).length ≤ _
  rw [List.length_take, List.length_drop]
  omega
def sgs : Str := " !\"#$&'()*+,-./0123456789:;<=>?@ABCDEFGHIJKLMNOPQRSTUVWXYZ[\\]^_`" ++ "abcdefghijklmnopqrstuvwxyz{|}~\n\t"
def spCount : Sp := fun vs H Q _ => ∃ z : Str, vs = [.str z] ∧ Gives (Is (.int (cntL z))) H Q
def spWordBy : Sp := fun vs H Q _ => ∃ c : Int, vs = [.int c] ∧ Gives (Of (TxtP 10)) H Q
def spFiguresBy : Sp := fun vs H Q _ => ∃ c m : Int, vs = [.int c, .int m] ∧ 1000 ≤ m ∧ m ≤ 10 ^ 59 ∧ Gives (Of (TxtP 70)) H Q
def spSigns : Sp := fun vs H Q _ => vs = [] ∧ Gives (Is (.str sgs)) H Q
def spNumOf : Sp := fun vs H Q _ => ∃ w : List Nat, vs = [.str (mkS w)] ∧ w.length ≤ 400 ∧ Gives (Is (if OkN w then .int (valN w) else .non)) H Q
def spDeedOf : Sp := fun vs H Q _ => ∃ l : List Nat, vs = [.str (mkS l)] ∧ l.length ≤ 400 ∧ (OkL l → Gives (NT (deedL l)) H Q) ∧ (¬ OkL l → Gives (Is .non) H Q)
def spRefused : Sp := fun vs H Q _ => ∃ l : List Nat, vs = [.str (mkS l)] ∧ l.length ≤ 400 ∧ ¬ OkL l ∧ Gives (Is (.bl true)) H Q


abbrev s__law_count : Stmt := topS 17
theorem sc__law_count : FnScope ["_law_word"] ["_law_word"] (defScope s__law_count) := ⟨rfl, rfl, rfl, by decide +kernel, rfl, by decide +kernel, by decide +kernel⟩
theorem ok__law_count (F : Df K mg "_law_count" s__law_count ["_law_word"]) : Dn P w K mg base "_law_count" 1 ["_law_word"] spCount :=
  def_ok F sc__law_count (fun vs H Q E ⟨_, e, _⟩ => by rw [e] <;> rfl) fun f cdv A outer s H vs Q E hr h => by
    obtain ⟨z, rfl, q⟩ := h

    by_cases h1 : z = "add"
    · subst h1
      rw [show cntL "add" = 3 by decide +kernel] at q
      exact sb_when (k := true) (TX.is (tx_w (wx_or (tx_eq (ex_var 0) ex_s) (fun z1 => (wx_or1 (tx_eq (ex_var 0) ex_s))))) (by decide +kernel)) (fun _ => sb_ret ex_i q) (fun c => by cases c)
    by_cases h2 : z = "fill"
    · subst h2
      rw [show cntL "fill" = 3 by decide +kernel] at q
      exact sb_when (k := true) (TX.is (tx_w (wx_or (tx_eq (ex_var 0) ex_s) (fun z1 => (wx_or1 (tx_eq (ex_var 0) ex_s))))) (by decide +kernel)) (fun _ => sb_ret ex_i q) (fun c => by cases c)
    refine sb_when (k := false) (TX.is (tx_w (wx_or (tx_eq (ex_var 0) ex_s) (fun z1 => (wx_or1 (tx_eq (ex_var 0) ex_s))))) (by rw [dec_str, dec_str, decide_eq_false h1, decide_eq_false h2]; rfl)) (fun c => by cases c) (fun _ => ?_)
    by_cases h3 : z = "total"
    · subst h3
      rw [show cntL "total" = 2 by decide +kernel] at q
      exact sb_when (k := true) (TX.is ((tx_inN (ex_var 0) (ex_lst (av_cons ex_s (av_cons ex_s (av_cons ex_s (av_cons ex_s (av_cons ex_s av_nil))))) (by exact Nat.le_of_ble_eq_true rfl)) (by decide +kernel) (by decide +kernel))) (by decide +kernel)) (fun _ => sb_ret ex_i q) (fun c => by cases c)
    by_cases h4 : z = "least"
    · subst h4
      rw [show cntL "least" = 2 by decide +kernel] at q
      exact sb_when (k := true) (TX.is ((tx_inN (ex_var 0) (ex_lst (av_cons ex_s (av_cons ex_s (av_cons ex_s (av_cons ex_s (av_cons ex_s av_nil))))) (by exact Nat.le_of_ble_eq_true rfl)) (by decide +kernel) (by decide +kernel))) (by decide +kernel)) (fun _ => sb_ret ex_i q) (fun c => by cases c)
    by_cases h5 : z = "place"
    · subst h5
      rw [show cntL "place" = 2 by decide +kernel] at q
      exact sb_when (k := true) (TX.is ((tx_inN (ex_var 0) (ex_lst (av_cons ex_s (av_cons ex_s (av_cons ex_s (av_cons ex_s (av_cons ex_s av_nil))))) (by exact Nat.le_of_ble_eq_true rfl)) (by decide +kernel) (by decide +kernel))) (by decide +kernel)) (fun _ => sb_ret ex_i q) (fun c => by cases c)
    by_cases h6 : z = "first"
    · subst h6
      rw [show cntL "first" = 2 by decide +kernel] at q
      exact sb_when (k := true) (TX.is ((tx_inN (ex_var 0) (ex_lst (av_cons ex_s (av_cons ex_s (av_cons ex_s (av_cons ex_s (av_cons ex_s av_nil))))) (by exact Nat.le_of_ble_eq_true rfl)) (by decide +kernel) (by decide +kernel))) (by decide +kernel)) (fun _ => sb_ret ex_i q) (fun c => by cases c)
    by_cases h7 : z = "list"
    · subst h7
      rw [show cntL "list" = 2 by decide +kernel] at q
      exact sb_when (k := true) (TX.is ((tx_inN (ex_var 0) (ex_lst (av_cons ex_s (av_cons ex_s (av_cons ex_s (av_cons ex_s (av_cons ex_s av_nil))))) (by exact Nat.le_of_ble_eq_true rfl)) (by decide +kernel) (by decide +kernel))) (by decide +kernel)) (fun _ => sb_ret ex_i q) (fun c => by cases c)
    have ne : ∀ {a : Str}, z ≠ a → (a == z) = false := fun h => beq_eq_false_iff_ne.mpr (Ne.symm h)
    have ne2 : ∀ {a : Str}, z ≠ a → (z == a) = false := fun h => beq_eq_false_iff_ne.mpr h
    refine sb_when (k := false) (TX.is ((tx_inN (ex_var 0) (ex_lst (av_cons ex_s (av_cons ex_s (av_cons ex_s (av_cons ex_s (av_cons ex_s av_nil))))) (by exact Nat.le_of_ble_eq_true rfl)) rfl rfl)) (by
      show ((("total" : Str) == z) || ((("least" : Str) == z) || ((("place" : Str) == z) || ((("first" : Str) == z) || ((("list" : Str) == z) || false))))) = false
      rw [ne h3, ne h4, ne h5, ne h6, ne h7]
      rfl)) (fun c => by cases c) (fun _ => ?_)
    by_cases h8 : z = "back"
    · subst h8
      rw [show cntL "back" = 0 by decide +kernel] at q
      exact sb_when (k := true) (TX.is (tx_eq (ex_var 0) ex_s) (by decide +kernel)) (fun _ => sb_ret ex_i q) (fun c => by cases c)
    refine sb_when (k := false) (TX.is (tx_eq (ex_var 0) ex_s) (by rw [dec_str, decide_eq_false h8])) (fun c => by cases c) (fun _ => ?_)
    have e : cntL z = -1 := by
      unfold cntL cnts
      simp only [List.lookup_cons, ne2 h1, ne2 h2, ne2 h3, ne2 h4, ne2 h5, ne2 h6, ne2 h7, ne2 h8]
      rfl
    rw [e] at q
    exact sb_ret (ex_neg ex_i) q

abbrev s__law_word_by : Stmt := topS 16
theorem sc__law_word_by : FnScope ["_law_cell", "_law_words", "_law_some", "_law_k"] ["_law_cell"] (defScope s__law_word_by) := ⟨rfl, rfl, rfl, by decide +kernel, rfl, by decide +kernel, by decide +kernel⟩
theorem ok__law_word_by (B : Bt mg) (F : Df K mg "_law_word_by" s__law_word_by ["_law_cell"]) : Dn P w K mg base "_law_word_by" 1 ["_law_cell"] spWordBy :=
  def_ok F sc__law_word_by (fun vs H Q E ⟨_, e, _⟩ => by rw [e] <;> rfl) fun f cdv A outer s H vs Q E hr h => by
    obtain ⟨c, rfl, q⟩ := h
    refine sb_new 1 sc__law_word_by.nd (ex_lst (av_cons ex_s (av_cons ex_s (av_cons ex_s (av_cons ex_s (av_cons ex_s (av_cons ex_s (av_cons ex_s (av_cons ex_s av_nil)))))))) (by exact Nat.le_of_ble_eq_true rfl)) fun p1 h1 => ?_
    have x1 := Ex.new (o := .lst [V.str "add", .str "fill", .str "total", .str "least", .str "place", .str "first", .str "list", .str "back"]) h1
    have a1 : (upd H p1 (.lst [V.str "add", .str "fill", .str "total", .str "least", .str "place", .str "first", .str "list", .str "back"])) p1 = some (.lst [V.str "add", .str "fill", .str "total", .str "least", .str "place", .str "first", .str "list", .str "back"]) := upd_same
    generalize upd H p1 (.lst [V.str "add", .str "fill", .str "total", .str "least", .str "place", .str "first", .str "list", .str "back"]) = H1 at x1 a1 ⊢

    refine sb_asg (R := NL ([V.str "add", .str "fill", .str "total", .str "least", .str "place", .str "first", .str "list", .str "back"] ++ _)) 1 sc__law_word_by.nd (ex_catR (ex_var 1) (ex_lst (av_cons ex_s (av_cons ex_s (av_cons ex_s (av_cons ex_s (av_cons ex_s (av_cons ex_s (av_cons ex_s (av_cons ex_s (av_cons ex_s (av_cons ex_s (av_cons ex_s (av_cons ex_s (av_cons ex_s av_nil))))))))))))) (by exact Nat.le_of_ble_eq_true rfl)) a1 (by decide)) fun u H2 x2 ⟨p2, e2, _, a2⟩ => ?_
    subst e2

    refine sb_asg (R := NL (([V.str "add", .str "fill", .str "total", .str "least", .str "place", .str "first", .str "list", .str "back"] ++ _) ++ _)) 1 sc__law_word_by.nd (ex_catR (ex_var 1) (ex_lst (av_cons ex_s (av_cons ex_s (av_cons ex_s (av_cons ex_s (av_cons ex_s (av_cons ex_s (av_cons ex_s (av_cons ex_s (av_cons ex_s (av_cons ex_s av_nil)))))))))) (by exact Nat.le_of_ble_eq_true rfl)) a2 (by decide)) fun u H3 x3 ⟨p3, e3, _, a3⟩ => ?_
    subst e3
    obtain ⟨ss, hss, hall, hsl⟩ : ∃ ss : List Str, H3 p3 = some (.lst (ss.map V.str)) ∧ (∀ s ∈ ss, s.length ≤ 10) ∧ ss.length = 31 := ⟨["add", "fill", "total", "least", "place", "first", "list", "back", "", "Add", "adds", "ADD", "sum", "min", "undo", "length", "max", "mean", "sub", "set", "put", "count", "made", "even", "added", "filled", "listed", "clear", "average", "reverse", "replace"], a3, by decide +kernel, rfl⟩
    have q := q.up ((x1.trans x2).trans x3)
    clear a1 a2 a3

    refine sb_when (tx_gt (ex_mod (ex_var 0) ex_i (by decide +kernel)) ex_i) (fun _ => ?_) (fun _ => ?_)
    · obtain ⟨z, hz, hl⟩ := at_strs (k := c / 4 % 8) (by omega) (by rw [hsl]; omega) hall
      exact sb_retI (ex_ixL (ex_var 1) (ex_mod (ex_fdiv (ex_var 0) ex_i ⟨by decide, by decide⟩) ex_i (by decide +kernel)) (SqL.of hss) hz) fun H4 x => q _ H4 x ⟨z, rfl, hl⟩
    refine sb_when (tx_eqI (ex_mod (ex_var 0) ex_i (by decide +kernel)) ex_i) (fun _ => ?_) (fun _ => ?_)
    · obtain ⟨z, hz, hl⟩ := at_strs (k := 8 + c / 8 % 23) (by omega) (by rw [hsl]; omega) hall
      exact sb_retI (ex_ixL (ex_var 1) (ex_add ex_i (ex_mod (ex_fdiv (ex_var 0) ex_i ⟨by decide, by decide⟩) ex_i (by decide +kernel))) (SqL.of hss) hz) fun H4 x => q _ H4 x ⟨z, rfl, hl⟩
    refine sb_set 2 sc__law_word_by.nd ex_s ?_
    refine sb_forR1 3 (passes_of rfl) sc__law_word_by.nd B.range (av_cons (ex_add ex_i (ex_mod (ex_fdiv (ex_var 0) ex_i ⟨by decide, by decide⟩) ex_i (by decide +kernel))) av_nil) ⟨by omega, by omega⟩ (fun i σ' H4 => Ex H3 H4 ∧ i ≤ 10 ∧ ∃ (z : Str) (v3 : Option V), z.length = i ∧ σ' = [some (.int c), some (.ref p3), some (.str z), v3]) ⟨Ex.refl _, by omega, "", none, rfl, rfl⟩ (fun i σ' H4 hi W => ?_) (fun σ' H4 W => ?_)
    · obtain ⟨x4, hi10, z, v3, hz, rfl⟩ := W
      obtain ⟨ch, hch⟩ := at_sign (z := "abcdefghijklmnopqrstuvwxyz") (k := (c / 48 + (i : Int) * (c / 7)) % 26) (by omega) (by rw [show (("abcdefghijklmnopqrstuvwxyz" : Str).length : Int) = 26 by decide +kernel]; omega)
      refine sb_set 2 sc__law_word_by.nd (ex_adds (ex_var 2) (ex_ixS ex_s (ex_mod (ex_add (ex_fdiv (ex_var 0) ex_i ⟨by decide, by decide⟩) (ex_mulL (ex_var 3) (ex_fdiv (ex_var 0) ex_i ⟨by decide, by decide⟩) ⟨by omega, by omega⟩)) ex_i (by decide +kernel)) (by decide +kernel) hch) (by rw [hz, sign_len]; omega)) (sb_next (by exact ⟨x4, by omega, _, _, by rw [app_len, hz, sign_len], rfl⟩))
    · obtain ⟨x4, hi10, z, v3, hz, rfl⟩ := W
      exact sb_retI (ex_var 2) fun H5 x => q _ H5 (x4.trans x) ⟨z, rfl, by omega⟩

abbrev s__law_figures_by : Stmt := topS 18
theorem sc__law_figures_by : FnScope ["_law_cell", "_law_most", "_law_tail", "_law_odd"] ["_law_cell", "_law_most"] (defScope s__law_figures_by) := ⟨rfl, rfl, rfl, by decide +kernel, rfl, by decide +kernel, by decide +kernel⟩
theorem ok__law_figures_by (B : Bt mg) (F : Df K mg "_law_figures_by" s__law_figures_by ["_law_cell", "_law_most"]) : Dn P w K mg base "_law_figures_by" 1 ["_law_cell", "_law_most"] spFiguresBy :=
  def_ok F sc__law_figures_by (fun vs H Q E ⟨_, _, e, _⟩ => by rw [e] <;> rfl) fun f cdv A outer s H vs Q E hr h => by
    obtain ⟨c, m, rfl, m0, m1, q⟩ := h
    have e59 : (10 : Int) ^ 59 = ((10 ^ 59 : Nat) : Int) := by decide +kernel
    rw [e59] at m1
    have b1 : ∀ a b : Int, 0 < b → b ≤ m → (a % b).natAbs < 10 ^ 59 := fun a b h0 h1 => by
      have k0 := Int.emod_nonneg a (show b ≠ 0 by omega)
      have k1 := Int.emod_lt_of_pos a h0
      generalize (10 : Nat) ^ 59 = T at m1 ⊢
      omega
    have lg : ∀ {a : Int}, a.natAbs < 10 ^ 59 → a.natAbs.log2 < 1920 := fun h => log2_lt h (by decide)
    refine sb_when (tx_eqI (ex_mod (ex_var 0) ex_i (by decide +kernel)) ex_i) (fun _ => ?_) (fun _ => ?_)
    · exact sb_retI (ex_strI B.str (av_cons (ex_mod (ex_fdiv (ex_var 0) ex_i ⟨by decide, by decide⟩) (ex_var 1) (by omega)) av_nil) (lg (b1 (c / 8) m (by omega) (Int.le_refl _)))) fun H2 x => q _ H2 x ⟨_, rfl, Nat.le_trans (strI_len (by decide) (b1 (c / 8) m (by omega) (Int.le_refl _))) (by decide)⟩
    refine sb_when (tx_eqI (ex_mod (ex_var 0) ex_i (by decide +kernel)) ex_i) (fun _ => ?_) (fun _ => ?_)
    · have hl := strI_len (by decide) (b1 (c / 8) m (by omega) (Int.le_refl _))
      exact sb_retI (ex_adds ex_s (ex_strI B.str (av_cons (ex_mod (ex_fdiv (ex_var 0) ex_i ⟨by decide, by decide⟩) (ex_var 1) (by omega)) av_nil) (lg (b1 (c / 8) m (by omega) (Int.le_refl _)))) (by rw [show ("-" : Str).length = 1 by decide +kernel]; omega)) fun H2 x => q _ H2 x ⟨_, rfl, by rw [app_len, show ("-" : Str).length = 1 by decide +kernel]; omega⟩
    refine sb_when (tx_eqI (ex_mod (ex_var 0) ex_i (by decide +kernel)) ex_i) (fun _ => ?_) (fun _ => ?_)
    · have hb := b1 (c / 48) (m / 1000) (by omega) (by omega)
      have hl := strI_len (by decide) hb
      obtain ⟨z, hz, hzl⟩ := at_strs (ss := ["", "", "7", Str.ofString (toString (c / 48 % (m / 1000)))]) (k := c / 8 % 4) (n := 60) (by omega) (by show c / 8 % 4 < 4; omega) (fun s hs => by
        simp only [List.mem_cons, List.not_mem_nil, or_false] at hs
        rcases hs with rfl | rfl | rfl | rfl
        · decide
        · decide
        · decide +kernel
        · exact hl)
      refine sb_set (v := .str z) 2 sc__law_figures_by.nd (ex_ixN (ex_lst (av_cons ex_s (av_cons ex_s (av_cons ex_s (av_cons (ex_strI B.str (av_cons (ex_mod (ex_fdiv (ex_var 0) ex_i ⟨by decide, by decide⟩) (ex_fdiv (ex_var 1) ex_i ⟨by decide, by decide⟩) (by omega)) av_nil) (lg hb)) av_nil)))) (by exact Nat.le_of_ble_eq_true rfl)) (ex_mod (ex_fdiv (ex_var 0) ex_i ⟨by decide, by decide⟩) ex_i (by decide +kernel)) hz) ?_
      obtain ⟨z2, hz2, hzl2⟩ := at_strs (ss := ["-0", "0", "00", "-00", "0", "-0"]) (k := c / 8 % 6) (n := 3) (by omega) (by show c / 8 % 6 < 6; omega) (by decide +kernel)

      exact sb_retI (ex_adds (i := z2) (j := z) (ex_ixN (ex_lst (av_cons ex_s (av_cons ex_s (av_cons ex_s (av_cons ex_s (av_cons ex_s (av_cons ex_s av_nil)))))) (by exact Nat.le_of_ble_eq_true rfl)) (ex_mod (ex_fdiv (ex_var 0) ex_i ⟨by decide, by decide⟩) ex_i (by decide +kernel)) hz2) (ex_var 2) (by omega)) fun H2 x => q _ H2 x ⟨_, rfl, by rw [app_len]; omega⟩
    refine sb_when (tx_eqI (ex_mod (ex_var 0) ex_i (by decide +kernel)) ex_i) (fun _ => ?_) (fun _ => ?_)
    · refine sb_new 3 sc__law_figures_by.nd (ex_lst (av_cons ex_s (av_cons ex_s (av_cons ex_s (av_cons ex_s (av_cons ex_s (av_cons ex_s (av_cons ex_s (av_cons ex_s (av_cons ex_s (av_cons ex_s av_nil)))))))))) (by exact Nat.le_of_ble_eq_true rfl)) fun p1 h1 => ?_
      have x1 := Ex.new (o := .lst [V.str "", .str "-", .str "-0", .str "+1", .str "01", .str "-01", .str "00", .str "1.5", .str "--1", .str "1-"]) h1
      have a1 : (upd H p1 (.lst [V.str "", .str "-", .str "-0", .str "+1", .str "01", .str "-01", .str "00", .str "1.5", .str "--1", .str "1-"])) p1 = some (.lst [V.str "", .str "-", .str "-0", .str "+1", .str "01", .str "-01", .str "00", .str "1.5", .str "--1", .str "1-"]) := upd_same
      generalize upd H p1 (.lst [V.str "", .str "-", .str "-0", .str "+1", .str "01", .str "-01", .str "00", .str "1.5", .str "--1", .str "1-"]) = H1 at x1 a1 ⊢

      refine sb_asg (R := NL ([V.str "", .str "-", .str "-0", .str "+1", .str "01", .str "-01", .str "00", .str "1.5", .str "--1", .str "1-"] ++ _)) 3 sc__law_figures_by.nd (ex_catR (ex_var 3) (ex_lst (av_cons ex_s (av_cons ex_s (av_cons ex_s (av_cons ex_s (av_cons ex_s (av_cons ex_s (av_cons ex_s (av_cons ex_s av_nil)))))))) (by exact Nat.le_of_ble_eq_true rfl)) a1 (by decide)) fun u H2 x2 ⟨p2, e2, _, a2⟩ => ?_
      subst e2
      obtain ⟨ss, hss, hall, hsl⟩ : ∃ ss : List Str, H2 p2 = some (.lst (ss.map V.str)) ∧ (∀ s ∈ ss, s.length ≤ 10) ∧ ss.length = 18 := ⟨["", "-", "-0", "+1", "01", "-01", "00", "1.5", "--1", "1-", "a", "1a", "1e3", "0x1", "1_0", "None", "-+2", "1,0"], a2, by decide +kernel, rfl⟩

      obtain ⟨z, hz, hl⟩ := at_strs (k := c / 8 % 18) (by omega) (by rw [hsl]; omega) hall
      exact sb_retI (ex_ixL (ex_var 3) (ex_mod (ex_fdiv (ex_var 0) ex_i ⟨by decide, by decide⟩) ex_i (by decide +kernel)) (SqL.of hss) hz) fun H4 x => q _ H4 ((x1.trans x2).trans x) ⟨z, rfl, by omega⟩
    · have hb : (c / 8 % 41 - 20).natAbs < 10 ^ 59 := Nat.lt_of_lt_of_le (show _ < 100 by omega) (by decide +kernel)
      exact sb_retI (ex_strI B.str (av_cons (ex_sub (ex_mod (ex_fdiv (ex_var 0) ex_i ⟨by decide, by decide⟩) ex_i (by decide +kernel)) ex_i) av_nil) (lg hb)) fun H2 x => q _ H2 x ⟨_, rfl, Nat.le_trans (strI_len (by decide) hb) (by decide)⟩

abbrev s__law_signs : Stmt := topS 19
theorem sc__law_signs : FnScope ["_law_some"] [] (defScope s__law_signs) := ⟨rfl, rfl, rfl, by decide +kernel, rfl, by decide +kernel, by decide +kernel⟩
theorem ok__law_signs (F : Df K mg "_law_signs" s__law_signs []) : Dn P w K mg base "_law_signs" 1 [] spSigns :=
  def_ok F sc__law_signs (fun vs H Q E ⟨e, _⟩ => by rw [e] <;> rfl) fun f cdv A outer s H vs Q E hr h => by
    obtain ⟨rfl, q⟩ := h

    refine sb_set 0 sc__law_signs.nd ex_s ?_
    exact sb_ret (ex_adds (ex_var 0) ex_s (by decide +kernel)) q

abbrev s__law_number_of : Stmt := topS 20
theorem sc__law_number_of : FnScope ["_law_word", "_law_figures", "_law_sign"] ["_law_word"] (defScope s__law_number_of) := ⟨rfl, rfl, rfl, by decide +kernel, rfl, by decide +kernel, by decide +kernel⟩
theorem ok__law_number_of (B : Bt mg) (F : Df K mg "_law_number_of" s__law_number_of ["_law_word"]) : Dn P w K mg base "_law_number_of" 1 ["_law_word"] spNumOf :=
  def_ok F sc__law_number_of (fun vs H Q E ⟨_, e, _⟩ => by rw [e] <;> rfl) fun f cdv A outer s H vs Q E hr h => by
    obtain ⟨w, rfl, hl, q⟩ := h
    have hwz : (mkS w).length ≤ 1000000 := by rw [mkS_len]; omega

    refine sb_set 1 sc__law_number_of.nd (ex_var 0) ?_
    refine sb_join (fun σ' H1 => H1 = H ∧ σ' = [some (.str (mkS w)), some (.str (mkS (figs w))), none]) (k := decide (w.take 1 = [45])) (TX.is (tx_eq (ex_sliceS (ex_var 0) ox_none (ox_some ex_i) hwz) ex_s) (by rw [cutS_head, s_dash, eq_mkS])) (fun c => ?_) (fun c => ?_) ?_
    · have ef : figs w = w.drop 1 := if_pos (of_decide_eq_true c)
      refine sb_set (v := .str (mkS (figs w))) 1 sc__law_number_of.nd (EX.is (ex_sliceS (ex_var 0) (ox_some ex_i) ox_none hwz) (by rw [cutS_tail, ef])) (sb_next (by exact ⟨rfl, rfl⟩))
    · have ef : figs w = w := if_neg (of_decide_eq_false c)
      refine sb_next ?_
      rw [ef]
      exact ⟨rfl, rfl⟩
    rintro σ' H1 ⟨rfl, rfl⟩
    have hfl := figs_len w
    have hz : (mkS (figs w)).length ≤ 1000000 := by rw [mkS_len]; omega
    have qn : ¬ OkN w → Gives (Is .non) H1 Q := fun n => by rw [if_neg n] at q; exact q
    by_cases h1 : figs w = []
    · refine sb_when (k := true) (tx_w (wx_or (m := true) (TX.is (k' := true) (tx_eq (ex_var 1) ex_s) (by rw [h1, s_no, eq_mkS]; rfl)) (fun c => by cases c))) (fun _ => ?_) (fun c => by cases c)
      exact sb_ret ex_n (qn fun ok => ok.1 h1)
    obtain ⟨c0, r, hf⟩ := List.exists_cons_of_ne_nil h1
    have hat : atI (mkS (figs w)).cps.toList 0 = some c0 := by
      show atI (figs w) 0 = some c0
      rw [hf]
      exact at0
    refine sb_when (k := decide (w = [45, 48]) || decide (c0 = 48 ∧ 1 < (figs w).length)) (TX.is (tx_w (wx_or (tx_eq (ex_var 1) ex_s) (fun z1 => wx_or (tx_eq (ex_var 0) ex_s) (fun z2 => (wx_or1 (tx_w (wx_and (tx_gt (ex_lenS B.len (av_cons (ex_var 1) av_nil) hz) ex_i) (fun z3 => (wx_and1 (tx_eq (ex_ixS (ex_var 1) ex_i hz hat) ex_s)))))))))) (by
      rw [s_no, s_m0, s_0, eq_mkS, eq_mkS, decide_eq_false h1, show (⟨#[c0]⟩ : Str) = mkS [c0] from rfl, eq_mkS, mkS_len]
      rw [Bool.false_or]
      congr 1
      rw [← Bool.decide_and, decide_eq_decide]
      constructor
      · rintro ⟨a, b⟩
        exact ⟨by simpa using b, by omega⟩
      · rintro ⟨a, b⟩
        exact ⟨by omega, by rw [a]⟩)) (fun c => ?_) (fun c => ?_)
    · refine sb_ret ex_n (qn fun ok => ?_)
      rcases Bool.or_eq_true _ _ ▸ c with c | c
      · exact ok.2.1 (of_decide_eq_true c)
      · have c := of_decide_eq_true c
        exact ok.2.2.1 ⟨by rw [hf, c.1]; rfl, c.2⟩
    have c := Bool.or_eq_false_iff.mp c
    refine sb_forS 2 (passes_of rfl) sc__law_number_of.nd (ex_var 1) (fun i σ' H2 => H2 = H1 ∧ AllDigits ((figs w).take i) ∧ ∃ v2 : Option V, σ' = [some (.str (mkS w)), some (.str (mkS (figs w))), v2]) ⟨rfl, fun c hc => (by simp at hc), none, rfl⟩ (fun i ch σ' H2 hc W => ?_) (fun σ' H2 W => ?_)
    · obtain ⟨rfl, hd, v2, rfl⟩ := W
      have hc' : (figs w)[i]? = some ch := by
        have := hc
        rw [← Array.getElem?_toList] at this
        exact this
      refine sb_when (k := !decide (48 ≤ ch ∧ ch ≤ 57)) (TX.is ((tx_notInC (ex_var 2) ex_s)) (by rw [in_figs])) (fun k => ?_) (fun k => ?_)
      · have k : ¬ (48 ≤ ch ∧ ch ≤ 57) := fun z => by rw [decide_eq_true z] at k; cases k
        exact sb_ret ex_n (qn fun ok => k (ok.2.2.2 ch (List.mem_of_getElem? hc')))
      · have k : 48 ≤ ch ∧ ch ≤ 57 := by simpa using k
        refine sb_next ?_
        refine ⟨rfl, fun d hd' => ?_, _, rfl⟩
        rw [List.take_succ, hc'] at hd'
        rcases List.mem_append.mp hd' with hd' | hd'
        · exact hd d hd'
        · have : d = ch := by simpa using hd'
          rw [this]
          exact k
    obtain ⟨rfl, hd, v2, rfl⟩ := W
    have hd : AllDigits (figs w) := by
      have e : (mkS (figs w)).cps.size = (figs w).length := by
        show (figs w).toArray.size = _
        simp
      rw [e, List.take_length] at hd
      exact hd
    have ok : OkN w := ⟨h1, of_decide_eq_false c.1, fun z => of_decide_eq_false c.2 ⟨by
      have z1 := z.1
      rw [hf] at z1
      simpa using z1, z.2⟩, hd⟩
    rw [if_pos ok] at q
    exact sb_ret (R := Is (.int (valN w))) (ex_intS B.int (av_cons (ex_var 0) av_nil) (int_word ok (by omega)) (by rw [mkS_len]; omega)) q

-- SPLIT
open TL NumText
theorem app_mkS (a b : List Nat) : mkS a ++ mkS b = mkS (a ++ b) := ext_tl (by rw [tl_append]; rfl)
theorem cntL_ok {z : Str} {n : Nat} (h : 1 ≤ n) : cntL z = (n : Int) - 1 ↔ cnts.lookup z = some ((n : Int) - 1) := by
  unfold cntL
  cases e : cnts.lookup z with
  | none =>
    constructor
    · intro h2
      have : (-1 : Int) = (n : Int) - 1 := h2
      omega
    · intro h2; cases h2
  | some m =>
    constructor
    · intro h2
      have : m = (n : Int) - 1 := h2
      rw [this]
    · intro h2
      injection h2

abbrev s__law_deed_of : Stmt := topS 21
theorem sc__law_deed_of : FnScope ["_law_line", "_law_parts", "_law_part", "_law_sign", "_law_deed", "_law_word"] ["_law_line"] (defScope s__law_deed_of) := ⟨rfl, rfl, rfl, by decide +kernel, rfl, by decide +kernel, by decide +kernel⟩
theorem ok__law_deed_of (B : Bt mg) (F : Df K mg "_law_deed_of" s__law_deed_of ["_law_line"]) (G__law_count : Dn P w K mg base "_law_count" 1 ["_law_word"] spCount) (G__law_number_of : Dn P w K mg base "_law_number_of" 1 ["_law_word"] spNumOf) : Dn P w K mg base "_law_deed_of" 2 ["_law_line"] spDeedOf :=
  def_ok F sc__law_deed_of (fun vs H Q E ⟨_, e, _⟩ => by rw [e] <;> rfl) fun f cdv A outer s H vs Q E hr h => by
    obtain ⟨l, rfl, hl, q1, q2⟩ := h
    refine sb_new 1 sc__law_deed_of.nd (ex_lst av_nil (by exact Nat.le_of_ble_eq_true rfl)) fun g hg => ?_
    have x1 : Ex H (upd H g (.lst [])) := Ex.new hg
    refine sb_set 2 sc__law_deed_of.nd ex_s ?_

    have hz : (mkS l).length + (" " : Str).length ≤ 1000000 := by rw [mkS_len, s_blank, mkS_len, List.length_singleton]; omega
    have eap : mkS l ++ (" " : Str) = mkS (l ++ [32]) := by rw [s_blank, app_mkS]
    refine sb_forS (z := mkS (l ++ [32])) 3 (passes_of rfl) sc__law_deed_of.nd (EX.is (ex_adds (ex_var 0) ex_s hz) (by rw [eap])) (fun i σ' H2 => ∃ (ps : List (List Nat)) (cur : List Nat) (v3 : Option V), ((l ++ [32]).take i).foldl wst ([], []) = (ps, cur) ∧ Ex H H2 ∧ H2 g = some (.lst (ps.map fun p => V.str (mkS p))) ∧ ps.length + cur.length ≤ i ∧ i ≤ l.length + 1 ∧ σ' = [some (.str (mkS l)), some (.ref g), some (.str (mkS cur)), v3, none, none])
      ⟨[], [], none, rfl, x1, upd_same, Nat.le_refl _, by omega, by rw [show mkS [] = ("" : Str) from s_no.symm]; rfl⟩ (fun i c σ' H2 hc W => ?_) (fun σ' H2 W => ?_)
    · obtain ⟨ps, cur, v3, hst, x2, hg2, hpc, hi, rfl⟩ := W
      have hc' : (l ++ [32])[i]? = some c := by
        have := hc
        rw [← Array.getElem?_toList] at this
        exact this
      have hi2 := (List.getElem?_eq_some_iff.mp hc').1
      rw [List.length_append, List.length_singleton] at hi2
      have hst2 : ((l ++ [32]).take (i + 1)).foldl wst ([], []) = wst (ps, cur) c := by
        rw [List.take_succ, hc', List.foldl_append, hst]
        rfl
      refine sb_if (k := decide (c = 32)) (TX.is (tx_eq (ex_var 3) ex_s) (by
        rw [s_blank, show (⟨#[c]⟩ : Str) = mkS [c] from rfl, eq_mkS, decide_eq_decide]
        exact ⟨fun h => by simpa using h, fun h => by rw [h]⟩)) (fun k => ?_) (fun k => ?_)
      · have k := of_decide_eq_true k
        refine sb_appI (v := .str (mkS cur)) (ex_var 1) hg2 (by rw [List.length_map]; omega) (ex_var 2) ?_
        refine sb_set 2 sc__law_deed_of.nd ex_s (sb_thru (sb_next ?_))
        refine ⟨ps ++ [cur], [], _, by rw [hst2]; exact if_pos k, Ex.mut x2 hg, ?_, by rw [List.length_append, List.length_singleton, List.length_nil]; omega, by omega, by rw [show mkS [] = ("" : Str) from s_no.symm]; rfl⟩
        rw [List.map_append]
        exact upd_same
      · have k := of_decide_eq_false k
        refine sb_set (v := .str (mkS (cur ++ [c]))) 2 sc__law_deed_of.nd (EX.is (ex_adds (ex_var 2) (ex_var 3) (by rw [mkS_len, show (⟨#[c]⟩ : Str).length = 1 from rfl]; omega)) (by rw [show (⟨#[c]⟩ : Str) = mkS [c] from rfl, app_mkS])) (sb_thru (sb_next ?_))
        exact ⟨ps, cur ++ [c], _, by rw [hst2]; exact if_neg k, x2, hg2, by rw [List.length_append, List.length_singleton]; omega, by omega, rfl⟩
    obtain ⟨ps, cur, v3, hst, x2, hg2, hpc, hi, rfl⟩ := W
    have esz : (mkS (l ++ [32])).cps.size = (l ++ [32]).length := by
      show (l ++ [32]).toArray.size = _
      simp
    rw [esz, List.take_length, wst_fold] at hst
    have eps : ps = wds l := by
      have := congrArg Prod.fst hst
      exact this.symm
    subst eps
    have hw := wds_ht l
    have hcnt := wds_count l
    have hne : 1 ≤ (wds l).length := by rw [hw, List.length_cons]; omega
    have ev : ((wds l).map fun p => V.str (mkS p)) = .str (mkS ((wds l).headD [])) :: ((wds l).tail.map fun p => V.str (mkS p)) := by
      conv => lhs; rw [hw]
      rfl
    have h0 : atI ((wds l).map fun p => V.str (mkS p)) 0 = some (.str (mkS ((wds l).headD []))) := by rw [ev]; exact at0
    have q2 : ¬ OkL l → Gives (Is .non) H2 Q := fun z => (q2 z).up x2
    have q1 : OkL l → Gives (NT (deedL l)) H2 Q := fun z => (q1 z).up x2

    refine sb_when (k := !decide (cntL (mkS ((wds l).headD [])) = ((wds l).length : Int) - 1)) (TX.is (tx_neI (ex_call G__law_count hr (av_cons (ex_ixL (ex_var 1) ex_i (SqL.of hg2) h0) av_nil) (fun H1 Q x q => ⟨_, rfl, q⟩)) (ex_sub (ex_len B.len (av_cons (ex_var 1) av_nil) (SqL.of hg2)) ex_i)) (by rw [List.length_map])) (fun k => ?_) (fun k => ?_)
    · refine sb_ret ex_n (q2 fun ok => ?_)
      rw [decide_eq_true ((cntL_ok hne).mpr ok.1)] at k
      cases k
    have hlk : cnts.lookup (mkS ((wds l).headD [])) = some (((wds l).length : Int) - 1) := (cntL_ok hne).mp (by
      by_cases z : cntL (mkS ((wds l).headD [])) = ((wds l).length : Int) - 1
      · exact z
      · rw [decide_eq_false z] at k
        cases k)
    have tll : (wds l).tail.length ≤ 400 := by rw [List.length_tail]; omega
    have tl1 : cutV ((wds l).map fun p => V.str (mkS p)) (some 1) none = (wds l).tail.map fun p => V.str (mkS p) := by
      rw [cutV_tail, ev]
      rfl
    refine sb_new 4 sc__law_deed_of.nd (xs := [.str (mkS ((wds l).headD []))]) (ex_lst (av_cons (ex_ixL (ex_var 1) ex_i (SqL.of hg2) h0) av_nil) (by exact Nat.le_of_ble_eq_true rfl)) fun d hd => ?_
    have x3 : Ex H2 (upd H2 d (.lst [.str (mkS ((wds l).headD []))])) := Ex.new hd
    have hg3 := x3 _ _ hg2

    refine sb_forN (xs := (wds l).tail.map fun p => V.str (mkS p)) 5 (passes_of rfl) sc__law_deed_of.nd (EX.mono (ex_slice (ex_var 1) (ox_some ex_i) ox_none (SqL.of hg3)) (fun _ _ _ _ _ z => by rw [tl1] at z; exact z)) (fun t i σ' H4 => ∃ v5 : Option V, Ex H2 H4 ∧ t ≠ d ∧ H4 t = some (.lst ((wds l).tail.map fun p => V.str (mkS p))) ∧ H4 d = some (.lst (.str (mkS ((wds l).headD [])) :: (((wds l).tail.take i).map fun w => V.int (valN w)))) ∧ (∀ w ∈ (wds l).tail.take i, OkN w) ∧ σ' = [some (.str (mkS l)), some (.ref g), some (.str (mkS cur)), v3, some (.ref d), v5])
      (fun t ht => ?_) (fun t i σ' H4 _ ⟨_, _, _, z, _⟩ => SqL.of z) (fun t i x σ' H4 hx W => ?_) (fun t σ' H4 W => ?_)
    · have td : t ≠ d := fun e => by rw [e, upd_same] at ht; cases ht
      exact ⟨none, x3.trans (Ex.new ht), td, upd_same, by rw [upd_ne (Ne.symm td)]; exact upd_same, fun w hw => (by simp at hw), rfl⟩
    · obtain ⟨v5, x4, td, ht, hd4, hok, rfl⟩ := W
      rw [List.getElem?_map] at hx
      cases hw2 : (wds l).tail[i]? with
      | none => rw [hw2] at hx; cases hx
      | some v =>
        rw [hw2] at hx
        cases hx
        have hm := List.mem_of_getElem? hw2
        have hvl := wds_len (l := l) (p := v) (by rw [hw]; exact List.mem_cons_of_mem _ hm)
        by_cases ok : OkN v
        · refine sb_when (k := false) (TX.is (tx_isN (ex_call G__law_number_of hr (av_cons (ex_var 5) av_nil) (Q' := Is (.int (valN v))) (fun H1 Q x q => ⟨v, rfl, by omega, by rw [if_pos ok]; exact q⟩)) ex_n) rfl) (fun c => by cases c) (fun _ => ?_)
          refine sb_appI (v := .int (valN v)) (ex_var 4) hd4 (by rw [List.length_cons, List.length_map, List.length_take]; omega) (ex_call G__law_number_of hr (av_cons (ex_var 5) av_nil) (Q' := Is (.int (valN v))) (fun H1 Q x q => ⟨v, rfl, by omega, by rw [if_pos ok]; exact q⟩)) ?_
          refine sb_next ?_
          refine ⟨_, Ex.mut x4 hd, td, by rw [upd_ne td]; exact ht, ?_, fun w hw3 => ?_, rfl⟩
          · rw [List.take_succ, hw2, List.map_append]
            exact upd_same
          · rw [List.take_succ, hw2] at hw3
            rcases List.mem_append.mp hw3 with hw3 | hw3
            · exact hok w hw3
            · have : w = v := by simpa using hw3
              rw [this]
              exact ok
        · refine sb_when (k := true) (TX.is (tx_isN (ex_call G__law_number_of hr (av_cons (ex_var 5) av_nil) (Q' := Is .non) (fun H1 Q x q => ⟨v, rfl, by omega, by rw [if_neg ok]; exact q⟩)) ex_n) rfl) (fun _ => ?_) (fun c => by cases c)
          exact sb_ret ex_n ((q2 fun z => ok (z.2 v hm)).up x4)
    · obtain ⟨v5, x4, td, ht, hd4, hok, rfl⟩ := W
      rw [List.length_map, List.take_length] at hd4 hok
      exact sb_ret (R := NT (deedL l)) (ex_tupleI B.tuple (av_cons (ex_var 4) av_nil) (SqL.of hd4)) ((q1 ⟨hlk, hok⟩).up x4)

abbrev s__law_refused_by_any : Stmt := topS 22
theorem sc__law_refused_by_any : FnScope ["_law_line", "e"] ["_law_line"] (defScope s__law_refused_by_any) := ⟨rfl, rfl, rfl, by decide +kernel, rfl, by decide +kernel, by decide +kernel⟩
theorem ok__law_refused_by_any {CD CB CR CN CO CT : Addr} (B : Bt mg) (eD : Ec K mg "NoDeed" CD) (eB : Ec K mg "BookError" CB) (eR : Ec K mg "NoRow" CR) (eN : Ec K mg "Nothing" CN) (eO : Ec K mg "OutOfRow" CO) (eT : Ec K mg "TooMany" CT) (xD : ExcC K CD) (xB : ExcC K CB) (s_D_B_t : PySem.W.subIn K (.ref CD) (.ref CB) = some true)
    (k_D_R_f : PySem.W.kitOne K (.ref CD) (.ref CR) = some false) (k_D_N_f : PySem.W.kitOne K (.ref CD) (.ref CN) = some false) (k_D_O_f : PySem.W.kitOne K (.ref CD) (.ref CO) = some false) (k_D_T_f : PySem.W.kitOne K (.ref CD) (.ref CT) = some false) (v_D : PySem.W.kitOne K (.ref CD) (.type "ValueError") = some true)
    (F : Df K mg "_law_refused_by_any" s__law_refused_by_any ["_law_line"]) (G_read : Dn P w K mg base "read" 2 ["line"] (spRead CD)) : Dn P w K mg base "_law_refused_by_any" 3 ["_law_line"] spRefused :=
  def_ok F sc__law_refused_by_any (fun vs H Q E ⟨_, e, _⟩ => by rw [e] <;> rfl) fun f cdv A outer s H vs Q E hr h => by
    obtain ⟨l, rfl, hl, no, q⟩ := h
    refine sb_tryAs (C := CD) (Cc := CB) (i := 1) rfl rfl sc__law_refused_by_any.nd rfl rfl ⟨rfl, by decide, .inl eB.g⟩ (exm_c eB xB s_D_B_t) (takes_of rfl rfl rfl rfl) (fun W pn xe tk pw hw => ?_) (fun a oe pn hz hf => ?_)
    · exact sb_expr (R := No) (ex_callT' tk G_read hr (av_cons (ex_var 0) av_nil) (fun H1 Q x q => ⟨l, rfl, hl, fun ok => absurd ok no, fun _ H2 y => hw H2 (x.trans y)⟩)) fun _ _ _ z => z.elim
    have kit : PySem.W.kitAny K (.ref CD) [.ref CR, .ref CN, .ref CO, .ref CT] = some false := kitAny_cons k_D_R_f (fun _ => kitAny_cons k_D_N_f (fun _ => kitAny_cons k_D_O_f (fun _ => kitAny_cons k_D_T_f (fun _ => rfl) (fun z => by cases z)) (fun z => by cases z)) (fun z => by cases z)) (fun z => by cases z)
    refine sb_when (k := false) (tx_val (ex_isET (cs := [.ref CR, .ref CN, .ref CO, .ref CT]) B.isinstance xD hz hf (ax_cons (ex_var 1) (ax_cons (ex_tup (av_cons (ex_glob rfl eR.g rfl) (av_cons (ex_glob rfl eN.g rfl) (av_cons (ex_glob rfl eO.g rfl) (av_cons (ex_glob rfl eT.g rfl) av_nil)))) (by exact Nat.le_of_ble_eq_true rfl)) ax_nil)) (.cons (.own _) (.cons (.own _) (.cons (.own _) (.cons (.own _) .nil)))) kit)) (fun c => by cases c) (fun _ => ?_)
    exact sb_ret (ex_isE (c := .ty "ValueError") (cv := .type "ValueError") B.isinstance xD hz hf (av_cons (ex_var 1) (av_cons (ex_bltn rfl B.ValueError boot_ValueError' rfl) av_nil)) (fun u hu => hu) v_D) q

-- SPLIT
open TL NumText
theorem cut_two (z : Str) {k j : Int} (h0 : 0 ≤ k) (h1 : k ≤ j) : (cutS z none (some k)).length + (cutS z (some j) none).length ≤ z.length := by
  have hl : z.cps.toList.length = z.length := Array.length_toList
  have e1 : HT.sIx z.length z.length (some k) = min k.toNat z.length := if_neg (by omega)
  have e2 : HT.sIx z.length 0 (some j) = min j.toNat z.length := if_neg (by omega)
  rw [len_tl, len_tl]
  show ((z.cps.toList.drop (HT.sIx z.length 0 none)).take (HT.sIx z.length z.length (some k) - HT.sIx z.length 0 none)).length + ((z.cps.toList.drop (HT.sIx z.length 0 (some j))).take (HT.sIx z.length z.length none - HT.sIx z.length 0 (some j))).length ≤ _
  rw [HT.sIx_none, HT.sIx_none, e1, e2, List.length_take, List.length_take, List.length_drop, List.length_drop]
  omega
/-- a deed's text is one of eight -/
theorem key_str {z : Str} {m : Int} (h : cnts.lookup z = some m) : (PyData.str z).canLay0 = true := by
  have := PySem.mem_of_lookup h
  simp only [cnts, List.mem_cons, List.not_mem_nil, or_false, Prod.mk.injEq] at this
  rw [PyData.canLay0]
  rcases this with ⟨rfl, _⟩ | ⟨rfl, _⟩ | ⟨rfl, _⟩ | ⟨rfl, _⟩ | ⟨rfl, _⟩ | ⟨rfl, _⟩ | ⟨rfl, _⟩ | ⟨rfl, _⟩ <;> decide +kernel
def deedP (l : List Nat) : PyData := .tuple (.str (mkS ((wds l).headD [])) :: ((wds l).tail.map valN).map PyData.int)
theorem deedP_dp {K : PySem.W.Frag} {H : Hp} {t : Addr} {l : List Nat} (h : H t = some (.tup (deedL l))) : Dp K H (.ref t) (deedP l) := by
  refine .tup (SqT.of h) (.cons (.str _) ?_)
  have := dp_ints (K := K) (H := H) ((wds l).tail.map valN)
  rw [List.map_map] at this
  exact this
theorem deedP_shaped {l : List Nat} (h : OkL l) : SeqAt.shaped (deedP l) = true := by
  unfold SeqAt.shaped deedP
  rw [Bool.and_eq_true]
  constructor
  · show PyData.canLayAll0 (_ :: _) = true
    rw [PyData.canLayAll0, key_str h.1, lay_ints]
    rfl
  · refine decide_eq_true ?_
    rw [PyData.depth, PyData.depthAll, PyData.depth]
    have := depth_ints ((wds l).tail.map valN)
    omega

abbrev s_law : Stmt := topS 23
theorem sc_law : FnScope ["_law_script", "_law_word", "_law_many", "_law_most", "_law_line", "_law_k", "_law_at", "_law_due", "_law_found", "_law_refused", "_law_number", "_law_written"] ["_law_script"] (defScope s_law) := ⟨rfl, rfl, rfl, by decide +kernel, rfl, by decide +kernel, by decide +kernel⟩
theorem ok_law {CD : Addr} (B : Bt mg) (eD : Ec K mg "NoDeed" CD) (xD : ExcC K CD) (s_D_D_t : PySem.W.subIn K (.ref CD) (.ref CD) = some true) (F : Df K mg "law" s_law ["_law_script"]) (G_read : Dn P w K mg base "read" 2 ["line"] (spRead CD)) (G_shown : Dn P w K mg base "shown" 1 ["deed"] spShown) (G__law_whole : Dn P w K mg base "_law_whole" 1 ["_law_found"] spWhole) (G__law_cell_at : Dn P w K mg base "_law_cell_at" 1 ["_law_script", "_law_k"] (spCell K))
    (G__law_word_by : Dn P w K mg base "_law_word_by" 1 ["_law_cell"] spWordBy) (G__law_count : Dn P w K mg base "_law_count" 1 ["_law_word"] spCount) (G__law_figures_by : Dn P w K mg base "_law_figures_by" 1 ["_law_cell", "_law_most"] spFiguresBy) (G__law_signs : Dn P w K mg base "_law_signs" 1 [] spSigns) (G__law_deed_of : Dn P w K mg base "_law_deed_of" 2 ["_law_line"] spDeedOf)
    (G__law_refused_by_any : Dn P w K mg base "_law_refused_by_any" 3 ["_law_line"] spRefused) :
    Dn P w K mg base "law" 60 ["_law_script"] (spLaw K) :=
  def_ok F sc_law (fun vs H Q E ⟨_, _, e, _⟩ => by rw [e] <;> rfl) fun f cdv A outer s H vs Q E hr h => by
    obtain ⟨a, ns, rfl, hS, hlen, q⟩ := h


    refine sb_asg (R := Of (TxtP 10)) 1 sc_law.nd (ex_call G__law_word_by hr (av_cons (ex_call G__law_cell_at hr (av_cons (ex_var 0) (av_cons ex_i av_nil)) (cl hS (by first | decide | omega))) av_nil) (fun H1 Q x q => ⟨_, rfl, q⟩)) fun u H1 x1 hu => ?_
    obtain ⟨wd, rfl, hwd⟩ := hu
    have hS1 := x1.l hS
    have q := q.up x1
    clear hS x1


    refine sb_set 2 sc_law.nd (ex_max B.max (av_cons (ex_call G__law_count hr (av_cons (ex_var 1) av_nil) (fun H1 Q x q => ⟨_, rfl, q⟩)) (av_cons ex_i av_nil))) ?_
    rw [maxI]
    have hcb := cntL_b wd
    refine sb_join (fun σ' H' => H' = H1 ∧ ∃ m : Int, 0 ≤ m ∧ m ≤ 4 ∧ σ' = [some (.ref a), some (.str wd), some (.int m), none, none, none, none, none, none, none, none, none]) (tx_eqI (ex_mod (ex_call G__law_cell_at hr (av_cons (ex_var 0) (av_cons ex_i av_nil)) (cl hS1 (by first | decide | omega))) ex_i (by decide +kernel)) ex_i) (fun _ => sb_set 2 sc_law.nd (ex_mod (ex_fdiv (ex_call G__law_cell_at hr (av_cons (ex_var 0) (av_cons ex_i av_nil)) (cl hS1 (by first | decide | omega))) ex_i ⟨by decide, by decide⟩) ex_i (by decide +kernel)) (sb_next (by exact ⟨rfl, _, by omega, by omega, rfl⟩))) (fun _ => sb_next (by exact ⟨rfl, _, by omega, by omega, rfl⟩)) ?_
    rintro σ' H2 ⟨rfl, m, m0, m1, rfl⟩
    refine sb_set 3 sc_law.nd (ex_pow ex_i ex_i ⟨by decide, by decide, by decide⟩) ?_
    refine sb_join (fun σ' H' => H' = H2 ∧ ∃ T : Int, 1000 ≤ T ∧ T ≤ 10 ^ 59 ∧ σ' = [some (.ref a), some (.str wd), some (.int m), some (.int T), none, none, none, none, none, none, none, none]) (tx_gt (ex_mod (ex_call G__law_cell_at hr (av_cons (ex_var 0) (av_cons ex_i av_nil)) (cl hS1 (by first | decide | omega))) ex_i (by decide +kernel)) ex_i) (fun _ => sb_set 3 sc_law.nd (ex_pow ex_i ex_i ⟨by decide, by decide, by decide⟩) (sb_next (by exact ⟨rfl, _, by decide +kernel, by decide +kernel, rfl⟩))) (fun _ => sb_next (by exact ⟨rfl, _, by decide +kernel, by decide +kernel, rfl⟩)) ?_
    rintro σ' H3 ⟨rfl, T, T0, T1, rfl⟩
    refine sb_set 4 sc_law.nd (ex_var 1) ?_
    refine sb_forR1 5 (passes_of rfl) sc_law.nd B.range (av_cons (ex_var 2) av_nil) ⟨by omega, by omega⟩ (fun i σ' H' => Ex H3 H' ∧ i ≤ 4 ∧ ∃ (z : Str) (v5 : Option V), z.length ≤ 10 + 71 * i ∧ σ' = [some (.ref a), some (.str wd), some (.int m), some (.int T), some (.str z), v5, none, none, none, none, none, none]) ⟨Ex.refl _, by omega, wd, none, by omega, rfl⟩ (fun i σ' H' hi W => ?_) (fun σ' H' W => ?_)
    · obtain ⟨x4, i4, z, v5, hz, rfl⟩ := W
      have hS4 := x4.l hS1


      have h1 : (" " : Str).length = 1 := by decide +kernel
      refine sb_asg (R := Of (TxtP ((z ++ (" " : Str)).length + 70))) 4 sc_law.nd (ex_addsO (ex_adds (ex_var 4) ex_s (by omega)) (ex_call G__law_figures_by hr (av_cons (ex_call G__law_cell_at hr (av_cons (ex_var 0) (av_cons (ex_add ex_i (ex_var 5)) av_nil)) (cl hS4 (by first | decide | omega))) (av_cons (ex_var 3) av_nil)) (fun H1 Q x q => ⟨_, T, rfl, T0, T1, q⟩)) (by rw [app_len]; omega) (fun y => app_len _ _)) fun u H5 x5 hu => ?_
      obtain ⟨z2, rfl, hz2⟩ := hu
      rw [app_len] at hz2
      exact sb_next (by exact ⟨x4.trans x5, by omega, z2, _, by omega, rfl⟩)
    obtain ⟨x4, _, z, v5, hz, rfl⟩ := W
    have hz : z.length ≤ 294 := by omega
    have hS4 := x4.l hS1
    have q := q.up x4
    clear hS1 x4


    refine sb_set 6 sc_law.nd (ex_mod (ex_call G__law_cell_at hr (av_cons (ex_var 0) (av_cons ex_i av_nil)) (cl hS4 (by first | decide | omega))) (ex_add (ex_lenS B.len (av_cons (ex_var 4) av_nil) (by omega)) ex_i) (by omega)) ?_
    have at0' := Int.emod_nonneg (ns.getD (7 : Int).toNat 0) (show (z.length : Int) + 1 ≠ 0 by omega)
    generalize ns.getD (7 : Int).toNat 0 % ((z.length : Int) + 1) = k at at0' ⊢
    have h1 : (" " : Str).length = 1 := by decide +kernel
    have sg : ∀ j : Int, ∃ c, atI sgs.cps.toList (j % 96) = some c := fun j => at_sign (by omega) (by rw [show (sgs.length : Int) = 96 by decide +kernel]; omega)
    have sgl : sgs.length ≤ 1000000 := by decide +kernel
    have step : ∀ (y : Str), (∃ (x x2 : Str) (j j2 : Int), (x.length ≤ 295 ∧ y.length ≤ 400) ∨ True) → True := fun _ _ => trivial
    have c1 := cut_two z at0' (Int.le_refl k)
    refine sb_join (fun σ' H5 => H5 = H' ∧ ∃ z2 : Str, z2.length ≤ 295 ∧ σ' = [some (.ref a), some (.str wd), some (.int m), some (.int T), some (.str z2), v5, some (.int k), none, none, none, none, none]) (tx_eqI (ex_mod (ex_call G__law_cell_at hr (av_cons (ex_var 0) (av_cons ex_i av_nil)) (cl hS4 (by first | decide | omega))) ex_i (by decide +kernel)) ex_i) (fun _ => sb_set 4 sc_law.nd (ex_adds (ex_adds (ex_sliceS (ex_var 4) ox_none (ox_some (ex_var 6)) (by omega)) ex_s (by omega)) (ex_sliceS (ex_var 4) (ox_some (ex_var 6)) ox_none (by omega)) (by rw [app_len]; omega)) (sb_next (by exact ⟨rfl, _, by rw [app_len, app_len]; omega, rfl⟩))) (fun _ => sb_next (by exact ⟨rfl, z, by omega, rfl⟩)) ?_
    rintro σ' H5 ⟨rfl, z, hz, rfl⟩
    have c1 := cut_two z at0' (Int.le_refl k)
    obtain ⟨ch, hch⟩ := sg (ns.getD (8 : Int).toNat 0)
    have ch1 : (⟨#[ch]⟩ : Str).length = 1 := rfl
    refine sb_join (fun σ' H6 => H6 = H5 ∧ ∃ z2 : Str, z2.length ≤ 296 ∧ σ' = [some (.ref a), some (.str wd), some (.int m), some (.int T), some (.str z2), v5, some (.int k), none, none, none, none, none]) (tx_eqI (ex_mod (ex_call G__law_cell_at hr (av_cons (ex_var 0) (av_cons ex_i av_nil)) (cl hS4 (by first | decide | omega))) ex_i (by decide +kernel)) ex_i) (fun _ => sb_set 4 sc_law.nd (ex_adds (ex_adds (ex_sliceS (ex_var 4) ox_none (ox_some (ex_var 6)) (by omega)) (ex_ixS (ex_call0 G__law_signs hr (Q' := Is (.str sgs)) (fun H1 Q x q => ⟨rfl, q⟩)) (ex_mod (ex_call G__law_cell_at hr (av_cons (ex_var 0) (av_cons ex_i av_nil)) (cl hS4 (by first | decide | omega))) ex_i (by decide +kernel)) sgl hch) (by omega)) (ex_sliceS (ex_var 4) (ox_some (ex_var 6)) ox_none (by omega)) (by rw [app_len]; omega)) (sb_next (by exact ⟨rfl, _, by rw [app_len, app_len]; omega, rfl⟩))) (fun _ => sb_next (by exact ⟨rfl, z, by omega, rfl⟩)) ?_
    rintro σ' H6 ⟨rfl, z, hz, rfl⟩
    have c1 := cut_two z at0' (show k ≤ k + 1 by omega)
    refine sb_join (fun σ' H7 => H7 = H6 ∧ ∃ z2 : Str, z2.length ≤ 297 ∧ σ' = [some (.ref a), some (.str wd), some (.int m), some (.int T), some (.str z2), v5, some (.int k), none, none, none, none, none]) (tx_eqI (ex_mod (ex_call G__law_cell_at hr (av_cons (ex_var 0) (av_cons ex_i av_nil)) (cl hS4 (by first | decide | omega))) ex_i (by decide +kernel)) ex_i) (fun _ => sb_set 4 sc_law.nd (ex_adds (ex_adds (ex_sliceS (ex_var 4) ox_none (ox_some (ex_var 6)) (by omega)) (ex_ixS (ex_call0 G__law_signs hr (Q' := Is (.str sgs)) (fun H1 Q x q => ⟨rfl, q⟩)) (ex_mod (ex_call G__law_cell_at hr (av_cons (ex_var 0) (av_cons ex_i av_nil)) (cl hS4 (by first | decide | omega))) ex_i (by decide +kernel)) sgl hch) (by omega)) (ex_sliceS (ex_var 4) (ox_some (ex_add (ex_var 6) ex_i)) ox_none (by omega)) (by rw [app_len]; omega)) (sb_next (by exact ⟨rfl, _, by rw [app_len, app_len]; omega, rfl⟩))) (fun _ => sb_next (by exact ⟨rfl, z, by omega, rfl⟩)) ?_
    rintro σ' H7 ⟨rfl, z, hz, rfl⟩
    have c1 := cut_two z at0' (show k ≤ k + 1 by omega)
    refine sb_join (fun σ' H8 => H8 = H7 ∧ ∃ z2 : Str, z2.length ≤ 297 ∧ σ' = [some (.ref a), some (.str wd), some (.int m), some (.int T), some (.str z2), v5, some (.int k), none, none, none, none, none]) (tx_eqI (ex_mod (ex_call G__law_cell_at hr (av_cons (ex_var 0) (av_cons ex_i av_nil)) (cl hS4 (by first | decide | omega))) ex_i (by decide +kernel)) ex_i) (fun _ => sb_set 4 sc_law.nd (ex_adds (ex_sliceS (ex_var 4) ox_none (ox_some (ex_var 6)) (by omega)) (ex_sliceS (ex_var 4) (ox_some (ex_add (ex_var 6) ex_i)) ox_none (by omega)) (by omega)) (sb_next (by exact ⟨rfl, _, by rw [app_len]; omega, rfl⟩))) (fun _ => sb_next (by exact ⟨rfl, z, by omega, rfl⟩)) ?_
    rintro σ' H8 ⟨rfl, z, hz, rfl⟩
    clear c1 hch ch1 sg step sgl hS4
    rw [str_eta z] at hz ⊢
    rw [mkS_len] at hz
    generalize tl z = l at hz ⊢
    have hl : l.length ≤ 400 := by omega
    by_cases ok : OkL l
    · refine sb_asg (R := NT (deedL l)) 7 sc_law.nd (ex_call G__law_deed_of hr (av_cons (ex_var 4) av_nil) (fun H1 Q x q => ⟨l, rfl, hl, fun _ => q, fun n => absurd ok n⟩)) fun u H9 x9 hu => ?_
      obtain ⟨td, rfl, _, hd⟩ := hu
      refine sb_set 8 sc_law.nd ex_n ?_
      refine sb_set 9 sc_law.nd ex_b ?_
      refine sb_try0 (Cc := CD) rfl rfl ⟨rfl, by decide, .inl eD.g⟩ (takes_of rfl rfl rfl rfl) (fun W pn xe tk pw => ?_)
      refine sb_asg (R := NT (deedL l)) 8 sc_law.nd (ex_callT' tk G_read hr (av_cons (ex_var 4) av_nil) (fun H1 Q x q => ⟨l, rfl, hl, fun _ => q, fun n => absurd ok n⟩)) fun u H10 x10 hu => ?_
      obtain ⟨tf, rfl, _, hf⟩ := hu
      have hd10 := x10 _ _ hd
      have q := q.up (x9.trans x10)
      refine sb_out ?_

      refine sb_when (k := false) (TX.is (tx_isN (ex_var 7) ex_n) rfl) (fun c => by cases c) (fun _ => ?_)
      refine sb_when (k := false) (TX.is (tx_w (wx_or (tx_val (ex_var 9)) (fun z1 => wx_or (tx_not (tx_val (ex_isi B.isinstance (av_cons (ex_var 8) (av_cons (ex_bltn rfl B.tuple boot_tuple' rfl) av_nil)) (fun _ x => ty_tup (x _ _ hf)) (k := true) (by decide +kernel)))) (fun z2 => wx_or (tx_ne (ex_lenT B.len (av_cons (ex_var 8) av_nil) (SqT.of hf)) (ex_lenT B.len (av_cons (ex_var 7) av_nil) (SqT.of hd10))) (fun z3 => (wx_or1 (tx_not (tx_val (ex_isi B.isinstance (av_cons (ex_ixT (ex_var 8) ex_i (SqT.of hf) at0) (av_cons (ex_bltn rfl B.str boot_str' rfl) av_nil)) (fun _ _ => ty_str) (k := true) (by decide +kernel)))))))))) (by simp)) (fun c => by cases c) (fun _ => ?_)
      have hw : ¬ (HT.sIx (deedL l).length 0 (some 1) = 0 ∧ HT.sIx (deedL l).length (deedL l).length none = (deedL l).length) := fun z => by
        have e2 : HT.sIx (deedL l).length 0 (some 1) = min 1 (deedL l).length := HT.sIx_nat _ _ 1
        have e3 : (deedL l).length = (wds l).tail.length + 1 := by
          unfold deedL
          rw [List.length_cons, List.length_map]
        have := z.1
        omega
      refine sb_forT (xs := (wds l).tail.map fun w => V.int (valN w)) 10 (passes_of rfl) sc_law.nd (EX.mono (ex_sliceT (ex_var 8) (ox_some ex_i) ox_none (SqT.of hf) hw) (fun _ _ _ _ _ z => by rw [cutV_tail] at z; exact z)) (fun t i σ' H11 => Ex H10 H11 ∧ H11 t = some (.tup ((wds l).tail.map fun w => V.int (valN w))) ∧ ∃ v10 : Option V, σ' = [some (.ref a), some (.str wd), some (.int m), some (.int T), some (.str (mkS l)), v5, some (.int k), some (.ref td), some (.ref tf), some (.bl false), v10, none])
        (fun t ht => ⟨Ex.new ht, upd_same, none, rfl⟩) (fun t i σ' H11 _ ⟨_, z, _⟩ => SqT.of z) (fun t i x σ' H11 hx W => ?_) (fun t σ' H11 W => ?_)
      · obtain ⟨x11, ht, v10, rfl⟩ := W
        rw [List.getElem?_map] at hx
        cases hw2 : (wds l).tail[i]? with
        | none => rw [hw2] at hx; cases hx
        | some v =>
          rw [hw2] at hx
          cases hx
          refine sb_when (k := false) (TX.is (tx_not (tx_val (ex_call G__law_whole hr (av_cons (ex_var 10) av_nil) (fun H1 Q x q => ⟨_, rfl, q⟩)))) rfl) (fun c => by cases c) (fun _ => ?_)
          exact sb_next (by exact ⟨x11, ht, _, rfl⟩)
      · obtain ⟨x11, ht, v10, rfl⟩ := W
        have hf11 := x11 _ _ hf
        have hd11 := x11 _ _ hd10
        have q := q.up x11
        refine sb_set (v := .str (mkS l)) 11 sc_law.nd (ex_call G_shown hr (av_cons (ex_var 7) av_nil) (fun H1 Q x q => ⟨td, l, rfl, x _ _ hd11, ok, hl, q⟩)) ?_

        exact sb_ret (EX.is (ex_and (ex_eqD (ex_var 8) (ex_var 7) hr (deedP l) (deedP_shaped ok) (fun H1 v H2 x y r => by cases r; exact deedP_dp ((x.trans y) _ _ hf11)) (fun H1 v H2 x y r => by cases r; exact deedP_dp ((x.trans y) _ _ hd11))) (fun z1 => ex_and (ex_isi B.isinstance (av_cons (ex_var 11) (av_cons (ex_bltn rfl B.str boot_str' rfl) av_nil)) (fun _ _ => ty_str) (k := true) (by decide +kernel)) (fun z2 => (ex_one (ex_eq (ex_var 11) (ex_var 4)))))) (by simp)) q

    · refine sb_set (v := .non) 7 sc_law.nd (ex_call G__law_deed_of hr (av_cons (ex_var 4) av_nil) (fun H1 Q x q => ⟨l, rfl, hl, fun z => absurd z ok, fun _ => q⟩)) ?_
      refine sb_set 8 sc_law.nd ex_n ?_
      refine sb_set 9 sc_law.nd ex_b ?_
      refine sb_try (C := CD) (Cc := CD) rfl rfl ⟨rfl, by decide, .inl eD.g⟩ (exm_c eD xD s_D_D_t) (takes_of rfl rfl rfl rfl) (fun W pn xe tk pw hw => ?_) (fun a oe pn hz hf => ?_)
      · exact sb_asg (R := No) 8 sc_law.nd (ex_callT' tk G_read hr (av_cons (ex_var 4) av_nil) (fun H1 Q x q => ⟨l, rfl, hl, fun z => absurd z ok, fun _ H2 y => hw H2 (x.trans y)⟩)) fun _ _ _ z => z.elim
      refine sb_set 9 sc_law.nd ex_b (sb_out ?_)
      refine sb_when (k := true) (TX.is (tx_isN (ex_var 7) ex_n) rfl) (fun _ => ?_) (fun c => by cases c)
      exact sb_ret (EX.is (v := .bl (true && true)) (u := .bl true) (ex_and (ex_var 9) (fun z1 => (ex_one (ex_call G__law_refused_by_any hr (av_cons (ex_var 4) av_nil) (Q' := Is (.bl true)) (fun H1 Q x q => ⟨l, rfl, hl, ok, q⟩))))) rfl) q

end
section
variable {P : Program} {w : World} {K : PySem.W.Frag} {mg : Str → Option Value} {base : Heap}
theorem b_shown : BdOk "shown" s_shown ["deed"] := fun _ _ _ _ _ _ us hl => match us, hl with | [_], _ => rfl
theorem b_number_of : BdOk "number_of" s_number_of ["word"] := fun _ _ _ _ _ _ us hl => match us, hl with | [_], _ => rfl
theorem b_read : BdOk "read" s_read ["line"] := fun _ _ _ _ _ _ us hl => match us, hl with | [_], _ => rfl
theorem b__law_whole : BdOk "_law_whole" s__law_whole ["_law_found"] := fun _ _ _ _ _ _ us hl => match us, hl with | [_], _ => rfl
theorem b__law_cell_at : BdOk "_law_cell_at" s__law_cell_at ["_law_script", "_law_k"] := fun _ _ _ _ _ _ us hl => match us, hl with | [_, _], _ => rfl
theorem b__law_word_by : BdOk "_law_word_by" s__law_word_by ["_law_cell"] := fun _ _ _ _ _ _ us hl => match us, hl with | [_], _ => rfl
theorem b__law_count : BdOk "_law_count" s__law_count ["_law_word"] := fun _ _ _ _ _ _ us hl => match us, hl with | [_], _ => rfl
theorem b__law_figures_by : BdOk "_law_figures_by" s__law_figures_by ["_law_cell", "_law_most"] := fun _ _ _ _ _ _ us hl => match us, hl with | [_, _], _ => rfl
theorem b__law_signs : BdOk "_law_signs" s__law_signs [] := fun _ _ _ _ _ _ us hl => match us, hl with | [], _ => rfl
theorem b__law_number_of : BdOk "_law_number_of" s__law_number_of ["_law_word"] := fun _ _ _ _ _ _ us hl => match us, hl with | [_], _ => rfl
theorem b__law_deed_of : BdOk "_law_deed_of" s__law_deed_of ["_law_line"] := fun _ _ _ _ _ _ us hl => match us, hl with | [_], _ => rfl
theorem b__law_refused_by_any : BdOk "_law_refused_by_any" s__law_refused_by_any ["_law_line"] := fun _ _ _ _ _ _ us hl => match us, hl with | [_], _ => rfl
theorem b_law : BdOk "law" s_law ["_law_script"] := fun _ _ _ _ _ _ us hl => match us, hl with | [_], _ => rfl
theorem top {CD CB CR CN CO CT : Addr} (B : Bt mg) (g_FIGURES : Gs mg "FIGURES" "0123456789") (g_COUNTS : Gd K w mg "COUNTS" cnts) (eD : Ec K mg "NoDeed" CD) (eB : Ec K mg "BookError" CB) (eR : Ec K mg "NoRow" CR) (eN : Ec K mg "Nothing" CN) (eO : Ec K mg "OutOfRow" CO) (eT : Ec K mg "TooMany" CT) (xD : ExcC K CD) (xB : ExcC K CB) (s_D_B_t : PySem.W.subIn K (.ref CD) (.ref CB) = some true) (k_D_R_f : PySem.W.kitOne K (.ref CD) (.ref CR) = some false) (k_D_N_f : PySem.W.kitOne K (.ref CD) (.ref CN) = some false) (k_D_O_f : PySem.W.kitOne K (.ref CD) (.ref CO) = some false) (k_D_T_f : PySem.W.kitOne K (.ref CD) (.ref CT) = some false) (v_D : PySem.W.kitOne K (.ref CD) (.type "ValueError") = some true) (s_D_D_t : PySem.W.subIn K (.ref CD) (.ref CD) = some true) (D_shown : Df K mg "shown" s_shown ["deed"]) (D_number_of : Df K mg "number_of" s_number_of ["word"]) (D_read : Df K mg "read" s_read ["line"]) (D__law_whole : Df K mg "_law_whole" s__law_whole ["_law_found"]) (D__law_cell_at : Df K mg "_law_cell_at" s__law_cell_at ["_law_script", "_law_k"]) (D__law_word_by : Df K mg "_law_word_by" s__law_word_by ["_law_cell"]) (D__law_count : Df K mg "_law_count" s__law_count ["_law_word"]) (D__law_figures_by : Df K mg "_law_figures_by" s__law_figures_by ["_law_cell", "_law_most"]) (D__law_signs : Df K mg "_law_signs" s__law_signs []) (D__law_number_of : Df K mg "_law_number_of" s__law_number_of ["_law_word"]) (D__law_deed_of : Df K mg "_law_deed_of" s__law_deed_of ["_law_line"]) (D__law_refused_by_any : Df K mg "_law_refused_by_any" s__law_refused_by_any ["_law_line"]) (D_law : Df K mg "law" s_law ["_law_script"]) : Dn P w K mg base "law" 60 ["_law_script"] (spLaw K) := by
  have G_shown := ok_shown (P := P) (w := w) (base := base) B D_shown
  have G_number_of := ok_number_of (P := P) (w := w) (base := base) B g_FIGURES eD D_number_of
  have G_read := ok_read (P := P) (w := w) (base := base) B g_COUNTS eD D_read G_number_of
  have G__law_whole := ok__law_whole (P := P) (w := w) (base := base) B D__law_whole
  have G__law_cell_at := ok__law_cell_at (P := P) (w := w) (base := base) B D__law_cell_at
  have G__law_word_by := ok__law_word_by (P := P) (w := w) (base := base) B D__law_word_by
  have G__law_count := ok__law_count (P := P) (w := w) (base := base) D__law_count
  have G__law_figures_by := ok__law_figures_by (P := P) (w := w) (base := base) B D__law_figures_by
  have G__law_signs := ok__law_signs (P := P) (w := w) (base := base) D__law_signs
  have G__law_number_of := ok__law_number_of (P := P) (w := w) (base := base) B D__law_number_of
  have G__law_deed_of := ok__law_deed_of (P := P) (w := w) (base := base) B D__law_deed_of G__law_count G__law_number_of
  have G__law_refused_by_any := ok__law_refused_by_any (P := P) (w := w) (base := base) B eD eB eR eN eO eT xD xB s_D_B_t k_D_R_f k_D_N_f k_D_O_f k_D_T_f v_D D__law_refused_by_any G_read
  have G_law := ok_law (P := P) (w := w) (base := base) B eD xD s_D_D_t D_law G_read G_shown G__law_whole G__law_cell_at G__law_word_by G__law_count G__law_figures_by G__law_signs G__law_deed_of G__law_refused_by_any
  exact G_law
end
end RB
open PySem PySem.W PyProof.Rows
set_option maxRecDepth 100000 in
set_option maxHeartbeats 0 in
theorem PySem.Challenge.cw_rangebook_k09_lines_read_and_written_holds : PySem.Challenge.rw_rangebook_k09_lines_read_and_written.Holds := by
  w_on; o_law; k_head; (case hw => w_witness2)
  k_fill
  refine RB.walk (l := PySem.Challenge.rw_rangebook_k09_lines_read_and_written) (st := RB.s_law) rfl rfl rfl RB.b_law (fun w h Y => PySem.W.kIn_of Y) ?F
  case F =>
    intro w mg h KX G
    have z_len : mg "len" = none := by
      refine' PySem.W.mg_none_of KX G ?z
      (case z => k_is)
    have z_min : mg "min" = none := by
      refine' PySem.W.mg_none_of KX G ?z
      (case z => k_is)
    have z_max : mg "max" = none := by
      refine' PySem.W.mg_none_of KX G ?z
      (case z => k_is)
    have z_list : mg "list" = none := by
      refine' PySem.W.mg_none_of KX G ?z
      (case z => k_is)
    have z_range : mg "range" = none := by
      refine' PySem.W.mg_none_of KX G ?z
      (case z => k_is)
    have z_isinstance : mg "isinstance" = none := by
      refine' PySem.W.mg_none_of KX G ?z
      (case z => k_is)
    have z_int : mg "int" = none := by
      refine' PySem.W.mg_none_of KX G ?z
      (case z => k_is)
    have z_bool : mg "bool" = none := by
      refine' PySem.W.mg_none_of KX G ?z
      (case z => k_is)
    have z_ValueError : mg "ValueError" = none := by
      refine' PySem.W.mg_none_of KX G ?z
      (case z => k_is)
    have z_str : mg "str" = none := by
      refine' PySem.W.mg_none_of KX G ?z
      (case z => k_is)
    have z_tuple : mg "tuple" = none := by
      refine' PySem.W.mg_none_of KX G ?z
      (case z => k_is)
    have z_sum : mg "sum" = none := by
      refine' PySem.W.mg_none_of KX G ?z
      (case z => k_is)
    have z_sorted : mg "sorted" = none := by
      refine' PySem.W.mg_none_of KX G ?z
      (case z => k_is)
    have z_abs : mg "abs" = none := by
      refine' PySem.W.mg_none_of KX G ?z
      (case z => k_is)
    have B : RB.Bt mg := ⟨z_len, z_min, z_max, z_list, z_range, z_isinstance, z_int, z_bool, z_ValueError, z_str, z_tuple, z_sum, z_sorted, z_abs⟩
    have g_FIGURES : RB.Gs mg "FIGURES" "0123456789" := by
      refine' RB.gs_mk KX G ?a
      (case a => k_is)
    refine' RB.gd_use (n := "COUNTS") (w := w) (ps := RB.cnts) KX G ?aCOUNTS ?lCOUNTS ?klCOUNTS ?loCOUNTS ?hpCOUNTS ?rCOUNTS
    (case aCOUNTS => k_is); (case lCOUNTS => k_is); (case klCOUNTS => exact ⟨⟨_, _, rfl, rfl⟩, ⟨_, _, rfl, rfl⟩, ⟨_, _, rfl, rfl⟩, ⟨_, _, rfl, rfl⟩, ⟨_, _, rfl, rfl⟩, ⟨_, _, rfl, rfl⟩, ⟨_, _, rfl, rfl⟩, ⟨_, _, rfl, rfl⟩, trivial⟩); (case loCOUNTS => first | rfl | decide); (case hpCOUNTS => exact ⟨⟨_, rfl⟩, ⟨_, rfl⟩, ⟨_, rfl⟩, ⟨_, rfl⟩, ⟨_, rfl⟩, ⟨_, rfl⟩, ⟨_, rfl⟩, ⟨_, rfl⟩, ⟨_, rfl⟩, ⟨_, rfl⟩, ⟨_, rfl⟩, ⟨_, rfl⟩, ⟨_, rfl⟩, ⟨_, rfl⟩, ⟨_, rfl⟩, ⟨_, rfl⟩, trivial⟩)
    intro g_COUNTS
    refine' RB.ec_use (n := "NoDeed") KX G ?aD ?xD ?kD ?bD ?tD ?rD
    (case aD => k_is); (case xD => k_exc); (case kD => k_is); (case bD => k_is); (case tD => k_is)
    intro eD
    refine' RB.ec_use (n := "BookError") KX G ?aB ?xB ?kB ?bB ?tB ?rB
    (case aB => k_is); (case xB => k_exc); (case kB => k_is); (case bB => k_is); (case tB => k_is)
    intro eB
    refine' RB.ec_use (n := "NoRow") KX G ?aR ?xR ?kR ?bR ?tR ?rR
    (case aR => k_is); (case xR => k_exc); (case kR => k_is); (case bR => k_is); (case tR => k_is)
    intro eR
    refine' RB.ec_use (n := "Nothing") KX G ?aN ?xN ?kN ?bN ?tN ?rN
    (case aN => k_is); (case xN => k_exc); (case kN => k_is); (case bN => k_is); (case tN => k_is)
    intro eN
    refine' RB.ec_use (n := "OutOfRow") KX G ?aO ?xO ?kO ?bO ?tO ?rO
    (case aO => k_is); (case xO => k_exc); (case kO => k_is); (case bO => k_is); (case tO => k_is)
    intro eO
    refine' RB.ec_use (n := "TooMany") KX G ?aT ?xT ?kT ?bT ?tT ?rT
    (case aT => k_is); (case xT => k_exc); (case kT => k_is); (case bT => k_is); (case tT => k_is)
    intro eT
    refine' RB.xc_use eD ?hgD ?hkD ?hsD ?hdD ?haD ?hnD ?htD ?hmD ?hrD
    (case hgD => k_is); (case hkD => k_is); (case hsD => k_is); (case hdD => k_is); (case haD => k_is); (case hnD => k_is); (case htD => k_is); (case hmD => k_is)
    intro xD
    refine' RB.xc_use eB ?hgB ?hkB ?hsB ?hdB ?haB ?hnB ?htB ?hmB ?hrB
    (case hgB => k_is); (case hkB => k_is); (case hsB => k_is); (case hdB => k_is); (case haB => k_is); (case hnB => k_is); (case htB => k_is); (case hmB => k_is)
    intro xB
    refine' RB.sub_use eD eB (b := true) ?fs_D_B_t ?gs_D_B_t
    (case fs_D_B_t => first | rfl | k_is)
    intro s_D_B_t
    refine' RB.kit_use eD eR (b := false) ?fk_D_R_f ?gk_D_R_f
    (case fk_D_R_f => first | rfl | k_is)
    intro k_D_R_f
    refine' RB.kit_use eD eN (b := false) ?fk_D_N_f ?gk_D_N_f
    (case fk_D_N_f => first | rfl | k_is)
    intro k_D_N_f
    refine' RB.kit_use eD eO (b := false) ?fk_D_O_f ?gk_D_O_f
    (case fk_D_O_f => first | rfl | k_is)
    intro k_D_O_f
    refine' RB.kit_use eD eT (b := false) ?fk_D_T_f ?gk_D_T_f
    (case fk_D_T_f => first | rfl | k_is)
    intro k_D_T_f
    refine' RB.kitv_use eD ?fv_D ?gv_D
    (case fv_D => first | rfl | k_is)
    intro v_D
    refine' RB.sub_use eD eD (b := true) ?fs_D_D_t ?gs_D_D_t
    (case fs_D_D_t => first | rfl | k_is)
    intro s_D_D_t
    refine' RB.df_use KX G RB.b_shown ?a_shown ?l_shown ?c_shown ?k_shown ?r_shown
    (case a_shown => k_is); (case l_shown => k_is); (case c_shown => k_is); (case k_shown => k_is)
    intro D_shown
    refine' RB.df_use KX G RB.b_number_of ?a_number_of ?l_number_of ?c_number_of ?k_number_of ?r_number_of
    (case a_number_of => k_is); (case l_number_of => k_is); (case c_number_of => k_is); (case k_number_of => k_is)
    intro D_number_of
    refine' RB.df_use KX G RB.b_read ?a_read ?l_read ?c_read ?k_read ?r_read
    (case a_read => k_is); (case l_read => k_is); (case c_read => k_is); (case k_read => k_is)
    intro D_read
    refine' RB.df_use KX G RB.b__law_whole ?a__law_whole ?l__law_whole ?c__law_whole ?k__law_whole ?r__law_whole
    (case a__law_whole => k_is); (case l__law_whole => k_is); (case c__law_whole => k_is); (case k__law_whole => k_is)
    intro D__law_whole
    refine' RB.df_use KX G RB.b__law_cell_at ?a__law_cell_at ?l__law_cell_at ?c__law_cell_at ?k__law_cell_at ?r__law_cell_at
    (case a__law_cell_at => k_is); (case l__law_cell_at => k_is); (case c__law_cell_at => k_is); (case k__law_cell_at => k_is)
    intro D__law_cell_at
    refine' RB.df_use KX G RB.b__law_word_by ?a__law_word_by ?l__law_word_by ?c__law_word_by ?k__law_word_by ?r__law_word_by
    (case a__law_word_by => k_is); (case l__law_word_by => k_is); (case c__law_word_by => k_is); (case k__law_word_by => k_is)
    intro D__law_word_by
    refine' RB.df_use KX G RB.b__law_count ?a__law_count ?l__law_count ?c__law_count ?k__law_count ?r__law_count
    (case a__law_count => k_is); (case l__law_count => k_is); (case c__law_count => k_is); (case k__law_count => k_is)
    intro D__law_count
    refine' RB.df_use KX G RB.b__law_figures_by ?a__law_figures_by ?l__law_figures_by ?c__law_figures_by ?k__law_figures_by ?r__law_figures_by
    (case a__law_figures_by => k_is); (case l__law_figures_by => k_is); (case c__law_figures_by => k_is); (case k__law_figures_by => k_is)
    intro D__law_figures_by
    refine' RB.df_use KX G RB.b__law_signs ?a__law_signs ?l__law_signs ?c__law_signs ?k__law_signs ?r__law_signs
    (case a__law_signs => k_is); (case l__law_signs => k_is); (case c__law_signs => k_is); (case k__law_signs => k_is)
    intro D__law_signs
    refine' RB.df_use KX G RB.b__law_number_of ?a__law_number_of ?l__law_number_of ?c__law_number_of ?k__law_number_of ?r__law_number_of
    (case a__law_number_of => k_is); (case l__law_number_of => k_is); (case c__law_number_of => k_is); (case k__law_number_of => k_is)
    intro D__law_number_of
    refine' RB.df_use KX G RB.b__law_deed_of ?a__law_deed_of ?l__law_deed_of ?c__law_deed_of ?k__law_deed_of ?r__law_deed_of
    (case a__law_deed_of => k_is); (case l__law_deed_of => k_is); (case c__law_deed_of => k_is); (case k__law_deed_of => k_is)
    intro D__law_deed_of
    refine' RB.df_use KX G RB.b__law_refused_by_any ?a__law_refused_by_any ?l__law_refused_by_any ?c__law_refused_by_any ?k__law_refused_by_any ?r__law_refused_by_any
    (case a__law_refused_by_any => k_is); (case l__law_refused_by_any => k_is); (case c__law_refused_by_any => k_is); (case k__law_refused_by_any => k_is)
    intro D__law_refused_by_any
    refine' RB.df_use KX G RB.b_law ?a_law ?l_law ?c_law ?k_law ?r_law
    (case a_law => k_is); (case l_law => k_is); (case c_law => k_is); (case k_law => k_is)
    intro D_law
    exact ⟨D_law, fun base => RB.top B g_FIGURES g_COUNTS eD eB eR eN eO eT xD xB s_D_B_t k_D_R_f k_D_N_f k_D_O_f k_D_T_f v_D s_D_D_t D_shown D_number_of D_read D__law_whole D__law_cell_at D__law_word_by D__law_count D__law_figures_by D__law_signs D__law_number_of D__law_deed_of D__law_refused_by_any D_law⟩
#print axioms PySem.Challenge.cw_rangebook_k09_lines_read_and_written_holds

