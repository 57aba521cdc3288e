import PyProof.Rows.All
import Wide.All
import OpenK.AllK
import Wide.FinOn
import HandS.ForMost
import HandS.Wide
import HandS.IsInst
import HandS.Conv
import HandS.SortInts
import HandS.TupAny
import KE.DatumOrd
import KE.SortCalls
import PySem.Challenge.RW_faultworks_k96_whole_searches
set_option Elab.async false
set_option linter.all false
set_option maxRecDepth 100000

/-! Plain laws: orders, costs, the exchange, the greedy order, ratios. No program here. -/
set_option autoImplicit false
namespace K96

/-! ### all orders -/
def ext (n : Nat) (l : List Nat) : List (List Nat) := ((List.range n).filter fun k => !l.contains k).map fun k => l ++ [k]
def longer (n : Nat) (found : List (List Nat)) : List (List Nat) := (found.map (ext n)).flatten
def ordersN (n : Nat) : Nat → List (List Nat)
  | 0 => [[]]
  | t + 1 => longer n (ordersN n t)
def orders (n : Nat) : List (List Nat) := ordersN n n
/-- an order of so many of n parts -/
structure IsOrd (n t : Nat) (l : List Nat) : Prop where
  len : l.length = t
  nd : l.Nodup
  lt : ∀ x ∈ l, x < n
theorem mem_ext {n : Nat} {l m : List Nat} : m ∈ ext n l ↔ ∃ k, k < n ∧ k ∉ l ∧ m = l ++ [k] := by
  unfold ext
  simp only [List.mem_map, List.mem_filter, List.mem_range, Bool.not_eq_true', List.contains_eq_mem, decide_eq_false_iff_not]
  constructor
  · rintro ⟨k, ⟨h1, h2⟩, rfl⟩
    exact ⟨k, h1, h2, rfl⟩
  · rintro ⟨k, h1, h2, rfl⟩
    exact ⟨k, ⟨h1, h2⟩, rfl⟩
theorem mem_ordersN {n : Nat} : ∀ {t : Nat} {l : List Nat}, l ∈ ordersN n t ↔ IsOrd n t l
  | 0, l => by
    constructor
    · intro h
      have e : l = [] := List.mem_singleton.mp h
      subst e
      exact ⟨rfl, List.nodup_nil, fun x h => absurd h List.not_mem_nil⟩
    · intro h
      have e : l = [] := List.length_eq_zero_iff.mp h.len
      subst e
      exact List.mem_singleton.mpr rfl
  | t + 1, l => by
    show l ∈ longer n (ordersN n t) ↔ _
    unfold longer
    simp only [List.mem_flatten, List.mem_map]
    constructor
    · rintro ⟨_, ⟨m, hm, rfl⟩, hl⟩
      obtain ⟨k, hk, hn, rfl⟩ := mem_ext.mp hl
      have o := mem_ordersN.mp hm
      refine ⟨by simp [o.len], ?_, fun x hx => ?_⟩
      · rw [List.nodup_append]
        refine ⟨o.nd, by simp, fun a ha b hb e => ?_⟩
        have : b = k := by simpa using hb
        subst this
        subst e
        exact hn ha
      · rcases List.mem_append.mp hx with h | h
        · exact o.lt x h
        · have : x = k := by simpa using h
          omega
    · intro o
      have hne : l ≠ [] := fun e => by
        have := o.len
        rw [e] at this
        simp at this
      have e : l = l.dropLast ++ [l.getLast hne] := (List.dropLast_concat_getLast hne).symm
      have nd := o.nd
      rw [e, List.nodup_append] at nd
      refine ⟨_, ⟨l.dropLast, mem_ordersN.mpr ⟨by rw [List.length_dropLast, o.len]; rfl, nd.1, fun x hx => o.lt x (List.dropLast_subset l hx)⟩, rfl⟩, mem_ext.mpr ⟨l.getLast hne, o.lt _ (List.getLast_mem hne), fun h => ?_, e⟩⟩
      exact nd.2.2 _ h _ (List.mem_singleton.mpr rfl) rfl
theorem mem_orders {n : Nat} {l : List Nat} : l ∈ orders n ↔ IsOrd n n l := mem_ordersN
theorem ext_len (n : Nat) (l : List Nat) : (ext n l).length ≤ n := by
  unfold ext
  rw [List.length_map]
  refine Nat.le_trans (List.length_filter_le _ _) ?_
  rw [List.length_range]
  exact Nat.le_refl n
theorem longer_len (n : Nat) : ∀ found : List (List Nat), (longer n found).length ≤ found.length * n
  | [] => by simp [longer]
  | l :: r => by
    have ih := longer_len n r
    have h := ext_len n l
    have e : (longer n (l :: r)).length = (ext n l).length + (longer n r).length := by
      simp [longer]
    rw [e, List.length_cons, Nat.add_mul]
    omega
theorem ordersN_len (n : Nat) : ∀ t, (ordersN n t).length ≤ n ^ t
  | 0 => Nat.le_refl 1
  | t + 1 => by
    have ih := ordersN_len n t
    have h := longer_len n (ordersN n t)
    show (longer n (ordersN n t)).length ≤ n ^ t * n
    exact Nat.le_trans h (Nat.mul_le_mul_right n ih)
theorem longer_append (n : Nat) (a b : List (List Nat)) : longer n (a ++ b) = longer n a ++ longer n b := by
  simp [longer]
theorem longer_one (n : Nat) (l : List Nat) : longer n [l] = ext n l := by
  simp [longer]

/-! ### costs -/
section
variable (p c : Nat → Rat)
def sumC : List Nat → Rat
  | [] => 0
  | k :: r => c k + sumC r
def costF : Rat → List Nat → Rat
  | _, [] => 0
  | s, k :: r => p k * (s + c k) + costF (s + c k) r
end
section
variable {p c : Nat → Rat}
theorem sumC_append : ∀ (x y : List Nat), sumC c (x ++ y) = sumC c x + sumC c y
  | [], y => by
    show sumC c y = 0 + sumC c y
    grind
  | a :: x, y => by
    have ih := sumC_append x y
    show c a + sumC c (x ++ y) = c a + sumC c x + sumC c y
    grind
theorem sumC_snoc (x : List Nat) (k : Nat) : sumC c (x ++ [k]) = sumC c x + c k := by
  rw [sumC_append]
  show sumC c x + (c k + 0) = _
  grind
theorem costF_append : ∀ (x y : List Nat) (s : Rat), costF p c s (x ++ y) = costF p c s x + costF p c (s + sumC c x) y
  | [], y, s => by
    show costF p c s y = 0 + costF p c (s + 0) y
    rw [Rat.add_zero, Rat.zero_add]
  | a :: x, y, s => by
    have ih := costF_append x y (s + c a)
    have e : s + c a + sumC c x = s + (c a + sumC c x) := Rat.add_assoc _ _ _
    show p a * (s + c a) + costF p c (s + c a) (x ++ y) = p a * (s + c a) + costF p c (s + c a) x + costF p c (s + (c a + sumC c x)) y
    rw [ih, e]
    grind
theorem costF_snoc (x : List Nat) (k : Nat) (s : Rat) : costF p c s (x ++ [k]) = costF p c s x + p k * (s + sumC c x + c k) := by
  rw [costF_append]
  show costF p c s x + (p k * (s + sumC c x + c k) + 0) = _
  grind
theorem costF_shift : ∀ (l : List Nat) (s : Rat), costF p c s l = s * sumC p l + costF p c 0 l
  | [], s => by
    show (0 : Rat) = s * 0 + 0
    grind
  | a :: l, s => by
    have i1 := costF_shift l (s + c a)
    have i2 := costF_shift l (0 + c a)
    show p a * (s + c a) + costF p c (s + c a) l = s * (p a + sumC p l) + (p a * (0 + c a) + costF p c (0 + c a) l)
    grind
theorem cost_cons (a : Nat) (l : List Nat) : costF p c 0 (a :: l) = p a * c a + c a * sumC p l + costF p c 0 l := by
  have i2 := costF_shift (p := p) (c := c) l (0 + c a)
  show p a * (0 + c a) + costF p c (0 + c a) l = _
  grind
theorem sumC_perm {f : Nat → Rat} : ∀ {l m : List Nat}, l.Perm m → sumC f l = sumC f m := by
  intro l m h
  induction h with
  | nil => rfl
  | cons z _ ih =>
    show f z + _ = f z + _
    rw [ih]
  | swap z w l =>
    show f w + (f z + _) = f z + (f w + _)
    grind
  | trans _ _ i1 i2 => exact i1.trans i2
/-- a part that no part ahead of it beats may come first -/
theorem cost_front : ∀ (x : List Nat) (a : Nat) (y : List Nat), (∀ b ∈ x, p b * c a ≤ p a * c b) → costF p c 0 (a :: (x ++ y)) ≤ costF p c 0 (x ++ a :: y)
  | [], a, y, _ => Rat.le_refl
  | b :: x, a, y, h => by
    have ih := cost_front x a y fun d hd => h d (List.mem_cons_of_mem _ hd)
    have hb := h b List.mem_cons_self
    have e1 : costF p c 0 (a :: (b :: x ++ y)) = p a * c a + c a * sumC p (b :: (x ++ y)) + costF p c 0 (b :: (x ++ y)) := cost_cons a _
    have e2 := cost_cons (p := p) (c := c) b (x ++ y)
    have e3 : costF p c 0 (b :: x ++ a :: y) = p b * c b + c b * sumC p (x ++ a :: y) + costF p c 0 (x ++ a :: y) := cost_cons b _
    have e4 := cost_cons (p := p) (c := c) a (x ++ y)
    have s1 : sumC p (b :: (x ++ y)) = p b + sumC p (x ++ y) := rfl
    have s2 := sumC_append (c := p) x y
    have s3 := sumC_append (c := p) x (a :: y)
    have s4 : sumC p (a :: y) = p a + sumC p y := rfl
    rw [s1, s2, e2, s2] at e1
    rw [s3, s4] at e3
    rw [s2] at e4
    rw [e4] at ih
    rw [e1, e3]
    clear e1 e2 e3 e4 s1 s2 s3 s4 h
    generalize costF p c 0 (x ++ a :: y) = u at *
    generalize costF p c 0 (x ++ y) = v at *
    generalize sumC p x = f at *
    generalize sumC p y = g at *
    grind
/-- a neighbour that beats the one ahead of it should come first -/
theorem cost_swap (x : List Nat) (a b : Nat) (y : List Nat) (h : p a * c b < p b * c a) : costF p c 0 (x ++ b :: a :: y) < costF p c 0 (x ++ a :: b :: y) := by
  rw [costF_append, costF_append]
  generalize (0 : Rat) + sumC c x = t
  have e : t + c b + c a = t + c a + c b := by grind
  have e1 : costF p c t (b :: a :: y) = p b * (t + c b) + (p a * (t + c b + c a) + costF p c (t + c b + c a) y) := rfl
  have e2 : costF p c t (a :: b :: y) = p a * (t + c a) + (p b * (t + c a + c b) + costF p c (t + c a + c b) y) := rfl
  rw [e1, e2, e]
  grind
/-- an order in which no part is beaten by a later one is best of all its arrangements -/
theorem cost_least : ∀ (l m : List Nat), l.Pairwise (fun a b => p b * c a ≤ p a * c b) → l.Perm m → costF p c 0 l ≤ costF p c 0 m
  | [], m, _, hm => by
    have e : m = [] := hm.symm.eq_nil
    rw [e]
    exact Rat.le_refl
  | a :: r, m, hp, hm => by
    have ha : a ∈ m := hm.subset List.mem_cons_self
    obtain ⟨x, y, rfl⟩ := List.append_of_mem ha
    have hr : r.Perm (x ++ y) := (hm.trans List.perm_middle).cons_inv
    obtain ⟨h1, h2⟩ := List.pairwise_cons.mp hp
    have ih := cost_least r (x ++ y) h2 hr
    have hf := cost_front (p := p) (c := c) x a y fun b hb => h1 b (hr.symm.subset (List.mem_append_left _ hb))
    have e1 := cost_cons (p := p) (c := c) a r
    have e2 := cost_cons (p := p) (c := c) a (x ++ y)
    have es : sumC p r = sumC p (x ++ y) := sumC_perm hr
    rw [e2] at hf
    rw [e1, es]
    grind
end

/-! ### falling shares -/
def Falls (s : Nat → Rat) : List Nat → Prop
  | a :: b :: r => ¬ s a < s b ∧ Falls s (b :: r)
  | _ => True
theorem falls_pair {s : Nat → Rat} : ∀ {l : List Nat}, Falls s l → l.Pairwise (fun a b => s b ≤ s a)
  | [], _ => .nil
  | [a], _ => by simp
  | a :: b :: r, h => by
    have ih := falls_pair (l := b :: r) h.2
    have hab : s b ≤ s a := Rat.not_lt.mp h.1
    refine List.pairwise_cons.mpr ⟨fun d hd => ?_, ih⟩
    rcases List.mem_cons.mp hd with e | e
    · rw [e]
      exact hab
    · exact Rat.le_trans ((List.pairwise_cons.mp ih).1 d e) hab
theorem pair_falls {s : Nat → Rat} : ∀ {l : List Nat}, l.Pairwise (fun a b => s b ≤ s a) → Falls s l
  | [], _ => trivial
  | [a], _ => trivial
  | a :: b :: r, h => by
    obtain ⟨h1, h2⟩ := List.pairwise_cons.mp h
    exact ⟨Rat.not_lt.mpr (h1 b List.mem_cons_self), pair_falls h2⟩
theorem not_falls {s : Nat → Rat} : ∀ {l : List Nat}, ¬ Falls s l → ∃ x a b y, l = x ++ a :: b :: y ∧ s a < s b
  | [], h => absurd trivial h
  | [a], h => absurd trivial h
  | a :: b :: r, h => by
    by_cases hab : s a < s b
    · exact ⟨[], a, b, r, rfl, hab⟩
    · have h2 : ¬ Falls s (b :: r) := fun z => h ⟨hab, z⟩
      obtain ⟨x, a', b', y, e, hl⟩ := not_falls h2
      exact ⟨a :: x, a', b', y, by rw [e]; rfl, hl⟩
theorem falls_iff {s : Nat → Rat} : ∀ {l : List Nat}, Falls s l ↔ ∀ i a b, l[i]? = some a → l[i + 1]? = some b → ¬ s a < s b
  | [] => by simp [Falls]
  | [a] => by simp [Falls]
  | a :: b :: r => by
    have ih := falls_iff (s := s) (l := b :: r)
    constructor
    · rintro ⟨h1, h2⟩ i x y hx hy
      cases i with
      | zero =>
        cases hx
        cases hy
        exact h1
      | succ i => exact ih.mp h2 i x y hx hy
    · intro h
      exact ⟨h 0 a b rfl rfl, ih.mpr fun i x y hx hy => h (i + 1) x y hx hy⟩

/-! ### best exactly if the shares never grow -/
section
variable {p c s : Nat → Rat}
theorem perm_of_sub : ∀ {l m : List Nat}, l.Nodup → (∀ x ∈ l, x ∈ m) → m.length ≤ l.length → l.Perm m
  | [], m, _, _, h => by
    have e : m = [] := List.length_eq_zero_iff.mp (Nat.le_zero.mp h)
    rw [e]
  | a :: r, m, nd, hs, h => by
    obtain ⟨x, y, rfl⟩ := List.append_of_mem (hs a List.mem_cons_self)
    obtain ⟨h1, h2⟩ := List.nodup_cons.mp nd
    refine (List.Perm.cons a (perm_of_sub h2 (fun z hz => ?_) ?_)).trans List.perm_middle.symm
    · have hm := hs z (List.mem_cons_of_mem _ hz)
      rcases List.mem_append.mp hm with q | q
      · exact List.mem_append_left _ q
      · rcases List.mem_cons.mp q with q | q
        · exact absurd (q ▸ hz) h1
        · exact List.mem_append_right _ q
    · simp only [List.length_append, List.length_cons] at h ⊢
      omega
theorem ord_perm {n : Nat} {l m : List Nat} (hl : IsOrd n n l) (hm : IsOrd n n m) : l.Perm m := by
  have h : ∀ {l : List Nat}, IsOrd n n l → l.Perm (List.range n) := fun {l} hl => by
    exact perm_of_sub hl.nd (fun x hx => List.mem_range.mpr (hl.lt x hx)) (by rw [List.length_range, hl.len]; exact Nat.le_refl n)
  exact (h hl).trans (h hm).symm
theorem perm_ord {n : Nat} {l m : List Nat} (hl : IsOrd n n l) (h : l.Perm m) : IsOrd n n m := ⟨h.length_eq.symm.trans hl.len, h.nodup_iff.mp hl.nd, fun x hx => hl.lt x (h.symm.subset hx)⟩
/-- how shares, chances and costs hang together on the parts below n -/
def Hang (n : Nat) (p c s : Nat → Rat) : Prop := ∀ a b, a < n → b < n → (s a < s b ↔ p a * c b < p b * c a)
theorem best_iff {n : Nat} (hh : Hang n p c s) {best : Rat} (hb : ∃ l, IsOrd n n l ∧ costF p c 0 l = best) (hl : ∀ l, IsOrd n n l → best ≤ costF p c 0 l) {l : List Nat} (o : IsOrd n n l) : Falls s l ↔ costF p c 0 l = best := by
  constructor
  · intro h
    obtain ⟨m, om, em⟩ := hb
    have hp : l.Pairwise (fun a b => p b * c a ≤ p a * c b) := by
      refine (falls_pair h).imp_of_mem fun {a b} ha hb hab => ?_
      have := (not_congr (hh a b (o.lt a ha) (o.lt b hb))).mp (Rat.not_lt.mpr hab)
      exact Rat.not_lt.mp this
    have := cost_least (p := p) (c := c) l m hp (ord_perm o om)
    rw [em] at this
    exact Rat.le_antisymm this (hl l o)
  · intro h
    by_cases hf : Falls s l
    · exact hf
    · obtain ⟨x, a, b, y, rfl, hab⟩ := not_falls hf
      have ha : a < n := o.lt a (by simp)
      have hb' : b < n := o.lt b (by simp)
      have hs := cost_swap (p := p) (c := c) x a b y ((hh a b ha hb').mp hab)
      have o2 : IsOrd n n (x ++ b :: a :: y) := perm_ord o (List.Perm.append_left x (List.Perm.swap b a y))
      have := hl _ o2
      rw [← h] at this
      exact absurd hs (Rat.not_lt.mpr this)
end

/-! ### the first of the least -/
def lower (m x : Rat) : Rat := if x < m then x else m
theorem lower_least : ∀ (l : List Rat) (m : Rat), (l.foldl lower m = m ∨ l.foldl lower m ∈ l) ∧ l.foldl lower m ≤ m ∧ ∀ x ∈ l, l.foldl lower m ≤ x
  | [], m => ⟨.inl rfl, Rat.le_refl, fun x h => absurd h List.not_mem_nil⟩
  | a :: r, m => by
    obtain ⟨h1, h2, h3⟩ := lower_least r (lower m a)
    have k1 : lower m a ≤ m := by
      unfold lower
      split
      · rename_i h
        exact Rat.le_of_lt h
      · exact Rat.le_refl
    have k2 : lower m a ≤ a := by
      unfold lower
      split
      · exact Rat.le_refl
      · rename_i h
        exact Rat.not_lt.mp h
    refine ⟨?_, Rat.le_trans h2 k1, fun x hx => ?_⟩
    · show r.foldl lower (lower m a) = m ∨ r.foldl lower (lower m a) ∈ a :: r
      rcases h1 with h | h
      · rw [h]
        unfold lower
        split
        · exact .inr List.mem_cons_self
        · exact .inl rfl
      · exact .inr (List.mem_cons_of_mem _ h)
    · rcases List.mem_cons.mp hx with e | e
      · rw [e]
        exact Rat.le_trans h2 k2
      · exact h3 x e

/-! ### the greedy order -/
section
variable (s : Nat → Rat)
def pick (b : Nat) : List Nat → Nat
  | [] => b
  | k :: r => pick (if s b < s k then k else b) r
def greedy : Nat → List Nat → List Nat
  | 0, _ => []
  | _ + 1, [] => []
  | t + 1, a :: r => pick s a (a :: r) :: greedy t ((a :: r).filter fun k => k != pick s a (a :: r))
end
section
variable {s : Nat → Rat}
theorem pick_mem : ∀ (l : List Nat) (b : Nat), pick s b l = b ∨ pick s b l ∈ l
  | [], b => .inl rfl
  | k :: r, b => by
    have ih := pick_mem r (if s b < s k then k else b)
    show pick s (if s b < s k then k else b) r = b ∨ pick s (if s b < s k then k else b) r ∈ k :: r
    split at ih <;> rename_i h
    · rw [if_pos h]
      rcases ih with e | e
      · rw [e]
        exact .inr List.mem_cons_self
      · exact .inr (List.mem_cons_of_mem _ e)
    · rw [if_neg h]
      rcases ih with e | e
      · exact .inl e
      · exact .inr (List.mem_cons_of_mem _ e)
theorem pick_most : ∀ (l : List Nat) (b : Nat), s b ≤ s (pick s b l) ∧ ∀ x ∈ l, s x ≤ s (pick s b l)
  | [], b => ⟨Rat.le_refl, fun x h => absurd h List.not_mem_nil⟩
  | k :: r, b => by
    obtain ⟨i1, i2⟩ := pick_most r (if s b < s k then k else b)
    show s b ≤ s (pick s (if s b < s k then k else b) r) ∧ ∀ x ∈ k :: r, s x ≤ s (pick s (if s b < s k then k else b) r)
    have kb : s b ≤ s (if s b < s k then k else b) := by
      split
      · rename_i h
        exact Rat.le_of_lt h
      · exact Rat.le_refl
    have kk : s k ≤ s (if s b < s k then k else b) := by
      split
      · exact Rat.le_refl
      · rename_i h
        exact Rat.not_lt.mp h
    refine ⟨Rat.le_trans kb i1, fun x hx => ?_⟩
    rcases List.mem_cons.mp hx with e | e
    · rw [e]
      exact Rat.le_trans kk i1
    · exact i2 x e
/-- of equal ones the first: those below it in an ascending list are less -/
theorem pick_first : ∀ (l : List Nat) (b : Nat), (b :: l).Pairwise (· < ·) → ∀ x, (x = b ∨ x ∈ l) → x < pick s b l → s x < s (pick s b l)
  | [], b, _, x, hx, h => by
    rcases hx with e | e
    · rw [e] at h
      exact absurd h (Nat.lt_irrefl _)
    · exact absurd e List.not_mem_nil
  | k :: r, b, hp, x, hx, h => by
    obtain ⟨p1, p2⟩ := List.pairwise_cons.mp hp
    obtain ⟨p3, p4⟩ := List.pairwise_cons.mp p2
    change x < pick s (if s b < s k then k else b) r at h
    show s x < s (pick s (if s b < s k then k else b) r)
    by_cases hk : s b < s k
    · rw [if_pos hk] at h ⊢
      have ih := pick_first r k p2
      rcases hx with e | e
      · rw [e]
        have := (pick_most (s := s) r k).1
        grind
      · rcases List.mem_cons.mp e with e | e
        · exact ih x (.inl e) h
        · exact ih x (.inr e) h
    · rw [if_neg hk] at h ⊢
      have ih := pick_first r b (List.pairwise_cons.mpr ⟨fun z hz => p1 z (List.mem_cons_of_mem _ hz), p4⟩)
      rcases hx with e | e
      · exact ih x (.inl e) h
      · rcases List.mem_cons.mp e with e | e
        · -- k, not greater than b: the pick lies behind k, so it is not b, so it is greater than all up to it
          rcases pick_mem (s := s) r b with q | q
          · rw [q] at h
            have := p1 k List.mem_cons_self
            omega
          · have hb := ih b (.inl rfl) (p1 _ (List.mem_cons_of_mem _ q))
            rw [e]
            grind
        · exact ih x (.inr e) h
theorem pick_self {a : Nat} {r : List Nat} : pick s a (a :: r) = pick s a r := by
  show pick s (if s a < s a then a else a) r = pick s a r
  rw [ite_self]
/-- one after another in order of place -/
def LexLt : List Nat → List Nat → Prop
  | a :: x, b :: y => a < b ∨ (a = b ∧ LexLt x y)
  | _, _ => False
theorem filter_perm {b : Nat} : ∀ {l : List Nat}, l.Nodup → b ∈ l → (b :: l.filter fun k => k != b).Perm l
  | [], _, h => absurd h List.not_mem_nil
  | a :: r, nd, h => by
    obtain ⟨h1, h2⟩ := List.nodup_cons.mp nd
    by_cases e : a = b
    · subst e
      have : (a :: r).filter (fun k => k != a) = r := by
        rw [List.filter_cons_of_neg (by simp), List.filter_eq_self]
        intro z hz
        have : z ≠ a := fun q => h1 (q ▸ hz)
        simp [this]
      rw [this]
    · have hb : b ∈ r := by
        rcases List.mem_cons.mp h with q | q
        · exact absurd q.symm e
        · exact q
      have ih := filter_perm h2 hb
      rw [List.filter_cons_of_pos (by simp [e])]
      exact (List.Perm.swap a b _).trans (List.Perm.cons a ih)
theorem greedy_all : ∀ (t : Nat) (l : List Nat), l.length = t → l.Pairwise (· < ·) →
    (greedy s t l).Perm l ∧ Falls s (greedy s t l) ∧ ∀ m, m.Perm l → Falls s m → m = greedy s t l ∨ LexLt (greedy s t l) m
  | 0, l, hl, _ => by
    have e : l = [] := List.length_eq_zero_iff.mp hl
    subst e
    exact ⟨.nil, trivial, fun m hm _ => .inl hm.eq_nil⟩
  | t + 1, [], hl, _ => by simp at hl
  | t + 1, a :: r, hl, hp => by
    have nd : (a :: r).Nodup := hp.imp fun h => Nat.ne_of_lt h
    have hb : pick s a (a :: r) ∈ a :: r := by
      rcases pick_mem (s := s) (a :: r) a with e | e
      · rw [e]
        exact List.mem_cons_self
      · exact e
    have hm := (pick_most (s := s) (a :: r) a).2
    have hf : ∀ x ∈ a :: r, x < pick s a (a :: r) → s x < s (pick s a (a :: r)) := by
      rw [pick_self]
      exact fun x hx => pick_first r a hp x (List.mem_cons.mp hx)
    show (pick s a (a :: r) :: greedy s t ((a :: r).filter fun k => k != pick s a (a :: r))).Perm (a :: r) ∧ Falls s (pick s a (a :: r) :: greedy s t ((a :: r).filter fun k => k != pick s a (a :: r))) ∧ ∀ m, m.Perm (a :: r) → Falls s m → m = (pick s a (a :: r) :: greedy s t ((a :: r).filter fun k => k != pick s a (a :: r))) ∨ LexLt (pick s a (a :: r) :: greedy s t ((a :: r).filter fun k => k != pick s a (a :: r))) m
    generalize pick s a (a :: r) = b at *
    have fp := filter_perm nd hb
    have ihl : ((a :: r).filter fun k => k != b).length = t := by
      have := fp.length_eq
      simp only [List.length_cons] at this hl
      omega
    obtain ⟨i1, i2, i3⟩ := greedy_all t _ ihl (hp.filter _)
    have gp : (b :: greedy s t ((a :: r).filter fun k => k != b)).Perm (a :: r) := (List.Perm.cons b i1).trans fp
    refine ⟨gp, pair_falls (List.pairwise_cons.mpr ⟨fun x hx => hm x (gp.subset (List.mem_cons_of_mem _ hx)), falls_pair i2⟩), fun m mp mf => ?_⟩
    cases m with
    | nil => exact absurd mp.length_eq (by simp)
    | cons d m =>
      have hd : d ∈ a :: r := mp.subset List.mem_cons_self
      have hbd : s b ≤ s d := by
        rcases List.mem_cons.mp (mp.symm.subset hb) with e | e
        · rw [e]
          exact Rat.le_refl
        · exact (List.pairwise_cons.mp (falls_pair mf)).1 b e
      by_cases e : d = b
      · subst e
        have mp2 : m.Perm ((a :: r).filter fun k => k != d) := (mp.trans fp.symm).cons_inv
        rcases i3 m mp2 (pair_falls (List.pairwise_cons.mp (falls_pair mf)).2) with q | q
        · exact .inl (by rw [← q])
        · exact .inr (.inr ⟨rfl, q⟩)
      · refine .inr (.inl ?_)
        rcases Nat.lt_or_gt_of_ne e with q | q
        · exact absurd (hf d hd q) (Rat.not_lt.mpr hbd)
        · exact q
end

/-! ### ratios and their sizes -/
theorem red_num (n : Int) (d : Nat) (hd : d ≠ 0) : (mkRat n d).num = n / (Nat.gcd n.natAbs d : Nat) := by
  rw [Rat.num_mkRat, if_neg hd, Nat.gcd_comm]
theorem red_den (n : Int) (d : Nat) (hd : d ≠ 0) : ((mkRat n d).den : Int) = (d : Int) / (Nat.gcd n.natAbs d : Nat) := by
  rw [Rat.den_mkRat, if_neg hd, Nat.gcd_comm, Int.natCast_ediv]
theorem red_num_le (n : Int) (d : Nat) : (mkRat n d).num.natAbs ≤ n.natAbs := by
  rw [Rat.num_mkRat]
  split
  · simp
  · rw [Int.natAbs_ediv_of_dvd]
    · exact Nat.div_le_self _ _
    · have : d.gcd n.natAbs ∣ n.natAbs := Nat.gcd_dvd_right _ _
      exact Int.ofNat_dvd_left.mpr this
theorem red_den_le (n : Int) (d : Nat) (hd : d ≠ 0) : (mkRat n d).den ≤ d := by
  rw [Rat.den_mkRat, if_neg hd]
  exact Nat.div_le_self _ _
/-- numerator and denominator below 2 ^ n -/
def Sm (n : Nat) (q : Rat) : Prop := q.num.natAbs < 2 ^ n ∧ q.den < 2 ^ n
theorem Sm.up {n m : Nat} {q : Rat} (h : Sm n q) (e : n ≤ m) : Sm m q :=
  ⟨Nat.lt_of_lt_of_le h.1 (Nat.pow_le_pow_right (by decide) e), Nat.lt_of_lt_of_le h.2 (Nat.pow_le_pow_right (by decide) e)⟩
theorem Sm.add {n m : Nat} {p q : Rat} (hp : Sm n p) (hq : Sm m q) : Sm (n + m + 1) (p + q) := by
  rw [Rat.add_def']
  have a1 : p.num.natAbs * q.den < 2 ^ (n + m) := by
    rw [Nat.pow_add]
    exact Nat.mul_lt_mul'' hp.1 hq.2
  have a2 : q.num.natAbs * p.den < 2 ^ (n + m) := by
    rw [Nat.pow_add, Nat.mul_comm (2 ^ n)]
    exact Nat.mul_lt_mul'' hq.1 hp.2
  have a3 : p.den * q.den < 2 ^ (n + m) := by
    rw [Nat.pow_add]
    exact Nat.mul_lt_mul'' hp.2 hq.2
  have e : 2 ^ (n + m + 1) = 2 ^ (n + m) + 2 ^ (n + m) := by
    rw [Nat.pow_succ]
    omega
  constructor
  · refine Nat.lt_of_le_of_lt (red_num_le _ _) ?_
    have b1 : (p.num * q.den).natAbs = p.num.natAbs * q.den := Int.natAbs_mul _ _
    have b2 : (q.num * p.den).natAbs = q.num.natAbs * p.den := Int.natAbs_mul _ _
    omega
  · refine Nat.lt_of_le_of_lt (red_den_le _ _ (Nat.mul_ne_zero p.den_nz q.den_nz)) ?_
    omega
theorem Sm.mul {n m : Nat} {p q : Rat} (hp : Sm n p) (hq : Sm m q) : Sm (n + m) (p * q) := by
  rw [Rat.mul_def']
  constructor
  · refine Nat.lt_of_le_of_lt (red_num_le _ _) ?_
    rw [Int.natAbs_mul, Nat.pow_add]
    exact Nat.mul_lt_mul'' hp.1 hq.1
  · refine Nat.lt_of_le_of_lt (red_den_le _ _ (Nat.mul_ne_zero p.den_nz q.den_nz)) ?_
    rw [Nat.pow_add]
    exact Nat.mul_lt_mul'' hp.2 hq.2
theorem num_pos {q : Rat} (h : 0 < q) : 0 < q.num := by
  have := (Rat.lt_iff 0 q).mp h
  simpa using this
theorem pos_num {q : Rat} (h : 0 < q.num) : 0 < q := (Rat.lt_iff 0 q).mpr (by simpa using h)
theorem div_mk {p q : Rat} (h : 0 < q) : p / q = mkRat (p.num * q.den) (p.den * q.num.toNat) := by
  have hn := num_pos h
  have e : ((q.num.toNat : Nat) : Int) = q.num := Int.toNat_of_nonneg (Int.le_of_lt hn)
  have hz : q.num.toNat ≠ 0 := by omega
  have h1 : q⁻¹ = mkRat q.den q.num.toNat := by
    rw [Rat.inv_def, ← Rat.divInt_ofNat, e]
  rw [Rat.div_def, h1]
  have h2 := mkRat_self' p
  rw [← h2, Rat.mkRat_mul_mkRat]
  rw [h2]
where
  mkRat_self' (p : Rat) : mkRat p.num p.den = p := Rat.mkRat_self p
theorem Sm.div {n m : Nat} {p q : Rat} (hp : Sm n p) (hq : Sm m q) (h : 0 < q) : Sm (n + m) (p / q) := by
  have hn := num_pos h
  rw [div_mk h]
  constructor
  · refine Nat.lt_of_le_of_lt (red_num_le _ _) ?_
    rw [Int.natAbs_mul, Nat.pow_add]
    exact Nat.mul_lt_mul'' hp.1 hq.2
  · have hz : q.num.toNat ≠ 0 := by omega
    refine Nat.lt_of_le_of_lt (red_den_le _ _ (Nat.mul_ne_zero p.den_nz hz)) ?_
    have : q.num.toNat < 2 ^ m := by
      have := hq.1
      omega
    rw [Nat.pow_add]
    exact Nat.mul_lt_mul'' hp.2 this
theorem hang_of {n : Nat} {p c : Nat → Rat} (hc : ∀ k, k < n → 0 < c k) : Hang n p c (fun k => p k / c k) := by
  intro a b ha hb
  have h1 := hc a ha
  have h2 := hc b hb
  show p a / c a < p b / c b ↔ _
  rw [Rat.div_lt_iff h1]
  have e : p b / c b * c a = (p b * c a) / c b := by
    rw [Rat.div_def, Rat.div_def]
    grind
  rw [e, Rat.lt_div_iff h2]
theorem mkRat_pos {n : Int} {d : Nat} (hn : 0 < n) (hd : d ≠ 0) : 0 < mkRat n d := by
  apply pos_num
  rw [red_num n d hd]
  have hg : 0 < Nat.gcd n.natAbs d := Nat.gcd_pos_of_pos_right _ (by omega)
  have hdv : ((Nat.gcd n.natAbs d : Nat) : Int) ∣ n := Int.ofNat_dvd_left.mpr (Nat.gcd_dvd_left _ _)
  exact Int.ediv_pos_of_pos_of_dvd hn (by omega) hdv
theorem mkRat_sum (S : Nat) (hS : S ≠ 0) : ∀ (l : List Nat) (u : Rat), (l.map fun (x : Nat) => mkRat (x : Int) S).foldl (· + ·) u = u + mkRat ((l.sum : Nat) : Int) S
  | [], u => by
    show u = u + mkRat 0 S
    rw [Rat.zero_mkRat, Rat.add_zero]
  | a :: r, u => by
    have ih := mkRat_sum S hS r (u + mkRat (a : Int) S)
    show (r.map fun (x : Nat) => mkRat (x : Int) S).foldl (· + ·) (u + mkRat (a : Int) S) = _
    rw [ih, Rat.mkRat_eq_div, Rat.mkRat_eq_div, Rat.mkRat_eq_div, List.sum_cons]
    have e : (((a + r.sum : Nat) : Int) : Rat) = ((a : Int) : Rat) + ((r.sum : Nat) : Int) := by
      rw [Int.natCast_add, Rat.intCast_add]
    rw [e]
    rw [Rat.div_def, Rat.div_def, Rat.div_def]
    grind
theorem mkRat_one (S : Nat) (hS : S ≠ 0) : mkRat (S : Int) S = 1 := by
  rw [Rat.mkRat_eq_div]
  have hz : (S : Rat) ≠ 0 := fun h => hS (Rat.natCast_eq_zero_iff.mp h)
  rw [Rat.div_def]
  exact Rat.mul_inv_cancel _ hz
theorem mk_coprime (q : Rat) : Nat.gcd q.num.natAbs q.den = 1 := q.reduced
theorem rat_eq_iff {p q : Rat} : p = q ↔ p.num = q.num ∧ (p.den : Int) = q.den :=
  ⟨fun e => ⟨by rw [e], by rw [e]⟩, fun ⟨a, b⟩ => Rat.ext a (by omega)⟩
end K96

/-! the small defs: gcd, ratios -/
namespace K96
open PySem PySem.Spec PyProof.Rows L2
def topS (i : Nat) : Stmt := PySem.Challenge.pw_faultworks_k96_whole_searches.main.body.getD i (.Pass ⟨0, 0, 0, 0⟩)
abbrev s_is_in : Stmt := topS 6
theorem sc_is_in : FnScope ["value", "least", "most"] ["value", "least", "most"] (defScope s_is_in) := ⟨rfl, rfl, rfl, by decide +kernel, rfl, by decide +kernel, by decide +kernel⟩
abbrev s_gcd : Stmt := topS 7
theorem sc_gcd : FnScope ["one", "other"] ["one", "other"] (defScope s_gcd) := ⟨rfl, rfl, rfl, by decide +kernel, rfl, by decide +kernel, by decide +kernel⟩
abbrev s_reduced : Stmt := topS 8
theorem sc_reduced : FnScope ["numerator", "denominator", "common"] ["numerator", "denominator"] (defScope s_reduced) := ⟨rfl, rfl, rfl, by decide +kernel, rfl, by decide +kernel, by decide +kernel⟩
abbrev s_plus : Stmt := topS 9
theorem sc_plus : FnScope ["one", "other"] ["one", "other"] (defScope s_plus) := ⟨rfl, rfl, rfl, by decide +kernel, rfl, by decide +kernel, by decide +kernel⟩
abbrev s_times : Stmt := topS 10
theorem sc_times : FnScope ["one", "other"] ["one", "other"] (defScope s_times) := ⟨rfl, rfl, rfl, by decide +kernel, rfl, by decide +kernel, by decide +kernel⟩
abbrev s_is_below : Stmt := topS 11
theorem sc_is_below : FnScope ["one", "other"] ["one", "other"] (defScope s_is_below) := ⟨rfl, rfl, rfl, by decide +kernel, rfl, by decide +kernel, by decide +kernel⟩
abbrev s_is_ratio : Stmt := topS 12
theorem sc_is_ratio : FnScope ["value", "item"] ["value"] (defScope s_is_ratio) := ⟨rfl, rfl, rfl, by decide +kernel, rfl, by decide +kernel, by decide +kernel⟩
abbrev s_total_of : Stmt := topS 16
theorem sc_total_of : FnScope ["values", "found", "value"] ["values"] (defScope s_total_of) := ⟨rfl, rfl, rfl, by decide +kernel, rfl, by decide +kernel, by decide +kernel⟩
abbrev s_need_order : Stmt := topS 18
theorem sc_need_order : FnScope ["many", "order", "k"] ["many", "order"] (defScope s_need_order) := ⟨rfl, rfl, rfl, by decide +kernel, rfl, by decide +kernel, by decide +kernel⟩
abbrev s_are_positive : Stmt := topS 21
theorem sc_are_positive : FnScope ["value", "least", "most", "one"] ["value", "least", "most"] (defScope s_are_positive) := ⟨rfl, rfl, rfl, by decide +kernel, rfl, by decide +kernel, by decide +kernel⟩
abbrev s_need_search : Stmt := topS 22
theorem sc_need_search : FnScope ["chances", "costs"] ["chances", "costs"] (defScope s_need_search) := ⟨rfl, rfl, rfl, by decide +kernel, rfl, by decide +kernel, by decide +kernel⟩
abbrev s_cost_of : Stmt := topS 23
theorem sc_cost_of : FnScope ["chances", "costs", "order", "spent", "found", "k"] ["chances", "costs", "order"] (defScope s_cost_of) := ⟨rfl, rfl, rfl, by decide +kernel, rfl, by decide +kernel, by decide +kernel⟩
abbrev s_search_cost : Stmt := topS 24
theorem sc_search_cost : FnScope ["chances", "costs", "order"] ["chances", "costs", "order"] (defScope s_search_cost) := ⟨rfl, rfl, rfl, by decide +kernel, rfl, by decide +kernel, by decide +kernel⟩
abbrev s_comes_before : Stmt := topS 25
theorem sc_comes_before : FnScope ["chances", "costs", "i", "j"] ["chances", "costs", "i", "j"] (defScope s_comes_before) := ⟨rfl, rfl, rfl, by decide +kernel, rfl, by decide +kernel, by decide +kernel⟩
abbrev s_best_search : Stmt := topS 26
theorem sc_best_search : FnScope ["chances", "costs", "left", "order", "best", "k"] ["chances", "costs"] (defScope s_best_search) := ⟨rfl, rfl, rfl, by decide +kernel, rfl, by decide +kernel, by decide +kernel⟩
abbrev s_ltaken : Stmt := topS 28
theorem sc_ltaken : FnScope ["_law_row", "_law_many", "_law_found", "_law_cell"] ["_law_row", "_law_many"] (defScope s_ltaken) := ⟨rfl, rfl, rfl, by decide +kernel, rfl, by decide +kernel, by decide +kernel⟩
abbrev s_lpick : Stmt := topS 29
theorem sc_lpick : FnScope ["_law_row", "_law_things"] ["_law_row", "_law_things"] (defScope s_lpick) := ⟨rfl, rfl, rfl, by decide +kernel, rfl, by decide +kernel, by decide +kernel⟩
abbrev s_lgcd : Stmt := topS 30
theorem sc_lgcd : FnScope ["_law_one", "_law_other"] ["_law_one", "_law_other"] (defScope s_lgcd) := ⟨rfl, rfl, rfl, by decide +kernel, rfl, by decide +kernel, by decide +kernel⟩
abbrev s_lratio : Stmt := topS 31
theorem sc_lratio : FnScope ["_law_numerator", "_law_denominator", "_law_common"] ["_law_numerator", "_law_denominator"] (defScope s_lratio) := ⟨rfl, rfl, rfl, by decide +kernel, rfl, by decide +kernel, by decide +kernel⟩
abbrev s_lrate : Stmt := topS 32
theorem sc_lrate : FnScope ["_law_row"] ["_law_row"] (defScope s_lrate) := ⟨rfl, rfl, rfl, by decide +kernel, rfl, by decide +kernel, by decide +kernel⟩
abbrev s_lorders : Stmt := topS 33
theorem sc_lorders : FnScope ["_law_many", "_law_found", "_law_turn", "_law_longer", "_law_some", "_law_k"] ["_law_many"] (defScope s_lorders) := ⟨rfl, rfl, rfl, by decide +kernel, rfl, by decide +kernel, by decide +kernel⟩
abbrev s_lplus : Stmt := topS 34
theorem sc_lplus : FnScope ["_law_one", "_law_other"] ["_law_one", "_law_other"] (defScope s_lplus) := ⟨rfl, rfl, rfl, by decide +kernel, rfl, by decide +kernel, by decide +kernel⟩
abbrev s_lsum : Stmt := topS 35
theorem sc_lsum : FnScope ["_law_values", "_law_found", "_law_one"] ["_law_values"] (defScope s_lsum) := ⟨rfl, rfl, rfl, by decide +kernel, rfl, by decide +kernel, by decide +kernel⟩
abbrev s_ltimes : Stmt := topS 36
theorem sc_ltimes : FnScope ["_law_one", "_law_other"] ["_law_one", "_law_other"] (defScope s_ltimes) := ⟨rfl, rfl, rfl, by decide +kernel, rfl, by decide +kernel, by decide +kernel⟩
abbrev s_lless : Stmt := topS 37
theorem sc_lless : FnScope ["_law_one", "_law_other"] ["_law_one", "_law_other"] (defScope s_lless) := ⟨rfl, rfl, rfl, by decide +kernel, rfl, by decide +kernel, by decide +kernel⟩
abbrev s_lover : Stmt := topS 38
theorem sc_lover : FnScope ["_law_one", "_law_other"] ["_law_one", "_law_other"] (defScope s_lover) := ⟨rfl, rfl, rfl, by decide +kernel, rfl, by decide +kernel, by decide +kernel⟩
abbrev s_lalike : Stmt := topS 39
theorem sc_lalike : FnScope ["_law_found", "_law_due", "_law_k"] ["_law_found", "_law_due"] (defScope s_lalike) := ⟨rfl, rfl, rfl, by decide +kernel, rfl, by decide +kernel, by decide +kernel⟩
abbrev s_law : Stmt := topS 40
theorem sc_law : FnScope ["_law_script", "_law_row", "_law_many", "_law_numbers", "_law_chances", "_law_costs", "_law_values", "_law_order", "_law_total", "_law_at", "_law_spent", "_law_best", "_law_good", "_law_one", "_law_shares", "_law_falls", "_law_k", "_law_x"] ["_law_script"] (defScope s_law) := ⟨rfl, rfl, rfl, by decide +kernel, rfl, by decide +kernel, by decide +kernel⟩

/-! ### readings of numbers -/
theorem abs_nat (i : Int) : (if i < 0 then -i else i) = ((i.natAbs : Nat) : Int) := by
  split <;> omega
def lastNat : L2.St → Hp → Nat := fun σ _ => match σ with
  | [_, some (.int y)] => y.toNat
  | _ => 0
theorem ne_zero_of {y : Nat} (e : (!decide (V.int (y : Int) = V.int 0)) = true) : y ≠ 0 := by
  rintro rfl
  exact absurd e (by decide)
theorem zero_of {y : Nat} (e : ¬ (!decide (V.int (y : Int) = V.int 0)) = true) : y = 0 := by
  by_cases h : y = 0
  · exact h
  · refine absurd ?_ e
    rw [decide_eq_false (fun z => h (by injection z with z; omega))]
    rfl
/-! ### heaps -/
theorem same_upd {H : Hp} {p : Addr} {o : HO} (h : H p = none) : Same H (upd H p o) := fun b x e => by
  rw [upd_ne (ne_of_none e h)]
  exact e
theorem same_seqT {K : PySem.W.Frag} {H H' : Hp} {a : Addr} {xs : List V} (e : Same H H') (h : SqT K H a xs) : SqT K H' a xs := by
  rcases h with (h | ⟨o, h⟩) | h
  · exact .inl (.inl (e _ _ h))
  · exact .inl (.inr ⟨o, e _ _ h⟩)
  · exact .inr h
/-- a ratio as a pair of ints -/
abbrev rv (q : Rat) : List V := [.int q.num, .int (q.den : Int)]
/-- v is a tuple that holds the ratio q -/
def RT (K : PySem.W.Frag) (H : Hp) (v : V) (q : Rat) : Prop := ∃ a, v = .ref a ∧ SqT K H a (rv q)
theorem RT.same {K : PySem.W.Frag} {H H' : Hp} {v : V} {q : Rat} (e : Same H H') (h : RT K H v q) : RT K H' v q := by
  obtain ⟨a, rfl, h⟩ := h
  exact ⟨a, rfl, same_seqT e h⟩
theorem RT.new {K : PySem.W.Frag} {H : Hp} {p : Addr} {q : Rat} : RT K (upd H p (.tup (rv q))) (.ref p) q := ⟨p, rfl, SqT.of upd_same⟩

/-! ### promises -/
def spGcd : Sp := fun vs H Q _ => ∃ i j : Int, vs = [.int i, .int j] ∧ Q (.int (Nat.gcd i.natAbs j.natAbs : Nat)) H
def spRed : Sp := fun vs H Q _ => ∃ (n : Int) (d : Nat), vs = [.int n, .int (d : Int)] ∧ d ≠ 0 ∧ d < 2 ^ 9000 ∧ ∀ p, H p = none → Q (.ref p) (upd H p (.tup (rv (mkRat n d))))
/-- two ratios of moderate size in, a new one out -/
def spBin (f : Rat → Rat → Rat) (C : Rat → Rat → Prop) (K : PySem.W.Frag) : Sp := fun vs H Q _ => ∃ (x y : V) (p q : Rat), vs = [x, y] ∧ RT K H x p ∧ RT K H y q ∧ Sm 4000 p ∧ Sm 4000 q ∧ C p q ∧ ∀ a, H a = none → Q (.ref a) (upd H a (.tup (rv (f p q))))
def spPlus (K : PySem.W.Frag) : Sp := spBin (fun p q => p + q) (fun _ _ => True) K
def spTimes (K : PySem.W.Frag) : Sp := spBin (fun p q => p * q) (fun _ _ => True) K
def spOver (K : PySem.W.Frag) : Sp := spBin (fun p q => p / q) (fun _ q => 0 < q) K
def spLess (K : PySem.W.Frag) : Sp := fun vs H Q _ => ∃ (x y : V) (p q : Rat), vs = [x, y] ∧ RT K H x p ∧ RT K H y q ∧ Sm 4000 p ∧ Sm 4000 q ∧ Q (.bl (decide (p < q))) H
section
variable {P : Program} {w : World} {K : PySem.W.Frag} {mg : Str → Option Value} {base : Heap}
theorem natlt {d n : Nat} (h : d < 2 ^ n) : ((d : Int)).natAbs < 2 ^ n := by
  rw [Int.natAbs_natCast]
  exact h
theorem den_mul_lt {a b : Nat} (ha : a < 2 ^ 4000) (hb : b < 2 ^ 4000) : a * b < 2 ^ 9000 := by
  have h : ∀ m n : Nat, a < 2 ^ m → b < 2 ^ n → m + n ≤ 9000 → a * b < 2 ^ 9000 := fun m n h1 h2 h3 => by
    have h4 : a * b < 2 ^ (m + n) := by
      rw [Nat.pow_add]
      exact Nat.mul_lt_mul'' h1 h2
    exact Nat.lt_of_lt_of_le h4 (Nat.pow_le_pow_right (by decide) h3)
  exact h 4000 4000 ha hb (by decide)

theorem ok_gcd {f : Addr} {fd : FuncData} {k : Nat} (F : Fun K "gcd" "gcd" s_gcd f fd) (ma : mg "abs" = none) : FnOk P w K mg base CX0 (k + 1) f fd ["one", "other"] spGcd := by
  refine F.ok sc_gcd (fun vs H Q E h => ?_) (fun cdv A outer s H vs Q E hr h => ?_)
  · obtain ⟨i, j, rfl, _⟩ := h
    rfl
  · obtain ⟨i, j, rfl, q⟩ := h
    refine ⟨_, pss_cons (ps_par (i := 0) (j := 1) rfl sc_gcd.nd rfl rfl (by decide) rfl rfl (pa_cons (pe_callB call_abs (by rfl) ma (by decide +kernel) (pa_cons (pv 0) pa_nil)) (pa_cons (pe_callB call_abs (by rfl) ma (by decide +kernel) (pa_cons (pv 1) pa_nil)) pa_nil)) (by rfl))
      (pss_cons (ps_while PassesOwn.never (pt_cmpR op_ne (pv 1) pe_int (nomark _))
          (pss_one (ps_par (i := 0) (j := 1) rfl sc_gcd.nd rfl rfl (by decide) rfl rfl (pa_cons (pv 1) (pa_cons (pe_op op_mod (pv 0) (pv 1)) pa_nil)) (by rfl))))
        (pss_one (ps_ret (pv 0)))), ?_⟩
    refine ⟨_, rfl, i, rfl, _, rfl, j, rfl, _, _, rfl, ?_⟩
    refine while_by (fun σ H' => H' = H ∧ ∃ x y : Nat, σ = [some (.int (x : Int)), some (.int (y : Int))] ∧ Nat.gcd x y = Nat.gcd i.natAbs j.natAbs) lastNat
      ⟨rfl, i.natAbs, j.natAbs, by rw [abs_nat i, abs_nat j]; rfl, rfl⟩ (fun σ H' hp => ?_) (fun σ H' Q1 Q2 hq hc => ?_)
    · obtain ⟨rfl, x, y, rfl, hg⟩ := hp
      refine ⟨_, rfl, rfl, _, rfl, ite2 (fun e => ?_) (fun e => ?_)⟩
      · have e1 : y ≠ 0 := ne_zero_of e
        have hy : (0 : Int) < (y : Int) := by omega
        refine ⟨_, rfl, _, rfl, _, rfl, _, _, rfl, rfl, hy, _, _, rfl, ?_⟩
        refine ⟨⟨rfl, y, x % y, ?_, ?_⟩, ?_⟩
        · rw [Int.natCast_emod]
          rfl
        · rw [← hg, Nat.gcd_comm x y, Nat.gcd_rec y x, Nat.gcd_comm]
        · show ((x : Int) % (y : Int)).toNat < ((y : Int)).toNat
          rw [← Int.natCast_emod]
          exact Nat.mod_lt _ (Nat.pos_of_ne_zero e1)
      · have e1 : y = 0 := zero_of e
        subst e1
        rw [Nat.gcd_zero_right] at hg
        subst hg
        exact ⟨_, rfl, q⟩
    · obtain ⟨v, e, a, z, ez, h2⟩ := hc
      exact ⟨v, e, a, z, ez, hq _ _ h2⟩

theorem ok_lgcd {f : Addr} {fd : FuncData} {k : Nat} (F : Fun K "_law_gcd" "_law_gcd" s_lgcd f fd) (ma : mg "abs" = none) (mi : mg "int" = none) : FnOk P w K mg base CX0 (k + 1) f fd ["_law_one", "_law_other"] spGcd := by
  refine F.ok sc_lgcd (fun vs H Q E h => ?_) (fun cdv A outer s H vs Q E hr h => ?_)
  · obtain ⟨i, j, rfl, _⟩ := h
    rfl
  · obtain ⟨i, j, rfl, q⟩ := h
    refine ⟨_, pss_cons (ps_par (i := 0) (j := 1) rfl sc_lgcd.nd rfl rfl (by decide) rfl rfl (pa_cons (pe_callB call_abs (by rfl) ma (by decide +kernel) (pa_cons (pv 0) pa_nil)) (pa_cons (pe_callB call_abs (by rfl) ma (by decide +kernel) (pa_cons (pv 1) pa_nil)) pa_nil)) (by rfl))
      (pss_cons (ps_while PassesOwn.never (pt_cmpR op_ne (pv 1) pe_int (nomark _))
          (pss_one (ps_par (i := 0) (j := 1) rfl sc_lgcd.nd rfl rfl (by decide) rfl rfl (pa_cons (pv 1) (pa_cons (pe_op op_mod (pe_callTy call_int1 (by rfl) mi boot_int (pa_cons (pv 0) pa_nil)) (pv 1)) pa_nil)) (by rfl))))
        (pss_one (ps_ret (pv 0)))), ?_⟩
    refine ⟨_, rfl, i, rfl, _, rfl, j, rfl, _, _, rfl, ?_⟩
    refine while_by (fun σ H' => H' = H ∧ ∃ x y : Nat, σ = [some (.int (x : Int)), some (.int (y : Int))] ∧ Nat.gcd x y = Nat.gcd i.natAbs j.natAbs) lastNat
      ⟨rfl, i.natAbs, j.natAbs, by rw [abs_nat i, abs_nat j]; rfl, rfl⟩ (fun σ H' hp => ?_) (fun σ H' Q1 Q2 hq hc => ?_)
    · obtain ⟨rfl, x, y, rfl, hg⟩ := hp
      refine ⟨_, rfl, rfl, _, rfl, ite2 (fun e => ?_) (fun e => ?_)⟩
      · have e1 : y ≠ 0 := ne_zero_of e
        have hy : (0 : Int) < (y : Int) := by omega
        refine ⟨_, rfl, _, rfl, .inl ⟨_, rfl, _, rfl, _, _, rfl, rfl, hy, _, _, rfl, ?_⟩⟩
        refine ⟨⟨rfl, y, x % y, ?_, ?_⟩, ?_⟩
        · rw [Int.natCast_emod]
          rfl
        · rw [← hg, Nat.gcd_comm x y, Nat.gcd_rec y x, Nat.gcd_comm]
        · show ((x : Int) % (y : Int)).toNat < ((y : Int)).toNat
          rw [← Int.natCast_emod]
          exact Nat.mod_lt _ (Nat.pos_of_ne_zero e1)
      · have e1 : y = 0 := zero_of e
        subst e1
        rw [Nat.gcd_zero_right] at hg
        subst hg
        exact ⟨_, rfl, q⟩
    · obtain ⟨v, e, a, z, ez, h2⟩ := hc
      exact ⟨v, e, a, z, ez, hq _ _ h2⟩

theorem ok_reduced {f g : Addr} {fd gd : FuncData} {k : Nat} (F : Fun K "reduced" "reduced" s_reduced f fd) (G : FnOk P w K mg base CX0 k g gd ["one", "other"] spGcd) (mgG : mg "gcd" = some (.ref g)) (kp : PySem.W.keepIn K (.ref g) = true) (b : Binds K gd ["one", "other"] []) : FnOk P w K mg base CX0 (k + 1) f fd ["numerator", "denominator"] spRed := by
  refine F.ok sc_reduced (fun vs H Q E h => ?_) (fun cdv A outer s H vs Q E hr h => ?_)
  · obtain ⟨n, d, rfl, _⟩ := h
    rfl
  · obtain ⟨n, d, rfl, hd, hb, q⟩ := h
    refine ⟨_, pss_cons (ps_set (i := 2) sc_reduced.nd rfl (.inl rfl) (pe_call G hr (by rfl) mgG kp b .nil pass0 (pa_cons (pv 0) (pa_cons (pv 1) pa_nil))))
      (pss_cons (ps_if (pt_cmpR op_lt (pv 1) pe_int (nomark _)) (pss_one (ps_set (i := 2) sc_reduced.nd rfl (.inl rfl) (pe_un un_neg (pv 2)))) pss_nil)
      (pss_one (ps_ret (pe_tup (pa_cons (pe_op op_fdivW (pv 0) (pv 2)) (pa_cons (pe_op op_fdivW (pv 1) (pv 2)) pa_nil)))))), ?_⟩
    have hg : 0 < Nat.gcd n.natAbs d := Nat.gcd_pos_of_pos_right _ (by omega)
    have hgd : Nat.gcd n.natAbs d ≤ d := Nat.gcd_le_right _ (by omega)
    have hW : ∀ i : Int, CDivW i ((Nat.gcd n.natAbs d : Nat) : Int) := fun i => wide_div (b := 9000) (by omega) (by rw [Int.natAbs_natCast]; omega) (by decide) (by decide)
    refine ⟨_, rfl, _, rfl, n, (d : Int), rfl, _, rfl, _, _, rfl, rfl, _, rfl, ?_⟩
    rw [decide_eq_false (show ¬ ((d : Int) < 0) by omega)]
    refine iteF ?_
    refine ⟨_, rfl, _, rfl, _, _, rfl, rfl, hW _, _, rfl, _, rfl, _, _, rfl, rfl, hW _, (by show 2 ≤ sizeLine; decide), fun p hp => ?_⟩
    have q1 := q p hp
    unfold rv at q1
    rw [red_num n d hd, red_den n d hd] at q1
    exact q1

theorem ok_lratio {f g : Addr} {fd gd : FuncData} {k : Nat} (F : Fun K "_law_ratio" "_law_ratio" s_lratio f fd) (G : FnOk P w K mg base CX0 k g gd ["_law_one", "_law_other"] spGcd) (mgG : mg "_law_gcd" = some (.ref g)) (kp : PySem.W.keepIn K (.ref g) = true) (b : Binds K gd ["_law_one", "_law_other"] []) : FnOk P w K mg base CX0 (k + 1) f fd ["_law_numerator", "_law_denominator"] spRed := by
  refine F.ok sc_lratio (fun vs H Q E h => ?_) (fun cdv A outer s H vs Q E hr h => ?_)
  · obtain ⟨n, d, rfl, _⟩ := h
    rfl
  · obtain ⟨n, d, rfl, hd, hb, q⟩ := h
    refine ⟨_, pss_cons (ps_set (i := 2) sc_lratio.nd rfl (.inl rfl) (pe_call G hr (by rfl) mgG kp b .nil pass0 (pa_cons (pv 0) (pa_cons (pv 1) pa_nil))))
      (pss_cons (ps_set (i := 2) sc_lratio.nd rfl (.inl rfl) (pe_ifExp (pt_cmpR op_lt (pv 1) pe_int (nomark _)) (pe_op op_sub pe_int (pv 2)) (pv 2)))
      (pss_one (ps_ret (pe_tup (pa_cons (pe_op op_fdivW (pv 0) (pv 2)) (pa_cons (pe_op op_fdivW (pv 1) (pv 2)) pa_nil)))))), ?_⟩
    have hg : 0 < Nat.gcd n.natAbs d := Nat.gcd_pos_of_pos_right _ (by omega)
    have hgd : Nat.gcd n.natAbs d ≤ d := Nat.gcd_le_right _ (by omega)
    have hW : ∀ i : Int, CDivW i ((Nat.gcd n.natAbs d : Nat) : Int) := fun i => wide_div (b := 9000) (by omega) (by rw [Int.natAbs_natCast]; omega) (by decide) (by decide)
    refine ⟨_, rfl, _, rfl, n, (d : Int), rfl, _, rfl, _, _, rfl, rfl, _, rfl, ?_⟩
    rw [decide_eq_false (show ¬ ((d : Int) < 0) by omega)]
    refine iteF ?_
    refine ⟨_, rfl, ?_⟩
    refine ⟨_, rfl, _, rfl, _, _, rfl, rfl, hW _, _, rfl, _, rfl, _, _, rfl, rfl, hW _, (by show 2 ≤ sizeLine; decide), fun p hp => ?_⟩
    have q1 := q p hp
    unfold rv at q1
    rw [red_num n d hd, red_den n d hd] at q1
    exact q1

theorem ok_plus {f g : Addr} {fd gd : FuncData} {k : Nat} (F : Fun K "plus" "plus" s_plus f fd) (G : FnOk P w K mg base CX0 k g gd ["numerator", "denominator"] spRed) (mgG : mg "reduced" = some (.ref g)) (kp : PySem.W.keepIn K (.ref g) = true) (b : Binds K gd ["numerator", "denominator"] []) : FnOk P w K mg base CX0 (k + 1) f fd ["one", "other"] (spPlus K) := by
  refine F.ok sc_plus (fun vs H Q E h => ?_) (fun cdv A outer s H vs Q E hr h => ?_)
  · obtain ⟨x, y, p, q, rfl, _⟩ := h
    rfl
  · obtain ⟨x, y, p, q, rfl, ⟨ax, rfl, hx⟩, ⟨ay, rfl, hy⟩, zp, zq, hC, Z⟩ := h
    refine ⟨_, pss_one (ps_ret (pe_call G hr (by rfl) mgG kp b .nil pass0 (pa_cons (pe_op op_add (pe_op op_mulW (pe_ix ix_tup (pv 0) pe_int (fun _ _ => rfl)) (pe_ix ix_tup (pv 1) pe_int (fun _ _ => rfl))) (pe_op op_mulW (pe_ix ix_tup (pv 1) pe_int (fun _ _ => rfl)) (pe_ix ix_tup (pv 0) pe_int (fun _ _ => rfl)))) (pa_cons (pe_op op_mulW (pe_ix ix_tup (pv 0) pe_int (fun _ _ => rfl)) (pe_ix ix_tup (pv 1) pe_int (fun _ _ => rfl))) pa_nil)))), ?_⟩
    refine ⟨_, rfl, ax, _, 0, _, rfl, rfl, hx, rfl, _, rfl, ay, _, 1, _, rfl, rfl, hy, rfl, _, _, rfl, rfl, wide_mul zp.1 (natlt zq.2) (by decide) (by decide) (by decide), _, rfl, ay, _, 0, _, rfl, rfl, hy, rfl, _, rfl, ax, _, 1, _, rfl, rfl, hx, rfl, _, _, rfl, rfl, wide_mul zq.1 (natlt zp.2) (by decide) (by decide) (by decide), _, _, rfl, rfl, _, rfl, ax, _, 1, _, rfl, rfl, hx, rfl, _, rfl, ay, _, 1, _, rfl, rfl, hy, rfl, _, _, rfl, rfl, wide_mul (natlt zp.2) (natlt zq.2) (by decide) (by decide) (by decide), ?_⟩
    refine ⟨p.num * q.den + q.num * p.den, p.den * q.den, by rw [Int.natCast_mul]; rfl, Nat.mul_ne_zero p.den_nz q.den_nz, den_mul_lt zp.2 zq.2, fun a ha => ?_⟩
    have z := Z a ha
    simp only [Rat.add_def'] at z
    exact z

theorem ok_lplus {f g : Addr} {fd gd : FuncData} {k : Nat} (F : Fun K "_law_plus" "_law_plus" s_lplus f fd) (G : FnOk P w K mg base CX0 k g gd ["_law_numerator", "_law_denominator"] spRed) (mgG : mg "_law_ratio" = some (.ref g)) (kp : PySem.W.keepIn K (.ref g) = true) (b : Binds K gd ["_law_numerator", "_law_denominator"] []) : FnOk P w K mg base CX0 (k + 1) f fd ["_law_one", "_law_other"] (spPlus K) := by
  refine F.ok sc_lplus (fun vs H Q E h => ?_) (fun cdv A outer s H vs Q E hr h => ?_)
  · obtain ⟨x, y, p, q, rfl, _⟩ := h
    rfl
  · obtain ⟨x, y, p, q, rfl, ⟨ax, rfl, hx⟩, ⟨ay, rfl, hy⟩, zp, zq, hC, Z⟩ := h
    refine ⟨_, pss_one (ps_ret (pe_call G hr (by rfl) mgG kp b .nil pass0 (pa_cons (pe_op op_add (pe_op op_mulW (pe_ix ix_tup (pv 0) pe_int (fun _ _ => rfl)) (pe_ix ix_tup (pv 1) pe_int (fun _ _ => rfl))) (pe_op op_mulW (pe_ix ix_tup (pv 1) pe_int (fun _ _ => rfl)) (pe_ix ix_tup (pv 0) pe_int (fun _ _ => rfl)))) (pa_cons (pe_op op_mulW (pe_ix ix_tup (pv 0) pe_int (fun _ _ => rfl)) (pe_ix ix_tup (pv 1) pe_int (fun _ _ => rfl))) pa_nil)))), ?_⟩
    refine ⟨_, rfl, ax, _, 0, _, rfl, rfl, hx, rfl, _, rfl, ay, _, 1, _, rfl, rfl, hy, rfl, _, _, rfl, rfl, wide_mul zp.1 (natlt zq.2) (by decide) (by decide) (by decide), _, rfl, ay, _, 0, _, rfl, rfl, hy, rfl, _, rfl, ax, _, 1, _, rfl, rfl, hx, rfl, _, _, rfl, rfl, wide_mul zq.1 (natlt zp.2) (by decide) (by decide) (by decide), _, _, rfl, rfl, _, rfl, ax, _, 1, _, rfl, rfl, hx, rfl, _, rfl, ay, _, 1, _, rfl, rfl, hy, rfl, _, _, rfl, rfl, wide_mul (natlt zp.2) (natlt zq.2) (by decide) (by decide) (by decide), ?_⟩
    refine ⟨p.num * q.den + q.num * p.den, p.den * q.den, by rw [Int.natCast_mul]; rfl, Nat.mul_ne_zero p.den_nz q.den_nz, den_mul_lt zp.2 zq.2, fun a ha => ?_⟩
    have z := Z a ha
    simp only [Rat.add_def'] at z
    exact z

theorem ok_times {f g : Addr} {fd gd : FuncData} {k : Nat} (F : Fun K "times" "times" s_times f fd) (G : FnOk P w K mg base CX0 k g gd ["numerator", "denominator"] spRed) (mgG : mg "reduced" = some (.ref g)) (kp : PySem.W.keepIn K (.ref g) = true) (b : Binds K gd ["numerator", "denominator"] []) : FnOk P w K mg base CX0 (k + 1) f fd ["one", "other"] (spTimes K) := by
  refine F.ok sc_times (fun vs H Q E h => ?_) (fun cdv A outer s H vs Q E hr h => ?_)
  · obtain ⟨x, y, p, q, rfl, _⟩ := h
    rfl
  · obtain ⟨x, y, p, q, rfl, ⟨ax, rfl, hx⟩, ⟨ay, rfl, hy⟩, zp, zq, hC, Z⟩ := h
    refine ⟨_, pss_one (ps_ret (pe_call G hr (by rfl) mgG kp b .nil pass0 (pa_cons (pe_op op_mulW (pe_ix ix_tup (pv 0) pe_int (fun _ _ => rfl)) (pe_ix ix_tup (pv 1) pe_int (fun _ _ => rfl))) (pa_cons (pe_op op_mulW (pe_ix ix_tup (pv 0) pe_int (fun _ _ => rfl)) (pe_ix ix_tup (pv 1) pe_int (fun _ _ => rfl))) pa_nil)))), ?_⟩
    refine ⟨_, rfl, ax, _, 0, _, rfl, rfl, hx, rfl, _, rfl, ay, _, 0, _, rfl, rfl, hy, rfl, _, _, rfl, rfl, wide_mul zp.1 zq.1 (by decide) (by decide) (by decide), _, rfl, ax, _, 1, _, rfl, rfl, hx, rfl, _, rfl, ay, _, 1, _, rfl, rfl, hy, rfl, _, _, rfl, rfl, wide_mul (natlt zp.2) (natlt zq.2) (by decide) (by decide) (by decide), ?_⟩
    refine ⟨p.num * q.num, p.den * q.den, by rw [Int.natCast_mul]; rfl, Nat.mul_ne_zero p.den_nz q.den_nz, den_mul_lt zp.2 zq.2, fun a ha => ?_⟩
    have z := Z a ha
    simp only [Rat.mul_def'] at z
    exact z

theorem ok_ltimes {f g : Addr} {fd gd : FuncData} {k : Nat} (F : Fun K "_law_times" "_law_times" s_ltimes f fd) (G : FnOk P w K mg base CX0 k g gd ["_law_numerator", "_law_denominator"] spRed) (mgG : mg "_law_ratio" = some (.ref g)) (kp : PySem.W.keepIn K (.ref g) = true) (b : Binds K gd ["_law_numerator", "_law_denominator"] []) : FnOk P w K mg base CX0 (k + 1) f fd ["_law_one", "_law_other"] (spTimes K) := by
  refine F.ok sc_ltimes (fun vs H Q E h => ?_) (fun cdv A outer s H vs Q E hr h => ?_)
  · obtain ⟨x, y, p, q, rfl, _⟩ := h
    rfl
  · obtain ⟨x, y, p, q, rfl, ⟨ax, rfl, hx⟩, ⟨ay, rfl, hy⟩, zp, zq, hC, Z⟩ := h
    refine ⟨_, pss_one (ps_ret (pe_call G hr (by rfl) mgG kp b .nil pass0 (pa_cons (pe_op op_mulW (pe_ix ix_tup (pv 0) pe_int (fun _ _ => rfl)) (pe_ix ix_tup (pv 1) pe_int (fun _ _ => rfl))) (pa_cons (pe_op op_mulW (pe_ix ix_tup (pv 0) pe_int (fun _ _ => rfl)) (pe_ix ix_tup (pv 1) pe_int (fun _ _ => rfl))) pa_nil)))), ?_⟩
    refine ⟨_, rfl, ax, _, 0, _, rfl, rfl, hx, rfl, _, rfl, ay, _, 0, _, rfl, rfl, hy, rfl, _, _, rfl, rfl, wide_mul zp.1 zq.1 (by decide) (by decide) (by decide), _, rfl, ax, _, 1, _, rfl, rfl, hx, rfl, _, rfl, ay, _, 1, _, rfl, rfl, hy, rfl, _, _, rfl, rfl, wide_mul (natlt zp.2) (natlt zq.2) (by decide) (by decide) (by decide), ?_⟩
    refine ⟨p.num * q.num, p.den * q.den, by rw [Int.natCast_mul]; rfl, Nat.mul_ne_zero p.den_nz q.den_nz, den_mul_lt zp.2 zq.2, fun a ha => ?_⟩
    have z := Z a ha
    simp only [Rat.mul_def'] at z
    exact z

theorem ok_lover {f g : Addr} {fd gd : FuncData} {k : Nat} (F : Fun K "_law_over" "_law_over" s_lover f fd) (G : FnOk P w K mg base CX0 k g gd ["_law_numerator", "_law_denominator"] spRed) (mgG : mg "_law_ratio" = some (.ref g)) (kp : PySem.W.keepIn K (.ref g) = true) (b : Binds K gd ["_law_numerator", "_law_denominator"] []) : FnOk P w K mg base CX0 (k + 1) f fd ["_law_one", "_law_other"] (spOver K) := by
  refine F.ok sc_lover (fun vs H Q E h => ?_) (fun cdv A outer s H vs Q E hr h => ?_)
  · obtain ⟨x, y, p, q, rfl, _⟩ := h
    rfl
  · obtain ⟨x, y, p, q, rfl, ⟨ax, rfl, hx⟩, ⟨ay, rfl, hy⟩, zp, zq, hC, Z⟩ := h
    refine ⟨_, pss_one (ps_ret (pe_call G hr (by rfl) mgG kp b .nil pass0 (pa_cons (pe_op op_mulW (pe_ix ix_tup (pv 0) pe_int (fun _ _ => rfl)) (pe_ix ix_tup (pv 1) pe_int (fun _ _ => rfl))) (pa_cons (pe_op op_mulW (pe_ix ix_tup (pv 0) pe_int (fun _ _ => rfl)) (pe_ix ix_tup (pv 1) pe_int (fun _ _ => rfl))) pa_nil)))), ?_⟩
    have hq := num_pos hC
    have eq : ((q.num.toNat : Nat) : Int) = q.num := Int.toNat_of_nonneg (by omega)
    have hz : q.num.toNat < 2 ^ 4000 := by
      have := zq.1
      omega
    refine ⟨_, rfl, ax, _, 0, _, rfl, rfl, hx, rfl, _, rfl, ay, _, 1, _, rfl, rfl, hy, rfl, _, _, rfl, rfl, wide_mul zp.1 (natlt zq.2) (by decide) (by decide) (by decide), _, rfl, ax, _, 1, _, rfl, rfl, hx, rfl, _, rfl, ay, _, 0, _, rfl, rfl, hy, rfl, _, _, rfl, rfl, wide_mul (natlt zp.2) zq.1 (by decide) (by decide) (by decide), ?_⟩
    refine ⟨p.num * q.den, p.den * q.num.toNat, by rw [Int.natCast_mul, eq]; rfl, Nat.mul_ne_zero p.den_nz (by omega), den_mul_lt zp.2 hz, fun a ha => ?_⟩
    have z := Z a ha
    simp only [div_mk hC] at z
    exact z

theorem ok_is_below {f : Addr} {fd : FuncData} {k : Nat} (F : Fun K "is_below" "is_below" s_is_below f fd) : FnOk P w K mg base CX0 (k + 1) f fd ["one", "other"] (spLess K) := by
  refine F.ok sc_is_below (fun vs H Q E h => ?_) (fun cdv A outer s H vs Q E hr h => ?_)
  · obtain ⟨x, y, p, q, rfl, _⟩ := h
    rfl
  · obtain ⟨x, y, p, q, rfl, ⟨ax, rfl, hx⟩, ⟨ay, rfl, hy⟩, zp, zq, Z⟩ := h
    refine ⟨_, pss_one (ps_ret (pe_cmpR op_lt (pe_op op_mulW (pe_ix ix_tup (pv 0) pe_int (fun _ _ => rfl)) (pe_ix ix_tup (pv 1) pe_int (fun _ _ => rfl))) (pe_op op_mulW (pe_ix ix_tup (pv 1) pe_int (fun _ _ => rfl)) (pe_ix ix_tup (pv 0) pe_int (fun _ _ => rfl))) (nomark _))), ?_⟩
    refine ⟨_, rfl, ax, _, 0, _, rfl, rfl, hx, rfl, _, rfl, ay, _, 1, _, rfl, rfl, hy, rfl, _, _, rfl, rfl, wide_mul zp.1 (natlt zq.2) (by decide) (by decide) (by decide), _, rfl, ay, _, 0, _, rfl, rfl, hy, rfl, _, rfl, ax, _, 1, _, rfl, rfl, hx, rfl, _, _, rfl, rfl, wide_mul zq.1 (natlt zp.2) (by decide) (by decide) (by decide), _, _, rfl, rfl, ?_⟩
    have e : decide (p < q) = decide (p.num * (q.den : Int) < q.num * (p.den : Int)) := by
      rw [decide_eq_decide]
      exact Rat.lt_iff p q
    rw [e] at Z
    exact Z

theorem ok_lless {f : Addr} {fd : FuncData} {k : Nat} (F : Fun K "_law_less" "_law_less" s_lless f fd) : FnOk P w K mg base CX0 (k + 1) f fd ["_law_one", "_law_other"] (spLess K) := by
  refine F.ok sc_lless (fun vs H Q E h => ?_) (fun cdv A outer s H vs Q E hr h => ?_)
  · obtain ⟨x, y, p, q, rfl, _⟩ := h
    rfl
  · obtain ⟨x, y, p, q, rfl, ⟨ax, rfl, hx⟩, ⟨ay, rfl, hy⟩, zp, zq, Z⟩ := h
    refine ⟨_, pss_one (ps_ret (pe_cmpR op_lt (pe_op op_mulW (pe_ix ix_tup (pv 0) pe_int (fun _ _ => rfl)) (pe_ix ix_tup (pv 1) pe_int (fun _ _ => rfl))) (pe_op op_mulW (pe_ix ix_tup (pv 1) pe_int (fun _ _ => rfl)) (pe_ix ix_tup (pv 0) pe_int (fun _ _ => rfl))) (nomark _))), ?_⟩
    refine ⟨_, rfl, ax, _, 0, _, rfl, rfl, hx, rfl, _, rfl, ay, _, 1, _, rfl, rfl, hy, rfl, _, _, rfl, rfl, wide_mul zp.1 (natlt zq.2) (by decide) (by decide) (by decide), _, rfl, ay, _, 0, _, rfl, rfl, hy, rfl, _, rfl, ax, _, 1, _, rfl, rfl, hx, rfl, _, _, rfl, rfl, wide_mul zq.1 (natlt zp.2) (by decide) (by decide) (by decide), _, _, rfl, rfl, ?_⟩
    have e : decide (p < q) = decide (p.num * (q.den : Int) < q.num * (p.den : Int)) := by
      rw [decide_eq_decide]
      exact Rat.lt_iff p q
    rw [e] at Z
    exact Z
end
end K96

/-! sums and costs -/
namespace K96
open PySem PySem.Spec PyProof.Rows L2
abbrev nv (k : Nat) : V := .int (k : Int)
def fn (qs : List Rat) (k : Nat) : Rat := qs.getD k 0
/-- the values are the ratios, place by place -/
structure RTs (K : PySem.W.Frag) (H : Hp) (vs : List V) (qs : List Rat) : Prop where
  len : vs.length = qs.length
  pl : ∀ (i : Nat) (v : V) (q : Rat), vs[i]? = some v → qs[i]? = some q → RT K H v q
theorem RTs.same {K : PySem.W.Frag} {H H' : Hp} {vs : List V} {qs : List Rat} (e : Same H H') (h : RTs K H vs qs) : RTs K H' vs qs := ⟨h.len, fun i v q a b => (h.pl i v q a b).same e⟩
theorem RTs.nth {K : PySem.W.Frag} {H : Hp} {vs : List V} {qs : List Rat} (h : RTs K H vs qs) {k : Nat} (hk : k < qs.length) : ∃ v, vs[k]? = some v ∧ RT K H v (fn qs k) := by
  have hv : k < vs.length := by
    rw [h.len]
    exact hk
  refine ⟨vs[k], List.getElem?_eq_getElem hv, h.pl k _ _ (List.getElem?_eq_getElem hv) ?_⟩
  unfold fn
  rw [List.getD_eq_getElem?_getD, List.getElem?_eq_getElem hk]
  rfl
theorem fn_all {P : Rat → Prop} {qs : List Rat} (h : ∀ q ∈ qs, P q) {k : Nat} (hk : k < qs.length) : P (fn qs k) := by
  unfold fn
  rw [List.getD_eq_getElem?_getD, List.getElem?_eq_getElem hk]
  exact h _ (List.getElem_mem hk)
theorem sm_zero : Sm 1 (0 : Rat) := ⟨by decide, by decide⟩
theorem fold_sm : ∀ (qs : List Rat) (u : Rat) (m : Nat), (∀ q ∈ qs, Sm 20 q) → Sm m u → Sm (m + 21 * qs.length) (qs.foldl (· + ·) u)
  | [], u, m, _, hu => hu
  | a :: r, u, m, h, hu => by
    have ih := fold_sm r (u + a) (m + 21) (fun q hq => h q (List.mem_cons_of_mem _ hq)) ((hu.add (h a List.mem_cons_self)).up (by omega))
    exact ih.up (by rw [List.length_cons]; omega)
theorem take_fold {qs : List Rat} {i : Nat} {q u : Rat} (h : qs[i]? = some q) : (qs.take (i + 1)).foldl (· + ·) u = (qs.take i).foldl (· + ·) u + q := by
  rw [List.take_add_one, h]
  show (qs.take i ++ [q]).foldl (· + ·) u = _
  rw [List.foldl_append]
  rfl
theorem at_or {α β : Type} {vs : List α} {qs : List β} {i : Nat} {v : α} (hl : vs.length = qs.length) (h : vs[i]? = some v) : ∃ q, qs[i]? = some q := by
  have hi : i < vs.length := (List.getElem?_eq_some_iff.mp h).1
  exact ⟨qs[i]'(by omega), List.getElem?_eq_getElem (by omega)⟩
theorem nv_at {l : List Nat} {i : Nat} {x : V} (h : (l.map nv)[i]? = some x) : ∃ k, l[i]? = some k ∧ k ∈ l ∧ x = nv k := by
  rw [List.getElem?_map] at h
  cases e : l[i]? with
  | none =>
    rw [e] at h
    cases h
  | some k =>
    rw [e] at h
    exact ⟨k, rfl, List.mem_of_getElem? e, (Option.some.inj h).symm⟩
/-- a sum of a row of ratios -/
def spTotal (K : PySem.W.Frag) : Sp := fun vs H Q _ => ∃ (a : Addr) (us : List V) (qs : List Rat), vs = [.ref a] ∧ SqT K H a us ∧ RTs K H us qs ∧ qs.length ≤ 100 ∧ (∀ q ∈ qs, Sm 20 q) ∧ ∀ H' v, Same H H' → RT K H' v (qs.foldl (· + ·) 0) → Q v H'
def spSum (K : PySem.W.Frag) : Sp := fun vs H Q _ => ∃ (a : Addr) (us : List V) (qs : List Rat), vs = [.ref a] ∧ SqL K H a us ∧ RTs K H us qs ∧ qs.length ≤ 100 ∧ (∀ q ∈ qs, Sm 20 q) ∧ ∀ H' v, Same H H' → RT K H' v (qs.foldl (· + ·) 0) → Q v H'
/-- the mean cost of an order, a list or a tuple -/
def spCost (K : PySem.W.Frag) : Sp := fun vs H Q _ => ∃ (a b o : Addr) (us ws : List V) (ps cs : List Rat) (l : List Nat), vs = [.ref a, .ref b, .ref o] ∧ SqT K H a us ∧ RTs K H us ps ∧ SqT K H b ws ∧ RTs K H ws cs ∧
  (SqL K H o (l.map nv) ∨ SqT K H o (l.map nv)) ∧ l.length ≤ 7 ∧ (∀ k ∈ l, k < ps.length ∧ k < cs.length) ∧ (∀ q ∈ ps, Sm 10 q) ∧ (∀ q ∈ cs, Sm 10 q) ∧ ∀ H' v, Same H H' → RT K H' v (costF (fn ps) (fn cs) 0 l) → Q v H'
def spBefore (K : PySem.W.Frag) : Sp := fun vs H Q _ => ∃ (a b : Addr) (us ws : List V) (ps cs : List Rat) (i j : Nat), vs = [.ref a, .ref b, nv i, nv j] ∧ SqT K H a us ∧ RTs K H us ps ∧ SqT K H b ws ∧ RTs K H ws cs ∧ i < ps.length ∧ j < ps.length ∧ i < cs.length ∧ j < cs.length ∧
  (∀ q ∈ ps, Sm 10 q) ∧ (∀ q ∈ cs, Sm 10 q) ∧ ∀ H', Same H H' → Q (.bl (decide (fn ps j * fn cs i < fn ps i * fn cs j))) H'
section
variable {P : Program} {w : World} {K : PySem.W.Frag} {mg : Str → Option Value} {base : Heap}
theorem ok_total_of {f g z : Addr} {fd gd : FuncData} {k : Nat} (F : Fun K "total_of" "total_of" s_total_of f fd) (G : FnOk P w K mg base CX0 k g gd ["one", "other"] (spPlus K)) (mgG : mg "plus" = some (.ref g)) (kp : PySem.W.keepIn K (.ref g) = true) (b : Binds K gd ["one", "other"] [])
    (mz : mg "ZERO" = some (.ref z)) (hz : ∀ H, SqT K H z (rv 0)) : FnOk P w K mg base CX0 (k + 1) f fd ["values"] (spTotal K) := by
  refine F.ok sc_total_of (fun vs H Q E h => ?_) (fun cdv A outer s H vs Q E hr h => ?_)
  · obtain ⟨a, us, qs, rfl, _⟩ := h
    rfl
  · obtain ⟨a, us, qs, rfl, ha, hR, hl, hs, Z⟩ := h
    refine ⟨_, pss_cons (ps_set (i := 1) sc_total_of.nd rfl (.inl rfl) (pe_glob (v := .ref z) (by rfl) mz rfl))
      (pss_cons (ps_for PassesOwn.never rfl (pi_tup (pv 0)) (pg_name (i := 2) sc_total_of.nd rfl (.inl rfl))
        (pss_one (ps_set (i := 1) sc_total_of.nd rfl (.inl rfl) (pe_call G hr (by rfl) mgG kp b .nil pass0 (pa_cons (pv 1) (pa_cons (pv 2) pa_nil))))))
      (pss_one (ps_ret (pv 1)))), ?_⟩
    refine ⟨_, rfl, a, rfl, ⟨_, ha⟩, for_tup (K := K) (a := a) (xs := us) (fun i σ H' => Same H H' ∧ ∃ v x, σ = [some (.ref a), some v, x] ∧ RT K H' v ((qs.take i).foldl (· + ·) 0)) ⟨Same.refl H, .ref z, none, rfl, z, rfl, hz H⟩ (fun i σ H' _ h => ?_) (fun i x σ H' hx h => ?_) (fun σ H' h => ?_)⟩
    · exact same_seqT h.1 ha
    · obtain ⟨sm, v, x0, rfl, hv⟩ := h
      obtain ⟨q, hq⟩ := at_or hR.len hx
      refine ⟨_, rfl, _, rfl, v, x, _, q, rfl, hv, (hR.pl i x q hx hq).same sm, (fold_sm (qs.take i) 0 1 (fun q hq => hs q (List.mem_of_mem_take hq)) sm_zero).up ?_, (hs q (List.mem_of_getElem? hq)).up (by decide), trivial, fun p hp => ⟨sm.trans (same_upd hp), _, _, rfl, ?_⟩⟩
      · rw [List.length_take]
        omega
      · rw [take_fold hq]
        exact RT.new
    · obtain ⟨sm, v, x0, rfl, hv⟩ := h
      rw [hR.len, List.take_length] at hv
      exact ⟨_, rfl, Z H' v sm hv⟩
theorem ok_lsum {f g : Addr} {fd gd : FuncData} {k : Nat} (F : Fun K "_law_sum" "_law_sum" s_lsum f fd) (G : FnOk P w K mg base CX0 k g gd ["_law_one", "_law_other"] (spPlus K)) (mgG : mg "_law_plus" = some (.ref g)) (kp : PySem.W.keepIn K (.ref g) = true) (b : Binds K gd ["_law_one", "_law_other"] []) :
    FnOk P w K mg base CX0 (k + 1) f fd ["_law_values"] (spSum K) := by
  refine F.ok sc_lsum (fun vs H Q E h => ?_) (fun cdv A outer s H vs Q E hr h => ?_)
  · obtain ⟨a, us, qs, rfl, _⟩ := h
    rfl
  · obtain ⟨a, us, qs, rfl, ha, hR, hl, hs, Z⟩ := h
    refine ⟨_, pss_cons (ps_set (i := 1) sc_lsum.nd rfl (.inl rfl) (pe_tup (pa_cons pe_int (pa_cons pe_int pa_nil))))
      (pss_cons (ps_for PassesOwn.never rfl (pi_list (pv 0)) (pg_name (i := 2) sc_lsum.nd rfl (.inl rfl))
        (pss_one (ps_set (i := 1) sc_lsum.nd rfl (.inl rfl) (pe_call G hr (by rfl) mgG kp b .nil pass0 (pa_cons (pv 1) (pa_cons (pv 2) pa_nil))))))
      (pss_one (ps_ret (pv 1)))), ?_⟩
    refine ⟨by show 2 ≤ sizeLine; decide, fun z hz => ?_⟩
    have s1 : Same H (upd H z (.tup (rv 0))) := same_upd hz
    refine ⟨_, rfl, a, rfl, ⟨_, s1.seq ha⟩, for_list (K := K) (a := a) (xs := us) (fun i σ H' => Same H H' ∧ ∃ v x, σ = [some (.ref a), some v, x] ∧ RT K H' v ((qs.take i).foldl (· + ·) 0)) ⟨s1, .ref z, none, rfl, z, rfl, SqT.of upd_same⟩ (fun i σ H' _ h => ?_) (fun i x σ H' hx h => ?_) (fun σ H' h => ?_)⟩
    · exact h.1.seq ha
    · obtain ⟨sm, v, x0, rfl, hv⟩ := h
      obtain ⟨q, hq⟩ := at_or hR.len hx
      refine ⟨_, rfl, _, rfl, v, x, _, q, rfl, hv, (hR.pl i x q hx hq).same sm, (fold_sm (qs.take i) 0 1 (fun q hq => hs q (List.mem_of_mem_take hq)) sm_zero).up ?_, (hs q (List.mem_of_getElem? hq)).up (by decide), trivial, fun p hp => ⟨sm.trans (same_upd hp), _, _, rfl, ?_⟩⟩
      · rw [List.length_take]
        omega
      · rw [take_fold hq]
        exact RT.new
    · obtain ⟨sm, v, x0, rfl, hv⟩ := h
      rw [hR.len, List.take_length] at hv
      exact ⟨_, rfl, Z H' v sm hv⟩
theorem ok_cost_of {f g t z : Addr} {fd gd td : FuncData} {k : Nat} (F : Fun K "cost_of" "cost_of" s_cost_of f fd) (G : FnOk P w K mg base CX0 k g gd ["one", "other"] (spPlus K)) (mgG : mg "plus" = some (.ref g)) (kp : PySem.W.keepIn K (.ref g) = true) (b : Binds K gd ["one", "other"] [])
    (T : FnOk P w K mg base CX0 k t td ["one", "other"] (spTimes K)) (mgT : mg "times" = some (.ref t)) (kpT : PySem.W.keepIn K (.ref t) = true) (bT : Binds K td ["one", "other"] [])
    (mz : mg "ZERO" = some (.ref z)) (hz : ∀ H, SqT K H z (rv 0)) : FnOk P w K mg base CX0 (k + 1) f fd ["chances", "costs", "order"] (spCost K) := by
  refine F.ok sc_cost_of (fun vs H Q E h => ?_) (fun cdv A outer s H vs Q E hr h => ?_)
  · obtain ⟨a, d, o, us, ws, ps, cs, l, rfl, _⟩ := h
    rfl
  · obtain ⟨a, d, o, us, ws, ps, cs, l, rfl, ha, hRp, hd, hRc, ho, hl, hlt, zp, zc, Z⟩ := h
    rcases ho with ho | ho
    · refine ⟨_, pss_cons (ps_par (i := 3) (j := 4) rfl sc_cost_of.nd rfl rfl (by decide) rfl rfl (pa_cons (pe_glob (v := .ref z) (by rfl) mz rfl) (pa_cons (pe_glob (v := .ref z) (by rfl) mz rfl) pa_nil)) (by rfl))
        (pss_cons (ps_for PassesOwn.never rfl (pi_list (pv 2)) (pg_name (i := 5) sc_cost_of.nd rfl (.inl rfl))
          (pss_cons (ps_set (i := 3) sc_cost_of.nd rfl (.inl rfl) (pe_call G hr (by rfl) mgG kp b .nil pass0 (pa_cons (pv 3) (pa_cons (pe_ix ix_tup (pv 1) (pv 5) (fun _ _ => rfl)) pa_nil))))
          (pss_one (ps_set (i := 4) sc_cost_of.nd rfl (.inl rfl) (pe_call G hr (by rfl) mgG kp b .nil pass0 (pa_cons (pv 4) (pa_cons (pe_call T hr (by rfl) mgT kpT bT .nil pass0 (pa_cons (pe_ix ix_tup (pv 0) (pv 5) (fun _ _ => rfl)) (pa_cons (pv 3) pa_nil))) pa_nil)))))))
        (pss_one (ps_ret (pv 4)))), ?_⟩
      refine ⟨_, _, rfl, _, rfl, o, rfl, ⟨_, ho⟩, for_list (K := K) (a := o) (xs := l.map nv) (fun i σ H' => Same H H' ∧ ∃ vs vf x, σ = [some (.ref a), some (.ref d), some (.ref o), some vs, some vf, x] ∧ ∃ qs qf, RT K H' vs qs ∧ RT K H' vf qf ∧ Sm (12 * i + 1) qs ∧ Sm (150 * i + 1) qf ∧ qs = sumC (fn cs) (l.take i) ∧ qf = costF (fn ps) (fn cs) 0 (l.take i))
        ⟨Same.refl H, .ref z, .ref z, none, rfl, 0, 0, ⟨z, rfl, hz H⟩, ⟨z, rfl, hz H⟩, sm_zero, sm_zero, rfl, rfl⟩ (fun i σ H' _ h => ?_) (fun i x σ H' hx h => ?_) (fun σ H' h => ?_)⟩
      · exact h.1.seq ho
      · obtain ⟨sm, vs, vf, x0, rfl, qs, qf, hqs, hqf, zs, zf, es, ef⟩ := h
        obtain ⟨kk, hk, hkl, rfl⟩ := nv_at hx
        obtain ⟨hk1, hk2⟩ := hlt kk (List.mem_of_getElem? hk)
        have hil : i < l.length := (List.getElem?_eq_some_iff.mp hk).1
        obtain ⟨vp, gp, hvp⟩ := hRp.nth hk1
        obtain ⟨vc, gc, hvc⟩ := hRc.nth hk2
        have z1 : Sm 10 (fn cs kk) := fn_all zc hk2
        have z2 : Sm 10 (fn ps kk) := fn_all zp hk1
        have z3 : Sm (12 * (i + 1) + 1) (qs + fn cs kk) := (zs.add z1).up (by omega)
        have z4 := z2.mul z3
        refine ⟨_, rfl, _, rfl, _, rfl, d, ws, _, vc, rfl, rfl, same_seqT sm hd, atI_nat gc, vs, vc, qs, _, rfl, hqs, hvc.same sm, zs.up (by omega), z1.up (by decide), trivial, fun p hp => ?_⟩
        have s1 := sm.trans (same_upd (o := .tup (rv (qs + fn cs kk))) hp)
        refine ⟨_, rfl, _, rfl, _, rfl, a, us, _, vp, rfl, rfl, same_seqT s1 ha, atI_nat gp, _, rfl, vp, .ref p, _, _, rfl, hvp.same s1, RT.new, z2.up (by decide), z3.up (by omega), trivial, fun p2 hp2 => ?_⟩
        have s2 := s1.trans (same_upd (o := .tup (rv (fn ps kk * (qs + fn cs kk)))) hp2)
        refine ⟨vf, .ref p2, qf, _, rfl, (hqf.same (same_upd hp)).same (same_upd hp2), RT.new, zf.up (by omega), z4.up (by omega), trivial, fun p3 hp3 => ?_⟩
        refine ⟨s2.trans (same_upd hp3), .ref p, .ref p3, _, rfl, _, _, (RT.new.same (same_upd hp2)).same (same_upd hp3), RT.new, z3, (zf.add z4).up (by omega), ?_, ?_⟩
        · rw [List.take_add_one, hk, es]
          exact (sumC_snoc _ _).symm
        · rw [List.take_add_one, hk, ef, es]
          show _ = costF (fn ps) (fn cs) 0 (l.take i ++ [kk])
          rw [costF_snoc, Rat.zero_add]
      · obtain ⟨sm, vs, vf, x0, rfl, qs, qf, hqs, hqf, zs, zf, es, ef⟩ := h
        rw [List.length_map, List.take_length] at ef
        subst ef
        exact ⟨_, rfl, Z H' vf sm hqf⟩
    · refine ⟨_, pss_cons (ps_par (i := 3) (j := 4) rfl sc_cost_of.nd rfl rfl (by decide) rfl rfl (pa_cons (pe_glob (v := .ref z) (by rfl) mz rfl) (pa_cons (pe_glob (v := .ref z) (by rfl) mz rfl) pa_nil)) (by rfl))
        (pss_cons (ps_for PassesOwn.never rfl (pi_tup (pv 2)) (pg_name (i := 5) sc_cost_of.nd rfl (.inl rfl))
          (pss_cons (ps_set (i := 3) sc_cost_of.nd rfl (.inl rfl) (pe_call G hr (by rfl) mgG kp b .nil pass0 (pa_cons (pv 3) (pa_cons (pe_ix ix_tup (pv 1) (pv 5) (fun _ _ => rfl)) pa_nil))))
          (pss_one (ps_set (i := 4) sc_cost_of.nd rfl (.inl rfl) (pe_call G hr (by rfl) mgG kp b .nil pass0 (pa_cons (pv 4) (pa_cons (pe_call T hr (by rfl) mgT kpT bT .nil pass0 (pa_cons (pe_ix ix_tup (pv 0) (pv 5) (fun _ _ => rfl)) (pa_cons (pv 3) pa_nil))) pa_nil)))))))
        (pss_one (ps_ret (pv 4)))), ?_⟩
      refine ⟨_, _, rfl, _, rfl, o, rfl, ⟨_, ho⟩, for_tup (K := K) (a := o) (xs := l.map nv) (fun i σ H' => Same H H' ∧ ∃ vs vf x, σ = [some (.ref a), some (.ref d), some (.ref o), some vs, some vf, x] ∧ ∃ qs qf, RT K H' vs qs ∧ RT K H' vf qf ∧ Sm (12 * i + 1) qs ∧ Sm (150 * i + 1) qf ∧ qs = sumC (fn cs) (l.take i) ∧ qf = costF (fn ps) (fn cs) 0 (l.take i))
        ⟨Same.refl H, .ref z, .ref z, none, rfl, 0, 0, ⟨z, rfl, hz H⟩, ⟨z, rfl, hz H⟩, sm_zero, sm_zero, rfl, rfl⟩ (fun i σ H' _ h => ?_) (fun i x σ H' hx h => ?_) (fun σ H' h => ?_)⟩
      · exact same_seqT h.1 ho
      · obtain ⟨sm, vs, vf, x0, rfl, qs, qf, hqs, hqf, zs, zf, es, ef⟩ := h
        obtain ⟨kk, hk, hkl, rfl⟩ := nv_at hx
        obtain ⟨hk1, hk2⟩ := hlt kk (List.mem_of_getElem? hk)
        have hil : i < l.length := (List.getElem?_eq_some_iff.mp hk).1
        obtain ⟨vp, gp, hvp⟩ := hRp.nth hk1
        obtain ⟨vc, gc, hvc⟩ := hRc.nth hk2
        have z1 : Sm 10 (fn cs kk) := fn_all zc hk2
        have z2 : Sm 10 (fn ps kk) := fn_all zp hk1
        have z3 : Sm (12 * (i + 1) + 1) (qs + fn cs kk) := (zs.add z1).up (by omega)
        have z4 := z2.mul z3
        refine ⟨_, rfl, _, rfl, _, rfl, d, ws, _, vc, rfl, rfl, same_seqT sm hd, atI_nat gc, vs, vc, qs, _, rfl, hqs, hvc.same sm, zs.up (by omega), z1.up (by decide), trivial, fun p hp => ?_⟩
        have s1 := sm.trans (same_upd (o := .tup (rv (qs + fn cs kk))) hp)
        refine ⟨_, rfl, _, rfl, _, rfl, a, us, _, vp, rfl, rfl, same_seqT s1 ha, atI_nat gp, _, rfl, vp, .ref p, _, _, rfl, hvp.same s1, RT.new, z2.up (by decide), z3.up (by omega), trivial, fun p2 hp2 => ?_⟩
        have s2 := s1.trans (same_upd (o := .tup (rv (fn ps kk * (qs + fn cs kk)))) hp2)
        refine ⟨vf, .ref p2, qf, _, rfl, (hqf.same (same_upd hp)).same (same_upd hp2), RT.new, zf.up (by omega), z4.up (by omega), trivial, fun p3 hp3 => ?_⟩
        refine ⟨s2.trans (same_upd hp3), .ref p, .ref p3, _, rfl, _, _, (RT.new.same (same_upd hp2)).same (same_upd hp3), RT.new, z3, (zf.add z4).up (by omega), ?_, ?_⟩
        · rw [List.take_add_one, hk, es]
          exact (sumC_snoc _ _).symm
        · rw [List.take_add_one, hk, ef, es]
          show _ = costF (fn ps) (fn cs) 0 (l.take i ++ [kk])
          rw [costF_snoc, Rat.zero_add]
      · obtain ⟨sm, vs, vf, x0, rfl, qs, qf, hqs, hqf, zs, zf, es, ef⟩ := h
        rw [List.length_map, List.take_length] at ef
        subst ef
        exact ⟨_, rfl, Z H' vf sm hqf⟩
theorem ok_comes_before {f g t : Addr} {fd gd td : FuncData} {k : Nat} (F : Fun K "comes_before" "comes_before" s_comes_before f fd) (G : FnOk P w K mg base CX0 k g gd ["one", "other"] (spLess K)) (mgG : mg "is_below" = some (.ref g)) (kp : PySem.W.keepIn K (.ref g) = true) (b : Binds K gd ["one", "other"] [])
    (T : FnOk P w K mg base CX0 k t td ["one", "other"] (spTimes K)) (mgT : mg "times" = some (.ref t)) (kpT : PySem.W.keepIn K (.ref t) = true) (bT : Binds K td ["one", "other"] []) :
    FnOk P w K mg base CX0 (k + 1) f fd ["chances", "costs", "i", "j"] (spBefore K) := by
  refine F.ok sc_comes_before (fun vs H Q E h => ?_) (fun cdv A outer s H vs Q E hr h => ?_)
  · obtain ⟨a, d, us, ws, ps, cs, i, j, rfl, _⟩ := h
    rfl
  · obtain ⟨a, d, us, ws, ps, cs, i, j, rfl, ha, hRp, hd, hRc, i1, j1, i2, j2, zp, zc, Z⟩ := h
    refine ⟨_, pss_one (ps_ret (pe_call G hr (by rfl) mgG kp b .nil pass0 (pa_cons (pe_call T hr (by rfl) mgT kpT bT .nil pass0 (pa_cons (pe_ix ix_tup (pv 0) (pv 3) (fun _ _ => rfl)) (pa_cons (pe_ix ix_tup (pv 1) (pv 2) (fun _ _ => rfl)) pa_nil))) (pa_cons (pe_call T hr (by rfl) mgT kpT bT .nil pass0 (pa_cons (pe_ix ix_tup (pv 0) (pv 2) (fun _ _ => rfl)) (pa_cons (pe_ix ix_tup (pv 1) (pv 3) (fun _ _ => rfl)) pa_nil))) pa_nil)))), ?_⟩
    obtain ⟨vpi, gpi, hpi⟩ := hRp.nth i1
    obtain ⟨vpj, gpj, hpj⟩ := hRp.nth j1
    obtain ⟨vci, gci, hci⟩ := hRc.nth i2
    obtain ⟨vcj, gcj, hcj⟩ := hRc.nth j2
    have y1 : Sm 10 (fn ps i) := fn_all zp i1
    have y2 : Sm 10 (fn ps j) := fn_all zp j1
    have y3 : Sm 10 (fn cs i) := fn_all zc i2
    have y4 : Sm 10 (fn cs j) := fn_all zc j2
    refine ⟨_, rfl, _, rfl, a, us, _, vpj, rfl, rfl, ha, atI_nat gpj, _, rfl, _, rfl, d, ws, _, vci, rfl, rfl, hd, atI_nat gci, vpj, vci, _, _, rfl, hpj, hci, y2.up (by decide), y3.up (by decide), trivial, fun p hp => ?_⟩
    have s1 := same_upd (o := .tup (rv (fn ps j * fn cs i))) hp
    refine ⟨_, rfl, _, rfl, a, us, _, vpi, rfl, rfl, same_seqT s1 ha, atI_nat gpi, _, rfl, _, rfl, d, ws, _, vcj, rfl, rfl, same_seqT s1 hd, atI_nat gcj, vpi, vcj, _, _, rfl, hpi.same s1, hcj.same s1, y1.up (by decide), y4.up (by decide), trivial, fun p2 hp2 => ?_⟩
    exact ⟨.ref p, .ref p2, _, _, rfl, RT.new.same (same_upd hp2), RT.new, (y2.mul y3).up (by decide), (y1.mul y4).up (by decide), Z _ (s1.trans (same_upd hp2))⟩
end
end K96

/-! what is checked ahead of a search -/
namespace K96
open PySem PySem.Spec PyProof.Rows L2
theorem tyx_tup {K : PySem.W.Frag} {H : Hp} {a : Addr} {xs : List V} (h : SqT K H a xs) : TyX K H (.ref a) (.type "tuple") := by
  rcases h with (h | ⟨o, h⟩) | ⟨o, its, n, hk, hc, _⟩
  · exact .base (.tup h)
  · exact .fTuple h
  · exact .kTuple hk hc
theorem tyx_list {K : PySem.W.Frag} {H : Hp} {a : Addr} {xs : List V} (h : SqL K H a xs) : TyX K H (.ref a) (.type "list") := by
  rcases h with (h | ⟨o, h⟩) | ⟨o, its, n, hk, hc, _⟩
  · exact .base (.lst h)
  · exact .base (.frz h)
  · exact .kList hk hc
theorem dT {p : Prop} [Decidable p] (h : p) : V.bl (decide p) = V.bl true := by
  rw [decide_eq_true h]
def spIn : Sp := fun vs H Q _ => ∃ i lo hi : Int, vs = [.int i, .int lo, .int hi] ∧ lo ≤ i ∧ i ≤ hi ∧ Q (.bl true) H
def spIsRatio (K : PySem.W.Frag) : Sp := fun vs H Q _ => ∃ (v : V) (q : Rat), vs = [v] ∧ RT K H v q ∧ Q (.bl true) H
def spPos (K : PySem.W.Frag) : Sp := fun vs H Q _ => ∃ (a : Addr) (us : List V) (qs : List Rat) (lo hi : Int), vs = [.ref a, .int lo, .int hi] ∧ SqT K H a us ∧ RTs K H us qs ∧ lo ≤ (us.length : Int) ∧ (us.length : Int) ≤ hi ∧ (∀ q ∈ qs, 0 < q) ∧ ∀ H', Same H H' → Q (.bl true) H'
/-- chances and costs in order: nothing is raised, nothing is changed -/
structure Srch (K : PySem.W.Frag) (H : Hp) (a b : Addr) (us ws : List V) (ps cs : List Rat) : Prop where
  ha : SqT K H a us
  rp : RTs K H us ps
  hb : SqT K H b ws
  rc : RTs K H ws cs
  n0 : 1 ≤ ps.length
  n7 : ps.length ≤ 7
  nc : cs.length = ps.length
  zp : ∀ q ∈ ps, Sm 10 q
  zc : ∀ q ∈ cs, Sm 10 q
  pp : ∀ q ∈ ps, 0 < q
  pc : ∀ q ∈ cs, 0 < q
  one : ps.foldl (· + ·) 0 = 1
theorem Srch.same {K : PySem.W.Frag} {H H' : Hp} {a b : Addr} {us ws : List V} {ps cs : List Rat} (e : Same H H') (h : Srch K H a b us ws ps cs) : Srch K H' a b us ws ps cs :=
  ⟨same_seqT e h.ha, h.rp.same e, same_seqT e h.hb, h.rc.same e, h.n0, h.n7, h.nc, h.zp, h.zc, h.pp, h.pc, h.one⟩
def spNeed (K : PySem.W.Frag) : Sp := fun vs H Q _ => ∃ (a b : Addr) (us ws : List V) (ps cs : List Rat), vs = [.ref a, .ref b] ∧ Srch K H a b us ws ps cs ∧ ∀ H', Same H H' → Q .non H'
theorem shaped_rv (q : Rat) : SeqAt.shaped (.tuple [.int q.num, .int (q.den : Int)]) = true := rfl
theorem RT.dp {K : PySem.W.Frag} {H : Hp} {v : V} {q : Rat} (h : RT K H v q) : Dp K H v (.tuple [.int q.num, .int (q.den : Int)]) := by
  obtain ⟨a, rfl, h⟩ := h
  exact .tup h (.cons (.int _) (.cons (.int _) .nil))
theorem eqv_rv (p q : Rat) : PyData.eqv (.tuple [.int p.num, .int (p.den : Int)]) (.tuple [.int q.num, .int (q.den : Int)]) = decide (p = q) := by
  have e : decide (p = q) = (decide (p.num = q.num) && decide ((p.den : Int) = q.den)) := by
    rw [← Bool.decide_and, decide_eq_decide]
    exact rat_eq_iff
  rw [e]
  simp only [PyData.eqv, PyData.eqvAll, Bool.and_true]
  rfl
theorem rv_at {q : Rat} {i : Nat} {x : V} (h : (rv q)[i]? = some x) : ∃ j, x = .int j := by
  have hm : x ∈ rv q := List.mem_of_getElem? h
  rcases List.mem_cons.mp hm with e | e
  · exact ⟨_, e⟩
  · exact ⟨_, List.mem_singleton.mp e⟩
section
variable {P : Program} {w : World} {K : PySem.W.Frag} {mg : Str → Option Value} {base : Heap}
theorem ok_is_in {f : Addr} {fd : FuncData} {k : Nat} (F : Fun K "is_in" "is_in" s_is_in f fd) (ms : mg "isinstance" = none) (mi : mg "int" = none) (mb : mg "bool" = none) : FnOk P w K mg base CX0 (k + 1) f fd ["value", "least", "most"] spIn := by
  refine F.ok sc_is_in (fun vs H Q E h => ?_) (fun cdv A outer s H vs Q E hr h => ?_)
  · obtain ⟨i, lo, hi, rfl, _⟩ := h
    rfl
  · obtain ⟨i, lo, hi, rfl, h1, h2, Z⟩ := h
    refine ⟨_, pss_one (ps_ret (pe_and (pe_callB call_isi (by rfl) ms boot_isinstance (pa_cons (pv 0) (pa_cons (pe_bltn (v := .ty "int") (by rfl) mi boot_int rfl) pa_nil)))
      (pe_and (pe_not (pe_callB call_isi (by rfl) ms boot_isinstance (pa_cons (pv 0) (pa_cons (pe_bltn (v := .ty "bool") (by rfl) mb boot_bool rfl) pa_nil))))
        (pe_one (pe_chain op_le op_le (pv 1) (pv 0) (pv 2)))))), ?_⟩
    refine ⟨_, rfl, _, _, _, _, true, rfl, .ty _, .base (.int _), kit_ty (by decide +kernel), true, rfl, iteT ?_⟩
    refine ⟨_, rfl, _, _, _, _, false, rfl, .ty _, .base (.int _), kit_ty (by decide +kernel), false, rfl, true, rfl, iteT ?_⟩
    refine ⟨_, rfl, _, rfl, lo, i, rfl, rfl, true, dT h1, iteT ⟨_, rfl, i, hi, rfl, rfl, ?_⟩⟩
    show Q (.bl (decide (i ≤ hi))) H
    rw [decide_eq_true h2]
    exact Z
theorem ok_is_ratio {f g : Addr} {fd gd : FuncData} {k : Nat} (F : Fun K "is_ratio" "is_ratio" s_is_ratio f fd) (ms : mg "isinstance" = none) (mi : mg "int" = none) (mb : mg "bool" = none) (mt : mg "tuple" = none) (ml : mg "len" = none)
    (G : FnOk P w K mg base CX0 k g gd ["one", "other"] spGcd) (mgG : mg "gcd" = some (.ref g)) (kp : PySem.W.keepIn K (.ref g) = true) (b : Binds K gd ["one", "other"] []) : FnOk P w K mg base CX0 (k + 1) f fd ["value"] (spIsRatio K) := by
  refine F.ok sc_is_ratio (fun vs H Q E h => ?_) (fun cdv A outer s H vs Q E hr h => ?_)
  · obtain ⟨v, q, rfl, _⟩ := h
    rfl
  · obtain ⟨v, q, rfl, ⟨a, rfl, ha⟩, Z⟩ := h
    refine ⟨_, pss_cons (ps_if (PW.pt (pw_or (pt_not (pt_val (pe_callB call_isi (by rfl) ms boot_isinstance (pa_cons (pv 0) (pa_cons (pe_bltn (v := .ty "tuple") (by rfl) mt boot_tuple rfl) pa_nil)))))
        (pw_or1 (pt_cmpR op_ne (pe_callB call_len_seq (by rfl) ml PySem.boot_len (pa_cons (pv 0) pa_nil)) pe_int (nomark _))))) pss_never pss_nil)
      (pss_cons (ps_for PassesOwn.never rfl (pi_tup (pv 0)) (pg_name (i := 1) sc_is_ratio.nd rfl (.inl rfl))
        (pss_one (ps_if (PW.pt (pw_or (pt_not (pt_val (pe_callB call_isi (by rfl) ms boot_isinstance (pa_cons (pv 1) (pa_cons (pe_bltn (v := .ty "int") (by rfl) mi boot_int rfl) pa_nil)))))
          (pw_or1 (pt_val (pe_callB call_isi (by rfl) ms boot_isinstance (pa_cons (pv 1) (pa_cons (pe_bltn (v := .ty "bool") (by rfl) mb boot_bool rfl) pa_nil))))))) pss_never pss_nil)))
      (pss_one (ps_ret (pe_and (pe_cmpR op_gt (pe_ix ix_tup (pv 0) pe_int (fun _ _ => rfl)) pe_int (nomark _))
        (pe_one (pe_cmpR op_eq (pe_call G hr (by rfl) mgG kp b .nil pass0 (pa_cons (pe_ix ix_tup (pv 0) pe_int (fun _ _ => rfl)) (pa_cons (pe_ix ix_tup (pv 0) pe_int (fun _ _ => rfl)) pa_nil))) pe_int (nomark _))))))), ?_⟩
    refine ⟨_, rfl, _, _, _, _, true, rfl, .ty _, tyx_tup ha, kit_ty (by decide +kernel), true, rfl, iteF ?_⟩
    refine ⟨_, rfl, a, _, rfl, .inr ha, rfl, false, rfl, iteF ?_⟩
    refine ⟨_, rfl, a, rfl, ⟨_, ha⟩, for_tup (K := K) (a := a) (xs := rv q) (fun i σ H' => H' = H ∧ ∃ x, σ = [some (.ref a), x]) ⟨rfl, none, rfl⟩ (fun i σ H' _ h => ?_) (fun i x σ H' hx h => ?_) (fun σ H' h => ?_)⟩
    · obtain ⟨rfl, _⟩ := h
      exact ha
    · obtain ⟨rfl, x0, rfl⟩ := h
      obtain ⟨j, rfl⟩ := rv_at hx
      refine ⟨_, rfl, _, _, _, _, true, rfl, .ty _, .base (.int _), kit_ty (by decide +kernel), true, rfl, iteF ?_⟩
      exact ⟨_, rfl, _, _, _, _, false, rfl, .ty _, .base (.int _), kit_ty (by decide +kernel), false, rfl, iteF ⟨rfl, _, rfl⟩⟩
    · obtain ⟨rfl, x0, rfl⟩ := h
      refine ⟨_, rfl, a, _, 1, _, rfl, rfl, ha, rfl, _, _, rfl, rfl, true, ?_, iteT ?_⟩
      · exact dT (show (0 : Int) < (q.den : Int) by have := q.den_pos; omega)
      · refine ⟨_, rfl, a, _, 0, _, rfl, rfl, ha, rfl, _, rfl, a, _, 1, _, rfl, rfl, ha, rfl, q.num, (q.den : Int), rfl, rfl, ?_⟩
        rw [Int.natAbs_natCast, mk_coprime]
        exact Z
end
end K96

/-! all are positive; the check of chances and costs -/
namespace K96
open PySem PySem.Spec PyProof.Rows L2
theorem eqv_nil : PyData.eqv (.list []) (.list []) = true := rfl
section
variable {P : Program} {w : World} {K : PySem.W.Frag} {mg : Str → Option Value} {base : Heap}
theorem ok_are_positive {f g : Addr} {fd gd : FuncData} {k : Nat} (F : Fun K "are_positive" "are_positive" s_are_positive f fd) (ms : mg "isinstance" = none) (mt : mg "tuple" = none) (ml : mg "len" = none)
    (G : FnOk P w K mg base CX0 k g gd ["value"] (spIsRatio K)) (mgG : mg "is_ratio" = some (.ref g)) (kp : PySem.W.keepIn K (.ref g) = true) (b : Binds K gd ["value"] []) : FnOk P w K mg base CX0 (k + 1) f fd ["value", "least", "most"] (spPos K) := by
  refine F.ok sc_are_positive (fun vs H Q E h => ?_) (fun cdv A outer s H vs Q E hr h => ?_)
  · obtain ⟨a, us, qs, lo, hi, rfl, _⟩ := h
    rfl
  · obtain ⟨a, us, qs, lo, hi, rfl, ha, hR, h1, h2, hp, Z⟩ := h
    refine ⟨_, pss_cons (ps_if (PW.pt (pw_or (pt_not (pt_val (pe_callB call_isi (by rfl) ms boot_isinstance (pa_cons (pv 0) (pa_cons (pe_bltn (v := .ty "tuple") (by rfl) mt boot_tuple rfl) pa_nil)))))
        (pw_or1 (pt_not (pt_chain op_le op_le (pv 1) (pe_callB call_len_seq (by rfl) ml PySem.boot_len (pa_cons (pv 0) pa_nil)) (pv 2)))))) pss_never pss_nil)
      (pss_one (ps_ret (pe_cmpR (op_eqD hr.units)
        (pe_lc (own := [("one", 3)]) (g := gName 3) (by rfl) sc_are_positive.nd (pi_tup (pv 0)) (blkOk_by (own := [("one", 3)]) (N := ["value", "least", "most", "one"]) (sc := defScope s_are_positive) (by decide +kernel)) (fun _ _ _ _ _ => pg_name (i := 3) sc_are_positive.nd rfl (Or.inl rfl))
          (fun _ _ _ _ _ => pts_one (PW.pt (pw_or (pt_not (pt_val (pe_call G hr (by rfl) mgG kp b .nil pass0 (pa_cons (pv 3) pa_nil)))) (pw_or1 (pt_cmpR op_lt (pe_ix (r := rIxT K) ix_tup (pv 3) pe_int (fun _ _ => rfl)) pe_int (nomark _))))))
          (fun _ _ _ _ _ => pv 3))
        (pe_lst pa_nil) (nomark _)))), ?_⟩
    refine ⟨_, rfl, _, _, _, _, true, rfl, .ty _, tyx_tup ha, kit_ty (by decide +kernel), true, rfl, iteF ?_⟩
    refine ⟨_, rfl, _, rfl, a, _, rfl, .inr ha, lo, (us.length : Int), rfl, rfl, true, dT h1, iteT ⟨_, rfl, (us.length : Int), hi, rfl, rfl, true, dT h2, iteF ?_⟩⟩
    refine ⟨_, rfl, a, rfl, ⟨_, ha⟩, fun D hD => lc_tup (K := K) (a := a) (xs := us) (fun i H' => Same H H' ∧ H' D = some (.lst [])) ⟨same_upd hD, upd_same⟩ (fun i H' _ h => same_seqT h.1 ha) (fun i x H' hx h => ?_) (fun H' h => ?_)⟩
    · obtain ⟨q, hq⟩ := at_or hR.len hx
      have hv := (hR.pl i x q hx hq).same h.1
      have hpos := num_pos (hp q (List.mem_of_getElem? hq))
      obtain ⟨c, rfl, hc⟩ := hv
      refine ⟨rfl, _, rfl, .ref c, q, rfl, ⟨c, rfl, hc⟩, true, rfl, iteF ?_⟩
      refine ⟨_, rfl, c, _, 0, _, rfl, rfl, hc, rfl, q.num, 1, rfl, rfl, false, ?_, iteF h⟩
      show V.bl (decide (q.num < 1)) = V.bl false
      rw [decide_eq_false (by omega)]
    · refine ⟨Nat.zero_le _, fun p hp => ?_⟩
      refine ⟨_, _, .lst (SqL.of (by rw [upd_ne (ne_of_none h.2 hp)]; exact h.2)) .nil, .lst (SqL.of upd_same) .nil, rfl, rfl, ?_⟩
      exact Z _ (h.1.trans (same_upd hp))
theorem ok_need_search {f g t z : Addr} {fd gd td : FuncData} {k : Nat} {tk : Tok} (F : Fun K "need_search" "need_search" s_need_search f fd) (ml : mg "len" = none) (mM : mg "MOST_SEARCHED" = some (.int 7 tk)) (mo : mg "ONE" = some (.ref z)) (hz : ∀ H, SqT K H z (rv 1))
    (G : FnOk P w K mg base CX0 k g gd ["value", "least", "most"] (spPos K)) (mgG : mg "are_positive" = some (.ref g)) (kp : PySem.W.keepIn K (.ref g) = true) (b : Binds K gd ["value", "least", "most"] [])
    (T : FnOk P w K mg base CX0 k t td ["values"] (spTotal K)) (mgT : mg "total_of" = some (.ref t)) (kpT : PySem.W.keepIn K (.ref t) = true) (bT : Binds K td ["values"] []) : FnOk P w K mg base CX0 (k + 1) f fd ["chances", "costs"] (spNeed K) := by
  refine F.ok sc_need_search (fun vs H Q E h => ?_) (fun cdv A outer s H vs Q E hr h => ?_)
  · obtain ⟨a, d, us, ws, ps, cs, rfl, _⟩ := h
    rfl
  · obtain ⟨a, d, us, ws, ps, cs, rfl, S, Z⟩ := h
    refine ⟨_, pss_cons (ps_if (PW.pt (pw_or (pt_not (pt_val (pe_call G hr (by rfl) mgG kp b .nil pass0 (pa_cons (pv 0) (pa_cons pe_int (pa_cons (pe_glob (v := .int 7) (by rfl) mM ⟨_, rfl⟩) pa_nil))))))
        (pw_or1 (pt_cmpR (op_neD hr.units) (pe_call T hr (by rfl) mgT kpT bT .nil pass0 (pa_cons (pv 0) pa_nil)) (pe_glob (v := .ref z) (by rfl) mo rfl) (nomark _))))) pss_never pss_nil)
      (pss_one (ps_if (pt_not (pt_val (pe_call G hr (by rfl) mgG kp b .nil pass0 (pa_cons (pv 1) (pa_cons (pe_callB call_len_seq (by rfl) ml PySem.boot_len (pa_cons (pv 0) pa_nil)) (pa_cons (pe_callB call_len_seq (by rfl) ml PySem.boot_len (pa_cons (pv 0) pa_nil)) pa_nil)))))) pss_never pss_nil)), ?_⟩
    have hlu : us.length = ps.length := S.rp.len
    have hlw : ws.length = cs.length := S.rc.len
    have h0 := S.n0
    have h7 := S.n7
    have hn := S.nc
    refine ⟨_, rfl, a, us, ps, 1, 7, rfl, S.ha, S.rp, by omega, by omega, S.pp, fun H1 s1 => ⟨true, rfl, iteF ?_⟩⟩
    have S1 := S.same s1
    refine ⟨_, rfl, a, us, ps, rfl, S1.ha, S1.rp, by omega, fun q hq => (S.zp q hq).up (by decide), fun H2 v s2 hv => ?_⟩
    rw [S.one] at hv
    refine ⟨_, _, hv.dp, RT.dp ⟨z, rfl, hz H2⟩, shaped_rv _, shaped_rv _, false, rfl, iteF ?_⟩
    have S2 := S1.same s2
    refine ⟨_, rfl, _, rfl, a, _, rfl, .inr S2.ha, _, rfl, a, _, rfl, .inr S2.ha, d, ws, cs, _, _, rfl, S2.hb, S2.rc, by omega, by omega, S.pc, fun H3 s3 => ⟨true, rfl, iteF ?_⟩⟩
    exact Z H3 ((s1.trans s2).trans s3)
end
end K96

/-! sorted(a tuple of ints), min(a list of alike data) -/
namespace K96
open PySem PySem.Spec PyProof.Rows L2
section
variable {prog : Program} {w : World} {A : Around} {E : Value → Shared → Prop} {s : Shared}
/-- the items of a tuple, taken into a list of their own -/
theorem gatherT {t : Addr} {us : List Value} {W : List Value → Shared → Prop} (ht : IsTup s.heap t us.toArray) (hz : us.length ≤ sizeLine)
    (hW : W us { s with heap := (s.heap.push (seqObj "list" #[] 0)).update s.heap.objs.size (Obj.mapSeq (· ++ us.toArray)) }) : wpAny (model prog w) A (collect (.ref t)) W E s := by
  obtain ⟨ob, e1, e2, n, e3⟩ := id ht
  have e4 : (s.heap.push (seqObj "list" #[] 0)).get? t = some ob := Heap.get?_push_of_some _ e1
  have e5 : (s.heap.push (seqObj "list" #[] 0)).get? s.heap.objs.size = some (seqObj "list" #[] 0) := Heap.get?_push_size _ rfl
  unfold collect
  refine wpAny_bind (wpAny_runValue (codeAny_builtin entry_proto_collect' ?_))
  show wpAny _ _ (do again (.builtin "list.__iadd__" ⟨[← newList [], .ref t], []⟩)) _ _ s
  refine wpAny_bind (wpAny_newList (wpAny_pure ⟨Code.quiet_builtin _ (by decide +kernel), codeAny_builtin entry_list_iadd' ?_⟩))
  show wpAny _ _ (Builtin.List.listExtendWith (.ref s.heap.objs.size) (.ref t) (.ref s.heap.objs.size)) _ _ { s with heap := s.heap.push (seqObj "list" #[] 0) }
  unfold Builtin.List.listExtendWith
  refine wpAny_bind (wpAny_typeOf (T := "tuple") ⟨ob, e4, e2⟩ ?_)
  have eT : (Value.type "tuple" == Value.type "tuple") = true := by rfl
  rw [if_pos (by rw [eT]; simp)]
  refine wpAny_bind (listItems_at e4 e3 (wpAny_bind (listItems_at (xs := #[]) (n := 0) e5 rfl ?_)))
  rw [if_neg (by simp)]
  have e6 : (#[] ++ us.toArray).size ≤ sizeLine + 1 := by
    simp only [Array.size_append, List.size_toArray, List.length_nil]
    omega
  refine wpAny_bind (listUpdate_at (xs := #[]) (n := 0) e5 rfl (wpAny_pure ?_) (Nat.zero_le _) e6)
  show wpAny (model prog w) A (load s.heap.objs.size >>= fun o => match o.data with
      | .seq xs _ => pure xs.toList
      | _ => unsupported "internal:collect") W E _
  refine wpAny_bind (wpAny_load (get?_update_seq e5 _) ?_)
  show wpAny _ _ (pure ((#[] : Array Value) ++ us.toArray).toList) W E _
  have e7 : ((#[] : Array Value) ++ us.toArray).toList = us := by simp
  rw [e7]
  exact wpAny_pure hW
theorem sortedT {t : Addr} {us : List Value} {ns : List Int} {W : Value → Shared → Prop} (ht : IsTup s.heap t us.toArray) (hz : us.length ≤ sizeLine) (hi : IntsAre us ns)
    (hW : ∀ out : List Value, IntsAre out (out.map SrtO.iv) → (out.map SrtO.iv).Perm ns → (out.map SrtO.iv).Pairwise (· ≤ ·) → W (.ref (s.heap.objs.size + 1)) { s with heap := sortedAll s.heap us out.toArray }) :
    wpAny (model prog w) A (call (.builtin "sorted") [.ref t]) W E s := by
  refine Calls.call_function_entry kind_sorted plain_sorted entry_sorted (args_sorted1 _) ?_
  unfold Builtin.«sorted»
  refine wpAny_bind (m := checkCount "sorted" 1 1 _) (wpAny_pure (wpAny_bind (gatherT ht hz (wpAny_bind (wpAny_newList ?_ hz)))))
  have hs : ((s.heap.push (seqObj "list" #[] 0)).update s.heap.objs.size (Obj.mapSeq (· ++ us.toArray))).objs.size = s.heap.objs.size + 1 := by rw [Heap.size_update, size_push']
  show wpAny _ _ _ _ _ { s with heap := PySem.W.copyHeap s.heap us }
  rw [hs]
  have ho := PySem.W.copyHeap_at s.heap us
  refine wpAny_bind (wpAny_holding (wpAny_call_entry PyProof.Rows.slot_list_sort ⟨_, ho, rfl⟩ PyProof.Rows.entry_list_sort (SrtO.list_sort_ord SrtO.swo_int ho hz (fun h2 => SrtO.ints_sortable hi h2) fun out h1 h2 => ⟨_, rfl, ?_⟩) (PyProof.Rows.args_list_sort _)))
  obtain ⟨k1, k2, k3⟩ := SrtO.ints_out hi h1 h2
  exact wpAny_pure ⟨_, rfl, hW out k1 k2 k3⟩
end
section
variable {X : Cx}
theorem cr_sortedTup : CallR X (.builtin "sorted") (fun vs H Q => ∃ (a : Addr) (ns : List Int), vs = [V.ref a] ∧ SqT X.K H a (ns.map V.int) ∧ ∀ (ns' : List Int) (p : Addr), ns'.Perm ns → ns'.Pairwise (· ≤ ·) → H p = none → Q (.ref p) (upd H p (.lst (ns'.map V.int)))) := by
  intro pins s σ H vs us Q I r h
  obtain ⟨a, ns, rfl, ha, q⟩ := h
  obtain ⟨its, rv, ht, hz⟩ := I.tuple ha
  rw [Vals.ref1 r]
  refine sortedT ht (by rw [← rv.length]; exact hz) rv.ints fun out k1 k2 k3 => ?_
  obtain ⟨ep, he⟩ := sortedAll_at s.heap its out.toArray
  have hn : ((out.map SrtO.iv).map V.int).length ≤ sizeLine := by
    rw [List.length_map] at hz ⊢
    rw [k2.length_eq]
    exact hz
  exact ⟨.ref _, _, I.laid (t' := s.toks) (fun _ _ => sortedAll_old) (Nat.le_succ _) (show ObjOk X.prog X.w _ _ _ (.lst _) from ⟨hn, out, ep, vals_of_ints k1, he⟩), rfl, q _ _ k2 k3 (I.hok.fresh (Nat.le_succ _))⟩
/-- tuples of ints -/
abbrev tD (l : List Int) : PyData := PySem.W.Datum.toD (α := PySem.W.Tup Int) ⟨l⟩
abbrev lstMin (x : List Int) (xs : List (List Int)) : List Int := xs.foldl (fun a y => if PySem.W.listLt (α := Int) y a = true then y else a) x
theorem minD_tups (x : List Int) : ∀ xs : List (List Int), PySem.W.minD (tD x) (xs.map tD) = tD (lstMin x xs) := fun xs => by
  have h := PySem.W.minD_map (α := PySem.W.Tup Int) ⟨x⟩ (xs.map fun l => ⟨l⟩)
  rw [List.map_map] at h
  have e : ∀ (ys : List (List Int)) (y : List Int), PySem.W.minOf (α := PySem.W.Tup Int) ⟨y⟩ (ys.map fun l => ⟨l⟩) = ⟨lstMin y ys⟩ := by
    intro ys
    induction ys with
    | nil => exact fun _ => rfl
    | cons z zs ih =>
      intro y
      show PySem.W.minOf (α := PySem.W.Tup Int) (if PySem.W.DatumOrd.lt (α := PySem.W.Tup Int) ⟨z⟩ ⟨y⟩ = true then ⟨z⟩ else ⟨y⟩) (zs.map fun l => ⟨l⟩) = ⟨lstMin (if PySem.W.listLt (α := Int) z y = true then z else y) zs⟩
      by_cases hb : PySem.W.listLt (α := Int) z y = true
      · have hb' : PySem.W.DatumOrd.lt (α := PySem.W.Tup Int) ⟨z⟩ ⟨y⟩ = true := hb
        rw [if_pos hb, if_pos hb']
        exact ih z
      · have hb' : ¬ PySem.W.DatumOrd.lt (α := PySem.W.Tup Int) ⟨z⟩ ⟨y⟩ = true := hb
        rw [if_neg hb, if_neg hb']
        exact ih y
  rw [e] at h
  exact h
theorem cr_minTups (hc : X.calm = true) (hu : X.A.units + 64 < cLine) : CallR X (.builtin "min") (fun vs H Q => ∃ (a : Addr) (us : List V) (x : List Int) (xs : List (List Int)), vs = [V.ref a] ∧ SqL X.K H a us ∧ DpAll X.K H us ((x :: xs).map tD) ∧
    ∀ (i : Nat) (v : V), us[i]? = some v → (x :: xs)[i]? = some (lstMin x xs) → Q v H) := by
  intro pins s σ H vs us Q I r h
  obtain ⟨a, ws, x, xs, rfl, ha, hd, q⟩ := h
  obtain ⟨its, rv, hl, hz⟩ := I.list ha
  rw [Vals.ref1 r]
  obtain ⟨as, hr⟩ := Dp.readsAll I _ _ its hd rv
  have hr' : ReadsAll s.heap its.toArray.toList (tD x :: xs.map tD) as := hr
  have hal : PySem.W.AlikeAll (tD x :: xs.map tD) := by
    have := PySem.W.alikeAll_datum (α := PySem.W.Tup Int) ((x :: xs).map fun l => ⟨l⟩)
    rw [List.map_map] at this
    exact this
  have hdp : PyData.depthAll (tD x :: xs.map tD) ≤ 2 := by
    have := PySem.W.depthAll_map (α := PySem.W.Tup Int) ((x :: xs).map fun l => ⟨l⟩)
    rw [List.map_map] at this
    exact Nat.le_trans this (by decide)
  have hsz : its.toArray.size = (xs.map tD).length + 1 := PySem.W.readsAll_len hr'
  refine PySem.call_min_walkH (PySem.W.iter_listW (A := X.A.in1) (I.ok.hd hc) hl.isList fun s₂ e W st hfp hw hk => ?_)
  refine ⟨_, _, _, _, _, _, _, s.heap, _, rfl, W, st, hfp, by omega, hw, hk, PySem.W.cmpIn_lt (A := X.A.in1) hr' hal (by show X.A.units + 1 + _ < _; omega), fun v s' hP m => ?_⟩
  obtain ⟨h', tk, rfl, hk'⟩ := PySem.W.moved_old e rfl m
  have e1 : its.toArray.size - 1 = (xs.map tD).length := by omega
  rw [e1] at hP
  have e2 := (PySem.W.argBest_fold PySem.W.dataLt PyData.none (tD x) (xs.map tD) (xs.map tD).length (Nat.le_refl _))
  rw [List.take_length] at e2
  have e3 := minD_tups x xs
  unfold PySem.W.minD at e3
  rw [e3] at e2
  generalize argBest (fun i j => PySem.W.dataLt ((tD x :: xs.map tD).getD i PyData.none) ((tD x :: xs.map tD).getD j PyData.none)) (xs.map tD).length = j at hP e2
  rw [List.getElem?_toArray] at hP
  have hw : ∃ y, ws[j]? = some y := by
    have h1 := (List.getElem?_eq_some_iff.mp hP).1
    rw [← rv.length] at h1
    exact ⟨_, List.getElem?_eq_getElem h1⟩
  obtain ⟨y, hy⟩ := hw
  obtain ⟨u, hu1, hu2⟩ := rv.get hy
  rw [hP] at hu1
  cases hu1
  refine ⟨y, H, I.kept hk', hu2, q j y hy ?_⟩
  have h4 := e2.2
  have h5 : j < (x :: xs).length := by
    have := e2.1
    rw [List.length_map] at this
    rw [List.length_cons]
    omega
  rw [List.getElem?_eq_getElem h5]
  have h6 : (tD x :: xs.map tD).getD j PyData.none = tD (x :: xs)[j] := by
    show ((x :: xs).map tD).getD j PyData.none = _
    rw [List.getD_eq_getElem?_getD, List.getElem?_map, List.getElem?_eq_getElem h5]
    rfl
  rw [h6] at h4
  have h7 : ∀ l m : List Int, tD l = tD m → l = m := fun l m hlm => by
    injection hlm with h8
    exact (List.map_inj_right (f := PyData.int) (fun a b hab => by injection hab)).mp h8
  rw [h7 _ _ h4]
end
end K96

/-! orders checked; search_cost; best_search -/
namespace K96
open PySem PySem.Spec PyProof.Rows L2
theorem map_nv (l : List Nat) : l.map nv = (l.map fun k : Nat => (k : Int)).map V.int := by
  rw [List.map_map]
  rfl
theorem dpAll_ints {K : PySem.W.Frag} {H : Hp} : ∀ ns : List Int, DpAll K H (ns.map V.int) (ns.map PyData.int)
  | [] => .nil
  | n :: r => .cons (.int n) (dpAll_ints r)
theorem dp_nats {K : PySem.W.Frag} {H : Hp} {a : Addr} {l : List Nat} (h : SqL K H a (l.map nv)) : Dp K H (.ref a) (.list ((l.map fun k : Nat => (k : Int)).map PyData.int)) := by
  rw [map_nv] at h
  exact .lst h (dpAll_ints _)
theorem eqv_ints (ns : List Int) : PyData.eqv (.list (ns.map PyData.int)) (.list (ns.map PyData.int)) = true :=
  SeqAt.eqv_refl _ (SeqAt.canLay_of_shaped (PySem.W.shaped_ints ns))
theorem range_rgV (n : Nat) : rgV 0 (n : Int) = (List.range n).map nv := by
  unfold rgV
  rw [show ((n : Int) - 0).toNat = n by omega]
  refine List.map_congr_left fun i _ => ?_
  show V.int (0 + (i : Int)) = V.int (i : Int)
  rw [Int.zero_add]
def spOrder (K : PySem.W.Frag) : Sp := fun vs H Q _ => ∃ (n : Nat) (o : Addr) (l : List Nat), vs = [nv n, .ref o] ∧ SqT K H o (l.map nv) ∧ IsOrd n n l ∧ n ≤ 1000 ∧ ∀ H', Same H H' → Q .non H'
def spSearch (K : PySem.W.Frag) : Sp := fun vs H Q _ => ∃ (a b o : Addr) (us ws : List V) (ps cs : List Rat) (l : List Nat), vs = [.ref a, .ref b, .ref o] ∧ Srch K H a b us ws ps cs ∧ SqT K H o (l.map nv) ∧ IsOrd ps.length ps.length l ∧
  ∀ H' v, Same H H' → RT K H' v (costF (fn ps) (fn cs) 0 l) → Q v H'
def share (ps cs : List Rat) (k : Nat) : Rat := fn ps k / fn cs k
def best (ps cs : List Rat) : List Nat := greedy (share ps cs) ps.length (List.range ps.length)
def spBest (K : PySem.W.Frag) : Sp := fun vs H Q _ => ∃ (a b : Addr) (us ws : List V) (ps cs : List Rat), vs = [.ref a, .ref b] ∧ Srch K H a b us ws ps cs ∧
  ∀ H' t v o, Same H H' → H' t = some (.tup [v, .ref o]) → RT K H' v (costF (fn ps) (fn cs) 0 (best ps cs)) → H' o = some (.tup ((best ps cs).map nv)) → Q (.ref t) H'
section
variable {P : Program} {w : World} {K : PySem.W.Frag} {mg : Str → Option Value} {base : Heap}
theorem ok_need_order {f g : Addr} {fd gd : FuncData} {k : Nat} (F : Fun K "need_order" "need_order" s_need_order f fd) (ms : mg "isinstance" = none) (mt : mg "tuple" = none) (mo : mg "sorted" = none) (ml : mg "list" = none) (mr : mg "range" = none)
    (G : FnOk P w K mg base CX0 k g gd ["value", "least", "most"] spIn) (mgG : mg "is_in" = some (.ref g)) (kp : PySem.W.keepIn K (.ref g) = true) (b : Binds K gd ["value", "least", "most"] []) : FnOk P w K mg base CX0 (k + 1) f fd ["many", "order"] (spOrder K) := by
  refine F.ok sc_need_order (fun vs H Q E h => ?_) (fun cdv A outer s H vs Q E hr h => ?_)
  · obtain ⟨n, o, l, rfl, _⟩ := h
    rfl
  · obtain ⟨n, o, l, rfl, ho, hO, hn, Z⟩ := h
    refine ⟨_, pss_cons (ps_if (PW.pt (pw_or (pt_not (pt_val (pe_callB call_isi (by rfl) ms boot_isinstance (pa_cons (pv 1) (pa_cons (pe_bltn (v := .ty "tuple") (by rfl) mt boot_tuple rfl) pa_nil)))))
        (pw_or1 (pt_cmpR (op_neD hr.units)
          (pe_lc (own := [("k", 2)]) (g := gName 2) (by rfl) sc_need_order.nd (pi_tup (pv 1)) (blkOk_by (own := [("k", 2)]) (N := ["many", "order", "k"]) (sc := defScope s_need_order) (by decide +kernel)) (fun _ _ _ _ _ => pg_name (i := 2) sc_need_order.nd rfl (Or.inl rfl))
            (fun _ _ _ _ _ => pts_one (pt_not (pt_val (pe_call G hr (by rfl) mgG kp b .nil pass0 (pa_cons (pv 2) (pa_cons pe_int (pa_cons (pe_op op_sub (pv 0) pe_int) pa_nil)))))))
            (fun _ _ _ _ _ => pv 2))
          (pe_lst pa_nil) (nomark _))))) pss_never pss_nil)
      (pss_one (ps_if (pt_cmpR (op_neD hr.units) (pe_callB cr_sortedTup (by rfl) mo boot_sorted (pa_cons (pv 1) pa_nil)) (pe_listRg rfl (by rfl) ml (prg_1 (by rfl) mr (pv 0))) (nomark _)) pss_never pss_nil)), ?_⟩
    refine ⟨_, rfl, _, _, _, _, true, rfl, .ty _, tyx_tup ho, kit_ty (by decide +kernel), true, rfl, iteF ?_⟩
    refine ⟨_, rfl, o, rfl, ⟨_, ho⟩, fun D hD => lc_tup (K := K) (a := o) (xs := l.map nv) (fun i H' => Same H H' ∧ H' D = some (.lst [])) ⟨same_upd hD, upd_same⟩ (fun i H' _ h => same_seqT h.1 ho) (fun i x H' hx h => ?_) (fun H' h => ?_)⟩
    · obtain ⟨kk, _, hk, rfl⟩ := nv_at hx
      have := hO.lt kk hk
      exact ⟨rfl, _, rfl, _, rfl, _, _, rfl, rfl, (kk : Int), 0, (n : Int) - 1, rfl, by omega, by omega, true, rfl, iteF h⟩
    · refine ⟨Nat.zero_le _, fun p hp => ?_⟩
      have s1 : Same H (upd H' p (.lst [])) := h.1.trans (same_upd hp)
      refine ⟨_, _, .lst (SqL.of (by rw [upd_ne (ne_of_none h.2 hp)]; exact h.2)) .nil, .lst (SqL.of upd_same) .nil, rfl, rfl, false, rfl, iteF ?_⟩
      refine ⟨_, rfl, o, l.map (fun k : Nat => (k : Int)), rfl, by rw [← map_nv]; exact same_seqT s1 ho, fun ns' q hperm hup hq => ?_⟩
      have s2 := s1.trans (same_upd (o := .lst (ns'.map V.int)) hq)
      refine ⟨_, rfl, (n : Int), rfl, .of_le (by omega) (by omega) (by omega) (by omega), fun r hrn => ?_⟩
      have s3 := s2.trans (same_upd (o := .lst (rgV 0 (n : Int))) hrn)
      have e : ns' = (List.range n).map fun k : Nat => (k : Int) := by
        have hp2 : ns'.Perm ((List.range n).map fun k : Nat => (k : Int)) := by
          refine hperm.trans (List.Perm.map _ ?_)
          exact perm_of_sub hO.nd (fun x hx => List.mem_range.mpr (hO.lt x hx)) (by rw [List.length_range, hO.len]; exact Nat.le_refl n)
        refine hp2.eq_of_pairwise (fun x y _ _ h1 h2 => Int.le_antisymm h1 h2) hup ?_
        rw [List.pairwise_map]
        exact (List.pairwise_lt_range (n := n)).imp fun {x y} h => by omega
      have e1 : Dp K (upd (upd (upd H' p (.lst [])) q (.lst (ns'.map V.int))) r (.lst (rgV 0 (n : Int)))) (.ref q) (.list (ns'.map PyData.int)) := .lst (SqL.of (by rw [upd_ne (ne_of_none upd_same hrn)]; exact upd_same)) (dpAll_ints _)
      have e2 : Dp K (upd (upd (upd H' p (.lst [])) q (.lst (ns'.map V.int))) r (.lst (rgV 0 (n : Int)))) (.ref r) (.list (ns'.map PyData.int)) := by
        rw [e]
        exact dp_nats (SqL.of (by rw [upd_same, range_rgV]))
      refine ⟨_, _, e1, e2, PySem.W.shaped_ints _, PySem.W.shaped_ints _, false, ?_, iteF (Z _ s3)⟩
      rw [eqv_ints]
      rfl
theorem ok_search_cost {f g t c : Addr} {fd gd td cd : FuncData} {k : Nat} (F : Fun K "search_cost" "search_cost" s_search_cost f fd) (ml : mg "len" = none)
    (G : FnOk P w K mg base CX0 k g gd ["chances", "costs"] (spNeed K)) (mgG : mg "need_search" = some (.ref g)) (kp : PySem.W.keepIn K (.ref g) = true) (b : Binds K gd ["chances", "costs"] [])
    (T : FnOk P w K mg base CX0 k t td ["many", "order"] (spOrder K)) (mgT : mg "need_order" = some (.ref t)) (kpT : PySem.W.keepIn K (.ref t) = true) (bT : Binds K td ["many", "order"] [])
    (C : FnOk P w K mg base CX0 k c cd ["chances", "costs", "order"] (spCost K)) (mgC : mg "cost_of" = some (.ref c)) (kpC : PySem.W.keepIn K (.ref c) = true) (bC : Binds K cd ["chances", "costs", "order"] []) : FnOk P w K mg base CX0 (k + 1) f fd ["chances", "costs", "order"] (spSearch K) := by
  refine F.ok sc_search_cost (fun vs H Q E h => ?_) (fun cdv A outer s H vs Q E hr h => ?_)
  · obtain ⟨a, d, o, us, ws, ps, cs, l, rfl, _⟩ := h
    rfl
  · obtain ⟨a, d, o, us, ws, ps, cs, l, rfl, S, ho, hO, Z⟩ := h
    refine ⟨_, pss_cons (ps_expr (pe_call G hr (by rfl) mgG kp b .nil pass0 (pa_cons (pv 0) (pa_cons (pv 1) pa_nil))))
      (pss_cons (ps_expr (pe_call T hr (by rfl) mgT kpT bT .nil pass0 (pa_cons (pe_callB call_len_seq (by rfl) ml PySem.boot_len (pa_cons (pv 0) pa_nil)) (pa_cons (pv 2) pa_nil))))
      (pss_one (ps_ret (pe_call C hr (by rfl) mgC kpC bC .nil pass0 (pa_cons (pv 0) (pa_cons (pv 1) (pa_cons (pv 2) pa_nil))))))), ?_⟩
    have h7 := S.n7
    refine ⟨_, rfl, _, rfl, a, d, us, ws, ps, cs, rfl, S, fun H1 s1 => ?_⟩
    have S1 := S.same s1
    refine ⟨_, rfl, a, _, rfl, .inr S1.ha, _, rfl, ps.length, o, l, ?_, same_seqT s1 ho, hO, by omega, fun H2 s2 => ?_⟩
    · rw [S.rp.len]
      rfl
    · have S2 := S1.same s2
      have hn := S.nc
      refine ⟨_, rfl, _, rfl, _, rfl, a, d, o, us, ws, ps, cs, l, rfl, S2.ha, S2.rp, S2.hb, S2.rc, .inr (same_seqT (s1.trans s2) ho), by rw [hO.len]; exact h7, fun k hk => ?_, S.zp, S.zc, fun H3 v s3 hv => Z H3 v ((s1.trans s2).trans s3) hv⟩
      have := hO.lt k hk
      omega
end
end K96

/-! best_search -/
namespace K96
open PySem PySem.Spec PyProof.Rows L2
theorem pick_snoc {s : Nat → Rat} {k : Nat} : ∀ (l : List Nat) (b : Nat), pick s b (l ++ [k]) = if s (pick s b l) < s k then k else pick s b l
  | [], b => rfl
  | a :: r, b => pick_snoc r (if s b < s a then a else b)
theorem pick_lt {s : Nat → Rat} {n : Nat} {l : List Nat} {b : Nat} (hb : b < n) (hl : ∀ x ∈ l, x < n) : pick s b l < n := by
  rcases pick_mem (s := s) l b with e | e
  · rw [e]
    exact hb
  · exact hl _ e
/-- how many are left, by the state -/
def leftLen : L2.St → Hp → Nat := fun σ H => match σ with
  | [_, _, some (.ref L), _, _, _] => match H L with
    | some (.lst xs) => xs.length
    | _ => 0
  | _ => 0
theorem same_put {H H' : Hp} {p : Addr} {o : HO} (s : Same H H') (h : H p = none) : Same H (upd H' p o) := fun b x e => by
  rw [upd_ne (ne_of_none e h)]
  exact s b x e
theorem eqv_nats_nil (l : List Nat) : PyData.eqv (.list ((l.map fun k : Nat => (k : Int)).map PyData.int)) (.list []) = l.isEmpty := by
  cases l <;> rfl
theorem ne_nv (i j : Nat) : (!decide (nv i = nv j)) = (i != j) := by
  have e : decide (nv i = nv j) = decide (i = j) := by
    rw [decide_eq_decide]
    exact ⟨fun h => by injection h with h; omega, fun h => by rw [h]⟩
  rw [e]
  by_cases h : i = j
  · simp [h]
  · simp [h]
theorem filt_snoc {l : List Nat} {i kk b : Nat} (h : l[i]? = some kk) : (l.take (i + 1)).filter (fun k => k != b) = (l.take i).filter (fun k => k != b) ++ (if kk != b then [kk] else []) := by
  rw [List.take_add_one, h]
  show (l.take i ++ [kk]).filter _ = _
  rw [List.filter_append]
  congr 1
  cases hb : (kk != b) with
  | true => rw [if_pos rfl, List.filter_cons_of_pos (p := fun k => k != b) hb]; rfl
  | false => rw [if_neg Bool.false_ne_true, List.filter_cons_of_neg (p := fun k => k != b) (by rw [hb]; exact Bool.false_ne_true)]; rfl
section
variable {P : Program} {w : World} {K : PySem.W.Frag} {mg : Str → Option Value} {base : Heap}
theorem ok_best_search {f g t c : Addr} {fd gd td cd : FuncData} {k : Nat} (F : Fun K "best_search" "best_search" s_best_search f fd) (mn : mg "len" = none) (ml : mg "list" = none) (mr : mg "range" = none) (mt : mg "tuple" = none)
    (G : FnOk P w K mg base CX0 k g gd ["chances", "costs"] (spNeed K)) (mgG : mg "need_search" = some (.ref g)) (kp : PySem.W.keepIn K (.ref g) = true) (b : Binds K gd ["chances", "costs"] [])
    (T : FnOk P w K mg base CX0 k t td ["chances", "costs", "i", "j"] (spBefore K)) (mgT : mg "comes_before" = some (.ref t)) (kpT : PySem.W.keepIn K (.ref t) = true) (bT : Binds K td ["chances", "costs", "i", "j"] [])
    (C : FnOk P w K mg base CX0 k c cd ["chances", "costs", "order"] (spCost K)) (mgC : mg "cost_of" = some (.ref c)) (kpC : PySem.W.keepIn K (.ref c) = true) (bC : Binds K cd ["chances", "costs", "order"] []) : FnOk P w K mg base CX0 (k + 1) f fd ["chances", "costs"] (spBest K) := by
  refine F.ok sc_best_search (fun vs H Q E h => ?_) (fun cdv A outer s H vs Q E hr h => ?_)
  · obtain ⟨a, d, us, ws, ps, cs, rfl, _⟩ := h
    rfl
  · obtain ⟨a, d, us, ws, ps, cs, rfl, S, Z⟩ := h
    refine ⟨_, pss_cons (ps_expr (pe_call G hr (by rfl) mgG kp b .nil pass0 (pa_cons (pv 0) (pa_cons (pv 1) pa_nil))))
      (pss_cons (ps_par (i := 2) (j := 3) rfl sc_best_search.nd rfl rfl (by decide) rfl rfl (pa_cons (pe_listRg rfl (by rfl) ml (prg_1 (by rfl) mr (pe_callB call_len_seq (by rfl) mn PySem.boot_len (pa_cons (pv 0) pa_nil)))) (pa_cons (pe_lst pa_nil) pa_nil)) (by rfl))
      (pss_cons (ps_while PassesOwn.never (pt_cmpR (op_neD hr.units) (pv 2) (pe_lst pa_nil) (nomark _))
        (pss_cons (ps_set (i := 4) sc_best_search.nd rfl (Or.inr rfl) (pe_ix ix_list (pv 2) pe_int (fun _ _ => rfl)))
        (pss_cons (ps_for PassesOwn.never rfl (pi_list (pv 2)) (pg_name (i := 5) sc_best_search.nd rfl (Or.inl rfl))
          (pss_one (ps_set (i := 4) sc_best_search.nd rfl (Or.inr rfl) (pe_ifExp (pt_val (pe_call T hr (by rfl) mgT kpT bT .nil pass0 (pa_cons (pv 0) (pa_cons (pv 1) (pa_cons (pv 5) (pa_cons (pv 4) pa_nil)))))) (pv 5) (pv 4)))))
        (pss_cons (ps_expr (pe_bm PySem.F.plainAttrs_list PySem.F.slot_list_append PySem.F.type_list_append mt_append (pv 3) (pa_cons (pv 4) pa_nil)))
        (pss_one (ps_setLc (i := 2) (own := [("k", 5)]) (g := gName 5) (by rfl) sc_best_search.nd rfl rfl (sw_true rfl rfl rfl (by decide +kernel)) (pi_list (pv 2)) (blkOk_by (own := [("k", 5)]) (N := ["chances", "costs", "left", "order", "best", "k"]) (sc := defScope s_best_search) (by decide +kernel)) (fun _ _ _ _ _ => pg_name (i := 5) sc_best_search.nd rfl (Or.inl rfl))
          (fun _ _ _ _ _ => pts_one (pt_cmpR op_ne (pv 5) (pv 4) (nomark _))) (fun _ _ _ _ _ => pv 5)))))))
      (pss_one (ps_ret (pe_tup (pa_cons (pe_call C hr (by rfl) mgC kpC bC .nil pass0 (pa_cons (pv 0) (pa_cons (pv 1) (pa_cons (pv 3) pa_nil)))) (pa_cons (pe_callTy call_tuple_of (by rfl) mt boot_tuple (pa_cons (pv 3) pa_nil)) pa_nil))))))), ?_⟩
    have h7 := S.n7
    have h0 := S.n0
    have hnc := S.nc
    have hlu : us.length = ps.length := S.rp.len
    refine ⟨_, rfl, _, rfl, a, d, us, ws, ps, cs, rfl, S, fun H1 s1 => ?_⟩
    have S1 := S.same s1
    refine ⟨_, rfl, a, _, rfl, .inr S1.ha, (us.length : Int), rfl, .of_le (by omega) (by omega) (by omega) (by omega), fun L hL => ?_⟩
    refine ⟨Nat.zero_le _, fun O hO => ⟨_, _, rfl, ?_⟩⟩
    have s2 : Same H1 (upd H1 L (.lst (rgV 0 (us.length : Int)))) := same_upd hL
    have s3 := s2.trans (same_upd (o := .lst []) hO)
    have hOL : L ≠ O := ne_of_none upd_same hO
    have hang : Hang ps.length (fn ps) (fn cs) (share ps cs) := hang_of fun k hk => fn_all S.pc (by omega)
    refine while_by (fun σ H' => ∃ (L O : Addr) (left done : List Nat) (x4 x5 : Option V), σ = [some (.ref a), some (.ref d), some (.ref L), some (.ref O), x4, x5] ∧ Same H H' ∧ H O = none ∧ L ≠ O ∧
        H' L = some (.lst (left.map nv)) ∧ H' O = some (.lst (done.map nv)) ∧ (∀ x ∈ left, x < ps.length) ∧ left.Pairwise (· < ·) ∧ done.length + left.length = ps.length ∧ done ++ greedy (share ps cs) left.length left = best ps cs) leftLen
      ⟨L, O, List.range ps.length, [], none, none, rfl, s1.trans s3, ?_, hOL, ?_, ?_, fun x hx => List.mem_range.mp hx, List.pairwise_lt_range, ?_, ?_⟩ (fun σ H' hp => ?_) (fun σ H' Q1 Q2 hq hc => ?_)
    · refine (s1.trans s2).free hO
    · rw [upd_ne hOL, upd_same, hlu, range_rgV]
    · exact upd_same
    · rw [List.length_range]
      exact Nat.zero_add _
    · rw [List.length_range]
      rfl
    · obtain ⟨L, O, left, done, x4, x5, rfl, sm, hHO, hLO, eL, eO, hlt, hup, hlen, hg⟩ := hp
      refine ⟨_, rfl, Nat.zero_le _, fun p hp => ?_⟩
      have sp := same_upd (o := .lst []) hp
      have eL1 := sp _ _ eL
      have eO1 := sp _ _ eO
      refine ⟨_, _, dp_nats (SqL.of eL1), .lst (SqL.of upd_same) .nil, PySem.W.shaped_ints _, rfl, _, rfl, ?_⟩
      rw [eqv_nats_nil]
      cases left with
      | nil =>
        refine iteF ?_
        have smp := sm.trans sp
        have S2 := S.same smp
        have hb : done = best ps cs := by
          rw [← hg]
          show done = done ++ []
          rw [List.append_nil]
        subst hb
        have hbp := (greedy_all (s := share ps cs) ps.length (List.range ps.length) List.length_range List.pairwise_lt_range).1
        have hbl : (best ps cs).length = ps.length := hbp.length_eq.trans List.length_range
        refine ⟨_, rfl, _, rfl, _, rfl, a, d, O, us, ws, ps, cs, best ps cs, rfl, S2.ha, S2.rp, S2.hb, S2.rc, .inl (SqL.of eO1), by rw [hbl]; exact h7, fun k hk => ?_, S.zp, S.zc, fun H3 v s3 hv => ?_⟩
        · have := List.mem_range.mp (hbp.subset hk)
          omega
        · have eO3 := s3 _ _ eO1
          refine ⟨_, rfl, O, _, rfl, .inl ⟨SqL.of eO3, fun q hq => ⟨by show 2 ≤ sizeLine; decide, fun z hz => ?_⟩⟩⟩
          have s4 : Same H3 (upd H3 q (.tup ((best ps cs).map nv))) := same_upd hq
          have s5 := s4.trans (same_upd (o := .tup [v, .ref q]) hz)
          exact Z _ z v q ((smp.trans s3).trans s5) upd_same (hv.same s5) (by rw [upd_ne (ne_of_none upd_same hz)]; exact upd_same)
      | cons l0 lr =>
        refine iteT ?_
        have h00 : l0 < ps.length := hlt l0 List.mem_cons_self
        refine ⟨_, rfl, L, _, 0, nv l0, rfl, rfl, SqL.of eL1, atI_nat (j := 0) rfl, ?_⟩
        refine ⟨_, rfl, L, rfl, ⟨_, SqL.of eL1⟩, for_list (K := K) (a := L) (xs := (l0 :: lr).map nv) (fun i σ H'' => Same (upd H' p (.lst [])) H'' ∧ ∃ x5, σ = [some (.ref a), some (.ref d), some (.ref L), some (.ref O), some (nv (pick (share ps cs) l0 ((l0 :: lr).take i))), x5])
          ⟨Same.refl _, x5, rfl⟩ (fun i σ H'' _ h => h.1.seq (SqL.of eL1)) (fun i x σ H'' hx h => ?_) (fun σ H'' h => ?_)⟩
        · obtain ⟨sm2, x6, rfl⟩ := h
          obtain ⟨kk, hk, hkm, rfl⟩ := nv_at hx
          have hkn := hlt kk hkm
          have hpn : pick (share ps cs) l0 ((l0 :: lr).take i) < ps.length := pick_lt h00 fun x hx => hlt x (List.mem_of_mem_take hx)
          have S2 := S.same ((sm.trans sp).trans sm2)
          refine ⟨_, rfl, _, rfl, _, rfl, _, rfl, a, d, us, ws, ps, cs, kk, _, rfl, S2.ha, S2.rp, S2.hb, S2.rc, hkn, hpn, by omega, by omega, S.zp, S.zc, fun H3 s3 => ⟨_, rfl, ite2 (fun e => ?_) (fun e => ?_)⟩⟩
          · have e1 := (hang _ _ hpn hkn).mpr (of_decide_eq_true e)
            refine ⟨_, rfl, sm2.trans s3, some (nv kk), ?_⟩
            rw [List.take_add_one, hk]
            show _ = [some (V.ref a), some (V.ref d), some (V.ref L), some (V.ref O), some (nv (pick (share ps cs) l0 ((l0 :: lr).take i ++ [kk]))), _]
            rw [pick_snoc, if_pos e1]
            rfl
          · have e1 : ¬ share ps cs (pick (share ps cs) l0 ((l0 :: lr).take i)) < share ps cs kk := fun z => e (decide_eq_true ((hang _ _ hpn hkn).mp z))
            refine ⟨_, rfl, sm2.trans s3, some (nv kk), ?_⟩
            rw [List.take_add_one, hk]
            show _ = [some (V.ref a), some (V.ref d), some (V.ref L), some (V.ref O), some (nv (pick (share ps cs) l0 ((l0 :: lr).take i ++ [kk]))), _]
            rw [pick_snoc, if_neg e1]
            rfl
        · obtain ⟨sm2, x6, rfl⟩ := h
          rw [List.length_map, List.take_length]
          have eL2 := sm2 _ _ eL1
          have eO2 := sm2 _ _ eO1
          have hdl : done.length < 1000 := by
            rw [List.length_cons] at hlen
            omega
          refine ⟨.ref O, rfl, .inl ⟨rfl, _, SqL.of eO2⟩, _, rfl, O, _, _, rfl, rfl, eO2, by rw [List.length_map]; exact small1000 (by omega), ?_⟩
          have eL3 : upd H'' O (.lst (done.map nv ++ [nv (pick (share ps cs) l0 (l0 :: lr))])) L = some (.lst ((l0 :: lr).map nv)) := by
            rw [upd_ne hLO]
            exact eL2
          have sm3 : Same H (upd H'' O (.lst (done.map nv ++ [nv (pick (share ps cs) l0 (l0 :: lr))]))) := same_put ((sm.trans sp).trans sm2) hHO
          generalize hH3 : upd H'' O (.lst (done.map nv ++ [nv (pick (share ps cs) l0 (l0 :: lr))])) = H3 at eL3 sm3
          have eO3 : H3 O = some (.lst ((done ++ [pick (share ps cs) l0 (l0 :: lr)]).map nv)) := by
            rw [← hH3, upd_same, List.map_append]
            rfl
          refine ⟨_, rfl, L, rfl, ⟨_, SqL.of eL3⟩, fun D hD => lc_list (K := K) (a := L) (xs := (l0 :: lr).map nv) (fun i H4 => (∀ b o, H3 b = some o → H4 b = some o) ∧ H4 D = some (.lst ((((l0 :: lr).take i).filter fun k => k != pick (share ps cs) l0 (l0 :: lr)).map nv)))
            ⟨same_upd hD, upd_same⟩ (fun i H4 _ h => SqL.of (h.1 _ _ eL3)) (fun i x H4 hx h => ?_) (fun H4 h => ?_)⟩
          · obtain ⟨kk, hk, hkm, rfl⟩ := nv_at hx
            refine ⟨rfl, _, rfl, _, rfl, rfl, _, rfl, ite2 (fun e => ?_) (fun e => ?_)⟩
            · have e1 : (kk != pick (share ps cs) l0 (l0 :: lr)) = true := by
                rw [← e]
                exact (ne_nv _ _).symm
              refine ⟨_, rfl, _, h.2, ?_, ?_, ?_⟩
              · rw [List.length_map]
                refine small1000 (Nat.le_trans (List.length_filter_le _ _) ?_)
                rw [List.length_take]
                omega
              · exact same_put h.1 hD
              · rw [upd_same, filt_snoc hk, e1, if_pos rfl, List.map_append]
                rfl
            · have e1 : (kk != pick (share ps cs) l0 (l0 :: lr)) = false := by
                rw [← ne_nv]
                exact Bool.eq_false_iff.mpr e
              refine ⟨h.1, ?_⟩
              rw [filt_snoc hk, e1, if_neg Bool.false_ne_true, List.append_nil]
              exact h.2
          · obtain ⟨sm4, eD⟩ := h
            rw [List.length_map, List.take_length] at eD
            have hDO : D ≠ O := fun z => by
              rw [z, eO3] at hD
              cases hD
            have hfl : ((l0 :: lr).filter fun k => k != pick (share ps cs) l0 (l0 :: lr)).length + 1 = (l0 :: lr).length := by
              have nd : (l0 :: lr).Nodup := hup.imp fun h => Nat.ne_of_lt h
              have hm : pick (share ps cs) l0 (l0 :: lr) ∈ l0 :: lr := by
                rcases pick_mem (s := share ps cs) (l0 :: lr) l0 with e | e
                · rw [e]
                  exact List.mem_cons_self
                · exact e
              exact (filter_perm nd hm).length_eq
            refine ⟨⟨D, O, (l0 :: lr).filter fun k => k != pick (share ps cs) l0 (l0 :: lr), done ++ [pick (share ps cs) l0 (l0 :: lr)], _, _, rfl, fun b o e => sm4 b o (sm3 b o e), hHO, hDO, eD, sm4 _ _ eO3, fun x hx => hlt x (List.mem_filter.mp hx).1, hup.filter _, ?_, ?_⟩, ?_⟩
            · rw [List.length_append, List.length_singleton]
              omega
            · rw [← hg, List.append_assoc]
              congr 1
              rw [← hfl]
              rfl
            · show (match H4 D with | some (.lst xs) => xs.length | _ => 0) < (match H' L with | some (.lst xs) => xs.length | _ => 0)
              rw [eD, eL]
              show (((l0 :: lr).filter fun k => k != pick (share ps cs) l0 (l0 :: lr)).map nv).length < ((l0 :: lr).map nv).length
              rw [List.length_map, List.length_map]
              omega
    · obtain ⟨v, e, z, h2⟩ := hc
      refine ⟨v, e, z, fun p hp => ?_⟩
      obtain ⟨d1, d2, a1, a2, a3, a4, kk, ek, q⟩ := h2 p hp
      exact ⟨d1, d2, a1, a2, a3, a4, kk, ek, hq _ _ q⟩
end
end K96

/-! the law's draws -/
namespace K96
open PySem PySem.Spec PyProof.Rows L2
/-- all that was tracked is as it was, but for what stands at r -/
def SX (r : Addr) (H H' : Hp) : Prop := ∀ b o, b ≠ r → H b = some o → H' b = some o
theorem SX.refl (r : Addr) (H : Hp) : SX r H H := fun _ _ _ h => h
theorem SX.trans {r : Addr} {H H1 H2 : Hp} (a : SX r H H1) (b : SX r H1 H2) : SX r H H2 := fun c o n h => b c o n (a c o n h)
theorem SX.of {r : Addr} {H H' : Hp} (h : Same H H') : SX r H H' := fun b o _ e => h b o e
theorem SX.put {r : Addr} {H : Hp} {o : HO} : SX r H (upd H r o) := fun b x n e => by
  rw [upd_ne n]
  exact e
theorem SX.seqT {K : PySem.W.Frag} {r a : Addr} {H H' : Hp} {l xs : List V} (e : SX r H H') (hr : H r = some (.lst l)) (h : SqT K H a xs) : SqT K H' a xs := by
  rcases h with (h | ⟨o, h⟩) | h
  · exact .inl (.inl (e _ _ (ne_of h hr (fun z => nomatch z)) h))
  · exact .inl (.inr ⟨o, e _ _ (ne_of h hr (fun z => nomatch z)) h⟩)
  · exact .inr h
theorem SX.seqL {K : PySem.W.Frag} {r a : Addr} {H H' : Hp} {xs : List V} (e : SX r H H') (n : a ≠ r) (h : SqL K H a xs) : SqL K H' a xs := by
  rcases h with (h | ⟨o, h⟩) | h
  · exact .inl (.inl (e _ _ n h))
  · exact .inl (.inr ⟨o, e _ _ n h⟩)
  · exact .inr h
theorem SX.rt {K : PySem.W.Frag} {r : Addr} {H H' : Hp} {l : List V} {v : V} {q : Rat} (e : SX r H H') (hr : H r = some (.lst l)) (h : RT K H v q) : RT K H' v q := by
  obtain ⟨a, rfl, h⟩ := h
  exact ⟨a, rfl, e.seqT hr h⟩
theorem SX.rts {K : PySem.W.Frag} {r : Addr} {H H' : Hp} {l : List V} {vs : List V} {qs : List Rat} (e : SX r H H') (hr : H r = some (.lst l)) (h : RTs K H vs qs) : RTs K H' vs qs :=
  ⟨h.len, fun i v q a b => e.rt hr (h.pl i v q a b)⟩
theorem small9000 {d : Nat} (h : d < 4) : d < 2 ^ 9000 := by
  have e : ∀ n : Nat, 2 ≤ n → d < 2 ^ n := fun n hn => Nat.lt_of_lt_of_le (show d < 2 ^ 2 from h) (Nat.pow_le_pow_right (by decide) hn)
  exact e 9000 (by decide)
/-- the row of draws at r: the script (that stands wherever all of B but r stands), the place, two numbers -/
def Rw (K : PySem.W.Frag) (B H : Hp) (r : Addr) : Prop := ∃ (a : Addr) (ns : List Int) (i x y : Int), H r = some (.lst [.ref a, .int i, .int x, .int y]) ∧ 0 ≤ i ∧ 0 ≤ x ∧ x < 2147483647 ∧ 0 ≤ y ∧ SX r B H ∧ ∀ H', SX r B H' → SqL K H' a (ns.map V.int)
theorem Rw.lst {K : PySem.W.Frag} {B H : Hp} {r : Addr} (h : Rw K B H r) : ∃ l, H r = some (.lst l) := by
  obtain ⟨a, ns, i, x, y, h, _⟩ := h
  exact ⟨_, h⟩
theorem Rw.same {K : PySem.W.Frag} {B H H' : Hp} {r : Addr} (e : Same H H') (h : Rw K B H r) : Rw K B H' r := by
  obtain ⟨a, ns, i, x, y, h, h1, h2, h3, h4, h5, h6⟩ := h
  exact ⟨a, ns, i, x, y, e _ _ h, h1, h2, h3, h4, h5.trans (SX.of e), h6⟩
/-- a row stands when a new object at D is written -/
theorem Rw.sx {K : PySem.W.Frag} {B H H' : Hp} {r D : Addr} (e : SX D H H') (n : r ≠ D) (hD : B D = none) (h : Rw K B H r) : Rw K B H' r := by
  obtain ⟨a, ns, i, x, y, h, h1, h2, h3, h4, h5, h6⟩ := h
  exact ⟨a, ns, i, x, y, e _ _ n h, h1, h2, h3, h4, fun b o hb q => e b o (ne_of_none q hD) (h5 b o hb q), h6⟩
theorem Rw.free {K : PySem.W.Frag} {B H : Hp} {r D : Addr} (h : Rw K B H r) (hD : H D = none) : r ≠ D ∧ B D = none := by
  obtain ⟨a, ns, i, x, y, h, h1, h2, h3, h4, h5, h6⟩ := h
  have n : r ≠ D := ne_of_none h hD
  refine ⟨n, ?_⟩
  cases q : B D with
  | none => rfl
  | some o =>
    rw [h5 D o n.symm q] at hD
    cases hD
def spTaken (K : PySem.W.Frag) : Sp := fun vs H Q _ => ∃ (B : Hp) (r : Addr) (m : Int), vs = [.ref r, .int m] ∧ 0 < m ∧ m < 1073741824 ∧ Rw K B H r ∧ ∀ H' j, 0 ≤ j → j < m → SX r H H' → Rw K B H' r → Q (.int j) H'
def spPick (K : PySem.W.Frag) : Sp := fun vs H Q _ => ∃ (B : Hp) (r t : Addr) (us : List V), vs = [.ref r, .ref t] ∧ SqL K H t us ∧ t ≠ r ∧ 0 < us.length ∧ us.length ≤ 100000 ∧ Rw K B H r ∧ ∀ (i : Nat) (v : V) H', us[i]? = some v → SX r H H' → Rw K B H' r → Q v H'
def spRate (K : PySem.W.Frag) : Sp := fun vs H Q _ => ∃ (B : Hp) (r : Addr), vs = [.ref r] ∧ Rw K B H r ∧ ∀ H' v q, 0 < q → Sm 10 q → SX r H H' → Rw K B H' r → RT K H' v q → Q v H'
section
variable {P : Program} {w : World} {K : PySem.W.Frag} {mg : Str → Option Value} {base : Heap}
theorem ok_ltaken {f : Addr} {fd : FuncData} {k : Nat} (F : Fun K "_law_taken" "_law_taken" s_ltaken f fd) (mi : mg "int" = none) (ml : mg "len" = none) : FnOk P w K mg base CX0 (k + 1) f fd ["_law_row", "_law_many"] (spTaken K) := by
  refine F.ok sc_ltaken (fun vs H Q E h => ?_) (fun cdv A outer s H vs Q E hr h => ?_)
  · obtain ⟨B, r, m, rfl, _⟩ := h
    rfl
  · obtain ⟨B, r, m, rfl, m0, m1, ⟨a, ns, i, x, y, er, hi, hx0, hx1, hy, hG, hS⟩, Z⟩ := h
    refine ⟨_, pss_cons (ps_if (pt_cmpR op_gt (pe_ix ix_list (pv 0) pe_int (fun _ _ => rfl)) pe_int (nomark _))
        (pss_cons (ps_set (i := 2) sc_ltaken.nd rfl (.inl rfl) (pe_op op_mod (pe_callTy call_int1 (by rfl) mi boot_int (pa_cons (pe_ix ix_list (pv 0) pe_int (fun _ _ => rfl)) pa_nil)) (pv 1)))
        (pss_cons (ps_asg (pe_op op_fdiv (pe_ix ix_list (pv 0) pe_int (fun _ _ => rfl)) (pv 1)) (pg_sub (pv 0) pe_int set_list))
        (pss_one (ps_ret (pv 2))))) pss_nil)
      (pss_cons (ps_asg (pe_op op_add (pe_ix ix_list (pv 0) pe_int (fun _ _ => rfl)) pe_int) (pg_sub (pv 0) pe_int set_list))
      (pss_cons (ps_if (pt_cmpR op_gt (pe_ix ix_list (pv 0) pe_int (fun _ _ => rfl)) (pe_callB call_len_seq (by rfl) ml PySem.boot_len (pa_cons (pe_ix ix_list (pv 0) pe_int (fun _ _ => rfl)) pa_nil)) (nomark _))
        (pss_cons (ps_asg (pe_op op_mod (pe_callTy call_int1 (by rfl) mi boot_int (pa_cons (pe_op op_add (pe_op op_mul (pe_ix ix_list (pv 0) pe_int (fun _ _ => rfl)) pe_int) pe_int) pa_nil)) pe_int) (pg_sub (pv 0) pe_int set_list))
        (pss_one (ps_ret (pe_op op_mod (pe_callTy call_int1 (by rfl) mi boot_int (pa_cons (pe_op op_fdiv (pe_ix ix_list (pv 0) pe_int (fun _ _ => rfl)) pe_int) pa_nil)) (pv 1))))) pss_nil)
      (pss_cons (ps_set (i := 3) sc_ltaken.nd rfl (.inl rfl) (pe_ix ix_list (pe_ix ix_list (pv 0) pe_int (fun _ _ => rfl)) (pe_op op_sub (pe_ix ix_list (pv 0) pe_int (fun _ _ => rfl)) pe_int) (fun _ _ => rfl)))
      (pss_cons (ps_asg (pe_op op_mod (pe_callTy call_int1 (by rfl) mi boot_int (pa_cons (pe_op op_add (pe_op op_add (pe_op op_mul (pe_ix ix_list (pv 0) pe_int (fun _ _ => rfl)) pe_int) (pv 3)) pe_int) pa_nil)) pe_int) (pg_sub (pv 0) pe_int set_list))
      (pss_cons (ps_if (pt_cmpR op_ge (pv 3) (pe_op op_pow pe_int pe_int) (nomark _)) (pss_one (ps_asg (pe_op op_fdiv (pv 3) (pv 1)) (pg_sub (pv 0) pe_int set_list))) pss_nil)
      (pss_one (ps_ret (pe_op op_mod (pe_callTy call_int1 (by rfl) mi boot_int (pa_cons (pv 3) pa_nil)) (pv 1))))))))), ?_⟩
    -- the digits of a great cell
    refine ⟨_, rfl, r, _, 3, .int y, rfl, rfl, SqL.of er, rfl, y, 0, rfl, rfl, _, rfl, ite2 (fun e => ?_) (fun e => ?_)⟩
    · refine ⟨_, rfl, r, _, 3, .int y, rfl, rfl, SqL.of er, rfl, .inl ⟨y, rfl, .int m, rfl, y, m, rfl, rfl, m0, ?_⟩⟩
      refine ⟨_, rfl, r, _, 3, .int y, rfl, rfl, SqL.of er, rfl, .int m, rfl, y, m, rfl, rfl, ⟨m0, m1⟩, ?_⟩
      refine ⟨_, rfl, r, _, 3, 3, rfl, rfl, er, rfl, ?_⟩
      refine ⟨_, rfl, Z _ _ (Int.emod_nonneg y (by omega)) (Int.emod_lt_of_pos y m0) SX.put ⟨a, ns, i, x, y / m, upd_same, hi, hx0, hx1, Int.ediv_nonneg hy (by omega), hG.trans SX.put, hS⟩⟩
    · -- the next cell
      refine ⟨_, rfl, r, _, 1, .int i, rfl, rfl, SqL.of er, rfl, i, 1, rfl, rfl, ?_⟩
      refine ⟨_, rfl, r, _, 1, 1, rfl, rfl, er, rfl, ?_⟩
      show tSeq _ _ _ _ (upd H r (.lst [.ref a, .int (i + 1), .int x, .int y]))
      have s1 : SX r H (upd H r (.lst [.ref a, .int (i + 1), .int x, .int y])) := SX.put
      have e1 : upd H r (.lst [.ref a, .int (i + 1), .int x, .int y]) r = some (.lst [.ref a, .int (i + 1), .int x, .int y]) := upd_same
      have hG1 : SX r B (upd H r (.lst [.ref a, .int (i + 1), .int x, .int y])) := hG.trans s1
      generalize upd H r (.lst [.ref a, .int (i + 1), .int x, .int y]) = H1 at s1 e1 hG1
      refine ⟨_, rfl, r, _, 1, .int (i + 1), rfl, rfl, SqL.of e1, rfl, _, rfl, r, _, 0, .ref a, rfl, rfl, SqL.of e1, rfl, a, _, rfl, .inl (hS H1 hG1), i + 1, _, rfl, rfl, _, rfl, ite2 (fun e2 => ?_) (fun e2 => ?_)⟩
      · -- behind the script
        refine ⟨_, rfl, r, _, 2, .int x, rfl, rfl, SqL.of e1, rfl, x, 48271, rfl, rfl, .inl ⟨by omega, by omega⟩, _, 11, rfl, rfl, .inl ⟨_, rfl, _, 2147483647, rfl, rfl, (by decide : (0 : Int) < 2147483647), ?_⟩⟩
        refine ⟨_, rfl, r, _, 2, 2, rfl, rfl, e1, rfl, ?_⟩
        have c0 : 0 ≤ (x * 48271 + 11) % 2147483647 := Int.emod_nonneg _ (by decide)
        have c1 : (x * 48271 + 11) % 2147483647 < 2147483647 := Int.emod_lt_of_pos _ (by decide)
        refine ⟨_, rfl, r, _, 2, .int ((x * 48271 + 11) % 2147483647), rfl, rfl, SqL.of upd_same, rfl, _, 7, rfl, rfl, ⟨by decide, by decide⟩, .inl ⟨_, rfl, .int m, rfl, _, m, rfl, rfl, m0, ?_⟩⟩
        exact Z _ _ (Int.emod_nonneg _ (by omega)) (Int.emod_lt_of_pos _ m0) (s1.trans SX.put) ⟨a, ns, i + 1, _, y, upd_same, by omega, c0, c1, hy, hG1.trans SX.put, hS⟩
      · -- within the script
        have hlt : i.toNat < ns.length := by
          have h2 : ¬ (((ns.map V.int).length : Nat) : Int) < i + 1 := fun z => e2 (decide_eq_true z)
          rw [List.length_map] at h2
          omega
        have hat : atI (ns.map V.int) (i + 1 - 1) = some (.int ns[i.toNat]) := by
          rw [show i + 1 - 1 = ((i.toNat : Nat) : Int) by omega]
          exact atI_nat (by rw [List.getElem?_map, List.getElem?_eq_getElem hlt]; rfl)
        generalize ns[i.toNat] = cell at hat
        refine ⟨_, rfl, r, _, 0, .ref a, rfl, rfl, SqL.of e1, rfl, _, rfl, r, _, 1, .int (i + 1), rfl, rfl, SqL.of e1, rfl, i + 1, 1, rfl, rfl, a, _, _, .int cell, rfl, rfl, hS H1 hG1, hat, ?_⟩
        refine ⟨_, rfl, r, _, 2, .int x, rfl, rfl, SqL.of e1, rfl, x, 48271, rfl, rfl, .inl ⟨by omega, by omega⟩, _, rfl, _, cell, rfl, rfl, _, 11, rfl, rfl, .inl ⟨_, rfl, _, 2147483647, rfl, rfl, (by decide : (0 : Int) < 2147483647), ?_⟩⟩
        refine ⟨_, rfl, r, _, 2, 2, rfl, rfl, e1, rfl, ?_⟩
        have c0 : 0 ≤ (x * 48271 + cell + 11) % 2147483647 := Int.emod_nonneg _ (by decide)
        have c1 : (x * 48271 + cell + 11) % 2147483647 < 2147483647 := Int.emod_lt_of_pos _ (by decide)
        refine ⟨_, rfl, 10, 18, rfl, rfl, ⟨by decide, by decide, by decide⟩, cell, _, rfl, rfl, _, rfl, ite2 (fun e3 => ?_) (fun e3 => ?_)⟩
        · have h3 : (10 : Int) ^ (18 : Int).toNat ≤ cell := of_decide_eq_true e3
          have h4 : (0 : Int) ≤ cell := Int.le_trans (by decide) h3
          refine ⟨_, rfl, _, rfl, cell, m, rfl, rfl, ⟨m0, m1⟩, ?_⟩
          refine ⟨_, rfl, r, _, 3, 3, rfl, rfl, upd_same, rfl, ?_⟩
          refine ⟨_, rfl, .inl ⟨_, rfl, .int m, rfl, cell, m, rfl, rfl, m0, ?_⟩⟩
          exact Z _ _ (Int.emod_nonneg _ (by omega)) (Int.emod_lt_of_pos _ m0) ((s1.trans SX.put).trans SX.put) ⟨a, ns, i + 1, _, cell / m, upd_same, by omega, c0, c1, Int.ediv_nonneg h4 (by omega), (hG1.trans SX.put).trans SX.put, hS⟩
        · refine ⟨_, rfl, .inl ⟨_, rfl, .int m, rfl, cell, m, rfl, rfl, m0, ?_⟩⟩
          exact Z _ _ (Int.emod_nonneg _ (by omega)) (Int.emod_lt_of_pos _ m0) (s1.trans SX.put) ⟨a, ns, i + 1, _, y, upd_same, by omega, c0, c1, hy, hG1.trans SX.put, hS⟩
theorem ok_lpick {f g : Addr} {fd gd : FuncData} {k : Nat} (F : Fun K "_law_pick" "_law_pick" s_lpick f fd) (ml : mg "len" = none)
    (G : FnOk P w K mg base CX0 k g gd ["_law_row", "_law_many"] (spTaken K)) (mgG : mg "_law_taken" = some (.ref g)) (kp : PySem.W.keepIn K (.ref g) = true) (b : Binds K gd ["_law_row", "_law_many"] []) : FnOk P w K mg base CX0 (k + 1) f fd ["_law_row", "_law_things"] (spPick K) := by
  refine F.ok sc_lpick (fun vs H Q E h => ?_) (fun cdv A outer s H vs Q E hr h => ?_)
  · obtain ⟨B, r, t, us, rfl, _⟩ := h
    rfl
  · obtain ⟨B, r, t, us, rfl, ht, ne, h0, h1, hw, Z⟩ := h
    refine ⟨_, pss_one (ps_ret (pe_ix ix_list (pv 1) (pe_call G hr (by rfl) mgG kp b .nil pass0 (pa_cons (pv 0) (pa_cons (pe_callB call_len_seq (by rfl) ml PySem.boot_len (pa_cons (pv 1) pa_nil)) pa_nil))) (fun _ _ => rfl))), ?_⟩
    refine ⟨_, rfl, _, rfl, _, rfl, t, us, rfl, .inl ht, B, r, (us.length : Int), rfl, by omega, by omega, hw, fun H' j j0 j1 s hw' => ?_⟩
    have hj : j.toNat < us.length := by omega
    refine ⟨t, us, j, us[j.toNat], rfl, rfl, s.seqL ne ht, ?_, Z j.toNat _ H' (List.getElem?_eq_getElem hj) s hw'⟩
    have e := atI_nat (List.getElem?_eq_getElem hj)
    rw [Int.toNat_of_nonneg j0] at e
    exact e
theorem ok_lrate {f g t : Addr} {fd gd td : FuncData} {k : Nat} (F : Fun K "_law_rate" "_law_rate" s_lrate f fd)
    (G : FnOk P w K mg base CX0 k g gd ["_law_row", "_law_many"] (spTaken K)) (mgG : mg "_law_taken" = some (.ref g)) (kp : PySem.W.keepIn K (.ref g) = true) (b : Binds K gd ["_law_row", "_law_many"] [])
    (T : FnOk P w K mg base CX0 k t td ["_law_numerator", "_law_denominator"] spRed) (mgT : mg "_law_ratio" = some (.ref t)) (kpT : PySem.W.keepIn K (.ref t) = true) (bT : Binds K td ["_law_numerator", "_law_denominator"] []) : FnOk P w K mg base CX0 (k + 1) f fd ["_law_row"] (spRate K) := by
  refine F.ok sc_lrate (fun vs H Q E h => ?_) (fun cdv A outer s H vs Q E hr h => ?_)
  · obtain ⟨B, r, rfl, _⟩ := h
    rfl
  · obtain ⟨B, r, rfl, hw, Z⟩ := h
    refine ⟨_, pss_one (ps_ret (pe_call T hr (by rfl) mgT kpT bT .nil pass0 (pa_cons (pe_op op_add pe_int (pe_call G hr (by rfl) mgG kp b .nil pass0 (pa_cons (pv 0) (pa_cons pe_int pa_nil)))) (pa_cons (pe_op op_add pe_int (pe_call G hr (by rfl) mgG kp b .nil pass0 (pa_cons (pv 0) (pa_cons pe_int pa_nil)))) pa_nil)))), ?_⟩
    refine ⟨_, rfl, B, r, 6, rfl, by decide, by decide, hw, fun H1 i i0 i1 s1 hw1 => ⟨1, i, rfl, rfl, ?_⟩⟩
    refine ⟨_, rfl, B, r, 3, rfl, by decide, by decide, hw1, fun H2 j j0 j1 s2 hw2 => ⟨1, j, rfl, rfl, ?_⟩⟩
    refine ⟨1 + i, (1 + j).toNat, ?_, by omega, small9000 (by omega), fun p hp => ?_⟩
    · show [V.int (1 + i), V.int (1 + j)] = [V.int (1 + i), V.int ((1 + j).toNat : Nat)]
      rw [Int.toNat_of_nonneg (by omega)]
    · have hz : (1 + j).toNat ≠ 0 := by omega
      have sm : Sm 10 (mkRat (1 + i) (1 + j).toNat) := by
        constructor
        · refine Nat.lt_of_le_of_lt (red_num_le _ _) ?_
          omega
        · refine Nat.lt_of_le_of_lt (red_den_le _ _ hz) ?_
          omega
      exact Z _ (.ref p) _ (mkRat_pos (by omega) hz) sm ((s1.trans s2).trans (SX.of (same_upd hp))) (hw2.same (same_upd hp)) RT.new
end
end K96

/-! the law's list of all orders -/
namespace K96
open PySem PySem.Spec PyProof.Rows L2
/-- v is a tuple of these parts -/
def OT (K : PySem.W.Frag) (H : Hp) (v : V) (l : List Nat) : Prop := ∃ a, v = .ref a ∧ SqT K H a (l.map nv)
structure OTs (K : PySem.W.Frag) (H : Hp) (vs : List V) (ls : List (List Nat)) : Prop where
  len : vs.length = ls.length
  pl : ∀ (i : Nat) (v : V) (l : List Nat), vs[i]? = some v → ls[i]? = some l → OT K H v l
theorem OT.same {K : PySem.W.Frag} {H H' : Hp} {v : V} {l : List Nat} (e : Same H H') (h : OT K H v l) : OT K H' v l := by
  obtain ⟨a, rfl, h⟩ := h
  exact ⟨a, rfl, same_seqT e h⟩
theorem OTs.same {K : PySem.W.Frag} {H H' : Hp} {vs : List V} {ls : List (List Nat)} (e : Same H H') (h : OTs K H vs ls) : OTs K H' vs ls := ⟨h.len, fun i v l a b => (h.pl i v l a b).same e⟩
theorem SX.ot {K : PySem.W.Frag} {r : Addr} {H H' : Hp} {x : List V} {v : V} {l : List Nat} (e : SX r H H') (hr : H r = some (.lst x)) (h : OT K H v l) : OT K H' v l := by
  obtain ⟨a, rfl, h⟩ := h
  exact ⟨a, rfl, e.seqT hr h⟩
theorem SX.ots {K : PySem.W.Frag} {r : Addr} {H H' : Hp} {x : List V} {vs : List V} {ls : List (List Nat)} (e : SX r H H') (hr : H r = some (.lst x)) (h : OTs K H vs ls) : OTs K H' vs ls := ⟨h.len, fun i v l a b => e.ot hr (h.pl i v l a b)⟩
theorem OTs.nil {K : PySem.W.Frag} {H : Hp} : OTs K H [] [] := ⟨rfl, fun i v l h => by simp at h⟩
theorem OTs.append {K : PySem.W.Frag} {H : Hp} {vs us : List V} {ls ms : List (List Nat)} (h : OTs K H vs ls) (g : OTs K H us ms) : OTs K H (vs ++ us) (ls ++ ms) := by
  refine ⟨by rw [List.length_append, List.length_append, h.len, g.len], fun i v l a b => ?_⟩
  by_cases hi : i < vs.length
  · rw [List.getElem?_append_left hi] at a
    rw [List.getElem?_append_left (by rw [← h.len]; exact hi)] at b
    exact h.pl i v l a b
  · rw [List.getElem?_append_right (by omega)] at a
    rw [List.getElem?_append_right (by rw [← h.len]; omega), ← h.len] at b
    exact g.pl _ v l a b
theorem OTs.one {K : PySem.W.Frag} {H : Hp} {v : V} {l : List Nat} (h : OT K H v l) : OTs K H [v] [l] := ⟨rfl, fun i u m a b => by
  cases i with
  | zero =>
    cases a
    cases b
    exact h
  | succ i => simp at a⟩
theorem inV_nv (k : Nat) : ∀ l : List Nat, inV (nv k) (l.map nv) = l.contains k
  | [] => rfl
  | a :: r => by
    have ih := inV_nv k r
    unfold inV at ih ⊢
    rw [List.map_cons, List.any_cons, ih, List.contains_cons]
    congr 1
    show ((a : Int) == (k : Int)) = (k == a)
    rw [Bool.eq_iff_iff]
    simp
    omega
theorem flat_nv : ∀ l : List Nat, (l.map nv).all flatV = true
  | [] => rfl
  | a :: r => by
    rw [List.map_cons, List.all_cons, flat_nv r]
    rfl
/-- the orders one longer, as far as they have come -/
def extTo (i : Nat) (l : List Nat) : List (List Nat) := ((List.range i).filter fun k => !l.contains k).map fun k => l ++ [k]
theorem extTo_all (n : Nat) (l : List Nat) : extTo n l = ext n l := rfl
theorem extTo_yes {i : Nat} {l : List Nat} (h : l.contains i = false) : extTo (i + 1) l = extTo i l ++ [l ++ [i]] := by
  unfold extTo
  rw [List.range_succ, List.filter_append, List.map_append, List.filter_cons_of_pos (by rw [h]; rfl)]
  rfl
theorem extTo_no {i : Nat} {l : List Nat} (h : l.contains i = true) : extTo (i + 1) l = extTo i l := by
  unfold extTo
  rw [List.range_succ, List.filter_append, List.map_append, List.filter_cons_of_neg (by rw [h]; exact Bool.false_ne_true)]
  exact List.append_nil _
theorem extTo_len (i : Nat) (l : List Nat) : (extTo i l).length ≤ i := ext_len i l
theorem pow5 {n t : Nat} (hn : n ≤ 5) (ht : t ≤ 5) : n ^ t ≤ 3125 :=
  Nat.le_trans (Nat.pow_le_pow_left hn t) (Nat.le_trans (Nat.pow_le_pow_right (by decide) ht) (by decide))
theorem size_ok {n : Nat} (h : n ≤ 100000) : n < sizeLine := Nat.lt_of_le_of_lt h (by decide)
theorem longer_take {n i : Nat} {ls : List (List Nat)} {l : List Nat} (h : ls[i]? = some l) : longer n (ls.take (i + 1)) = longer n (ls.take i) ++ ext n l := by
  rw [List.take_add_one, h]
  show longer n (ls.take i ++ [l]) = _
  rw [longer_append, longer_one]
def spOrders (K : PySem.W.Frag) : Sp := fun vs H Q _ => ∃ n : Nat, vs = [nv n] ∧ n ≤ 5 ∧ ∀ H' p us, Same H H' → H' p = some (.lst us) → OTs K H' us (orders n) → Q (.ref p) H'
section
variable {P : Program} {w : World} {K : PySem.W.Frag} {mg : Str → Option Value} {base : Heap}
theorem ok_lorders {f : Addr} {fd : FuncData} {k : Nat} (F : Fun K "_law_orders" "_law_orders" s_lorders f fd) (mr : mg "range" = none) : FnOk P w K mg base CX0 (k + 1) f fd ["_law_many"] (spOrders K) := by
  refine F.ok sc_lorders (fun vs H Q E h => ?_) (fun cdv A outer s H vs Q E hr h => ?_)
  · obtain ⟨n, rfl, _⟩ := h
    rfl
  · obtain ⟨n, rfl, hn, Z⟩ := h
    refine ⟨_, pss_cons (ps_set (i := 1) sc_lorders.nd rfl (.inl rfl) (pe_lst (pa_cons (pe_tup pa_nil) pa_nil)))
      (pss_cons (ps_for PassesOwn.never rfl (pi_range1 (by rfl) mr (pa_cons (pv 0) pa_nil)) (pg_name (i := 2) sc_lorders.nd rfl (.inl rfl))
        (pss_cons (ps_set (i := 3) sc_lorders.nd rfl (.inl rfl) (pe_lst pa_nil))
        (pss_cons (ps_for PassesOwn.never rfl (pi_list (pv 1)) (pg_name (i := 4) sc_lorders.nd rfl (.inr rfl))
          (pss_one (ps_set (i := 3) sc_lorders.nd rfl (.inl rfl) (pe_op op_cat (pv 3)
            (pe_lc (own := [("_law_k", 5)]) (g := gName 5) (by rfl) sc_lorders.nd (pi_range1 (by rfl) mr (pa_cons (pv 0) pa_nil)) (blkOk_by (own := [("_law_k", 5)]) (N := ["_law_many", "_law_found", "_law_turn", "_law_longer", "_law_some", "_law_k"]) (sc := defScope s_lorders) (by decide +kernel)) (fun _ _ _ _ _ => pg_name (i := 5) sc_lorders.nd rfl (Or.inl rfl))
              (fun _ _ _ _ _ => pts_one (pt_cmpR (r := rIn K true) op_notIn_seq (pv 5) (pv 4) (by rfl)))
              (fun _ _ _ _ _ => pe_op (r := rCatA K) op_catA (pv 4) (pe_tup (pa_cons (pv 5) pa_nil))))))))
        (pss_one (ps_set (i := 1) sc_lorders.nd rfl (.inl rfl) (pv 3))))))
      (pss_one (ps_ret (pv 1)))), ?_⟩
    refine ⟨Nat.zero_le _, fun t0 ht0 => ⟨by show 1 ≤ sizeLine; decide, fun f0 hf0 => ?_⟩⟩
    have s1 : Same H (upd H t0 (.tup [])) := same_upd ht0
    have s2 := s1.trans (same_upd (o := .lst [.ref t0]) hf0)
    have o0 : OTs K (upd (upd H t0 (.tup [])) f0 (.lst [.ref t0])) [.ref t0] (ordersN n 0) := OTs.one ⟨t0, rfl, SqT.of (by rw [upd_ne (ne_of_none upd_same hf0)]; exact upd_same)⟩
    refine ⟨_, rfl, (n : Int), rfl, by omega, by omega, for_range (lo := 0) (n := n) (fun i σ H' => Same H H' ∧ ∃ (fo : Addr) (us : List V) (x2 x3 x4 x5 : Option V), σ = [some (nv n), some (.ref fo), x2, x3, x4, x5] ∧ H' fo = some (.lst us) ∧ OTs K H' us (ordersN n i))
      ⟨s2, f0, [.ref t0], none, none, none, none, rfl, upd_same, o0⟩ (fun i σ H' hi h => ?_) (fun σ H' h => ?_)⟩
    · obtain ⟨sm, fo, us, x2, x3, x4, x5, rfl, efo, hus⟩ := h
      refine ⟨Nat.zero_le _, fun lg hlg => ?_⟩
      have s3 : Same H' (upd H' lg (.lst [])) := same_upd hlg
      have b1 : (ordersN n i).length ≤ 3125 := Nat.le_trans (ordersN_len n i) (pow5 hn (by omega))
      refine ⟨_, rfl, fo, rfl, ⟨us, s3.seq (SqL.of efo)⟩, for_list (K := K) (a := fo) (xs := us) (fun j σ H2 => Same H' H2 ∧ ∃ (lg : Addr) (vs : List V) (x4 x5 : Option V), σ = [some (nv n), some (.ref fo), some (.int (0 + (i : Int))), some (.ref lg), x4, x5] ∧ H2 lg = some (.lst vs) ∧ OTs K H2 vs (longer n ((ordersN n i).take j)))
        ⟨s3, lg, [], x4, x5, rfl, upd_same, OTs.nil⟩ (fun j σ H2 _ h => h.1.seq (SqL.of efo)) (fun j x σ H2 hx h => ?_) (fun σ H2 h => ?_)⟩
      · obtain ⟨s4, lg, vs, y4, y5, rfl, elg, hvs⟩ := h
        obtain ⟨l, hl⟩ := at_or hus.len hx
        obtain ⟨so, rfl, hso⟩ := (hus.pl j x l hx hl).same s4
        have o := mem_ordersN.mp (List.mem_of_getElem? hl)
        have hj : j < (ordersN n i).length := (List.getElem?_eq_some_iff.mp hl).1
        refine ⟨_, rfl, _, rfl, (n : Int), rfl, by omega, by omega, fun D hD => lc_range (lo := 0) (n := n) (fun m H3 => Same H2 H3 ∧ ∃ ws, H3 D = some (.lst ws) ∧ OTs K H3 ws (extTo m l)) ⟨same_upd hD, [], upd_same, OTs.nil⟩ (fun m H3 hm h => ?_) (fun H3 h => ?_)⟩
        · obtain ⟨s5, ws, eD, hws⟩ := h
          have hso3 : SqT K H3 so (l.map nv) := same_seqT s5 hso
          have em : V.int (0 + (m : Int)) = nv m := by rw [Int.zero_add]
          refine ⟨rfl, _, rfl, _, rfl, so, l.map nv, rfl, .inr hso3, rfl, flat_nv l, ?_⟩
          rw [if_pos rfl, em, inV_nv]
          refine ⟨_, rfl, ?_⟩
          cases hc : l.contains m with
          | true =>
            refine iteF ⟨s5, ws, eD, ?_⟩
            rw [extTo_no hc]
            exact hws
          | false =>
            have bw : ws.length ≤ 5 := by
              have := extTo_len m l
              rw [hws.len]
              omega
            have bl : l.length ≤ 5 := by
              rw [o.len]
              omega
            have key : ∀ (H4 : Hp) (p : Addr), Same H3 H4 → H4 p = some (.tup ((l ++ [m]).map nv)) → ∃ acc, H4 D = some (.lst acc) ∧ acc.length < sizeLine ∧ (Same H2 (upd H4 D (.lst (acc ++ [.ref p]))) ∧ ∃ ws, upd H4 D (.lst (acc ++ [.ref p])) D = some (.lst ws) ∧ OTs K (upd H4 D (.lst (acc ++ [.ref p]))) ws (extTo (m + 1) l)) := by
              intro H4 p s6 ep
              have eD4 := s6 _ _ eD
              refine ⟨ws, eD4, size_ok (by omega), same_put (s5.trans s6) hD, _, upd_same, ?_⟩
              rw [extTo_yes hc]
              refine OTs.append (SX.put.ots eD4 (hws.same s6)) (OTs.one (SX.put.ot eD4 ⟨p, rfl, SqT.of ep⟩))
            refine iteT ?_
            refine ⟨_, rfl, _, rfl, by show 1 ≤ sizeLine; decide, fun q hq => ?_⟩
            have s6 : Same H3 (upd H3 q (.tup [nv m])) := same_upd hq
            refine ⟨so, q, l.map nv, [nv m], rfl, rfl, same_seqT s6 hso3, SqT.of upd_same, ?_, fun e0 => ?_, fun _ e1 => absurd e1 (by simp), fun _ _ p hp => ?_⟩
            · rw [List.length_map, List.length_singleton]
              exact Nat.le_of_lt (size_ok (by omega))
            · have el : l = [] := List.map_eq_nil_iff.mp e0
              subst el
              exact key _ q s6 upd_same
            · refine key _ p (s6.trans (same_upd hp)) ?_
              rw [upd_same, List.map_append]
              rfl
        · obtain ⟨s5, ws, eD, hws⟩ := h
          have b2 := longer_len n ((ordersN n i).take j)
          have b3 : ((ordersN n i).take j).length * n ≤ 3125 * 5 := Nat.mul_le_mul (by rw [List.length_take]; omega) hn
          have b4 := extTo_len n l
          have hv := hvs.len
          have hw := hws.len
          refine ⟨lg, D, vs, ws, rfl, rfl, s5 _ _ elg, eD, Nat.le_of_lt (size_ok (by omega)), fun p hp => ?_⟩
          refine ⟨(s4.trans s5).trans (same_upd hp), p, _, _, _, rfl, upd_same, ?_⟩
          rw [longer_take hl]
          exact OTs.append ((hvs.same s5).same (same_upd hp)) (hws.same (same_upd hp))
      · obtain ⟨s4, lg, vs, y4, y5, rfl, elg, hvs⟩ := h
        rw [hus.len, List.take_length] at hvs
        exact ⟨_, rfl, sm.trans s4, lg, vs, _, _, _, _, rfl, elg, hvs⟩
    · obtain ⟨sm, fo, us, x2, x3, x4, x5, rfl, efo, hus⟩ := h
      exact ⟨_, rfl, Z H' fo us sm efo hus⟩
end
end K96

/-! the law's comparison -/
namespace K96
open PySem PySem.Spec PyProof.Rows L2
/-- two rows of one kind -/
def Both (K : PySem.W.Frag) (H : Hp) (a b : Addr) (us ws : List V) : Prop := (SqL K H a us ∧ SqL K H b ws) ∨ (SqT K H a us ∧ SqT K H b ws)
/-- alike to a depth -/
def Al (K : PySem.W.Frag) (H : Hp) : Nat → V → V → Prop
  | 0, x, y => ∃ i : Int, x = .int i ∧ y = .int i
  | d + 1, x, y => (∃ i : Int, x = .int i ∧ y = .int i) ∨ ∃ (a b : Addr) (us ws : List V), x = .ref a ∧ y = .ref b ∧ Both K H a b us ws ∧ us.length = ws.length ∧ ws.length ≤ 100 ∧ ∀ (i : Nat) (u v : V), us[i]? = some u → ws[i]? = some v → Al K H d u v
theorem Both.same {K : PySem.W.Frag} {H H' : Hp} {a b : Addr} {us ws : List V} (e : Same H H') (h : Both K H a b us ws) : Both K H' a b us ws := by
  rcases h with ⟨h1, h2⟩ | ⟨h1, h2⟩
  · exact .inl ⟨e.seq h1, e.seq h2⟩
  · exact .inr ⟨same_seqT e h1, same_seqT e h2⟩
theorem Al.same {K : PySem.W.Frag} {H H' : Hp} (e : Same H H') : ∀ {d : Nat} {x y : V}, Al K H d x y → Al K H' d x y
  | 0, _, _, h => h
  | d + 1, _, _, h => by
    rcases h with h | ⟨a, b, us, ws, h1, h2, h3, h4, h5, h6⟩
    · exact .inl h
    · exact .inr ⟨a, b, us, ws, h1, h2, h3.same e, h4, h5, fun i u v p q => (h6 i u v p q).same e⟩
theorem Al.int {K : PySem.W.Frag} {H : Hp} (i : Int) : ∀ {d : Nat}, Al K H d (.int i) (.int i)
  | 0 => ⟨i, rfl, rfl⟩
  | _ + 1 => .inl ⟨i, rfl, rfl⟩
def spAlike (K : PySem.W.Frag) (d : Nat) : Sp := fun vs H Q _ => ∃ x y : V, vs = [x, y] ∧ Al K H d x y ∧ ∀ H', Same H H' → Q (.bl true) H'
theorem kind_no {K : PySem.W.Frag} : PySem.W.kitAny K (.type "int") [.type "tuple", .type "list"] = some false :=
  kitAny_cons (b := false) (kit_ty (by decide +kernel)) (fun _ => kitAny_cons (b := false) (kit_ty (by decide +kernel)) (fun _ => kitAny_nil) (fun h => nomatch h)) (fun h => nomatch h)
theorem kind_list {K : PySem.W.Frag} : PySem.W.kitAny K (.type "list") [.type "tuple", .type "list"] = some true :=
  kitAny_cons (b := false) (kit_ty (by decide +kernel)) (fun _ => kitAny_cons (b := true) (kit_ty (by decide +kernel)) (fun h => nomatch h) (fun _ => rfl)) (fun h => nomatch h)
theorem kind_tuple {K : PySem.W.Frag} : PySem.W.kitAny K (.type "tuple") [.type "tuple", .type "list"] = some true :=
  kitAny_cons (b := true) (kit_ty (by decide +kernel)) (fun h => nomatch h) (fun _ => rfl)
/-- the kind of a row -/
theorem both_kind {K : PySem.W.Frag} {H : Hp} {a b : Addr} {us ws : List V} (h : Both K H a b us ws) : ∃ (T : Value) (k : Bool), TyX K H (.ref a) T ∧ TyX K H (.ref b) T ∧ PySem.W.kitAny K T [.type "tuple", .type "list"] = some true ∧ PySem.W.kitOne K T (.type "list") = some k := by
  rcases h with ⟨h1, h2⟩ | ⟨h1, h2⟩
  · exact ⟨_, true, tyx_list h1, tyx_list h2, kind_list, kit_ty (by decide +kernel)⟩
  · exact ⟨_, false, tyx_tup h1, tyx_tup h2, kind_tuple, kit_ty (by decide +kernel)⟩
theorem both_len {K : PySem.W.Frag} {H : Hp} {a b : Addr} {us ws : List V} (h : Both K H a b us ws) : (SqL K H a us ∨ SqT K H a us) ∧ (SqL K H b ws ∨ SqT K H b ws) := by
  rcases h with ⟨h1, h2⟩ | ⟨h1, h2⟩
  · exact ⟨.inl h1, .inl h2⟩
  · exact ⟨.inr h1, .inr h2⟩
section
variable {P : Program} {w : World} {K : PySem.W.Frag} {mg : Str → Option Value} {base : Heap}
theorem ok_lalike {f : Addr} {fd : FuncData} (F : Fun K "_law_alike" "_law_alike" s_lalike f fd) (ms : mg "isinstance" = none) (mt : mg "tuple" = none) (ml : mg "list" = none) (mst : mg "str" = none) (mi : mg "int" = none) (mb : mg "bool" = none) (mn : mg "len" = none) (mr : mg "range" = none)
    (mgF : mg "_law_alike" = some (.ref f)) (b : Binds K fd ["_law_found", "_law_due"] []) : ∀ d, FnOk P w K mg base CX0 (d + 1) f fd ["_law_found", "_law_due"] (spAlike K d)
  | 0 => by
    refine F.ok sc_lalike (fun vs H Q E h => ?_) (fun cdv A outer s H vs Q E hr h => ?_)
    · obtain ⟨x, y, rfl, _⟩ := h
      rfl
    · obtain ⟨_, _, rfl, ⟨i, rfl, rfl⟩, Z⟩ := h
      refine ⟨_, pss_cons (ps_if (pt_val (pe_callB call_isiT (by rfl) ms boot_isinstance (pa_cons (pv 1) (pa_cons (pe_tup (pa_cons (pe_bltn (v := .ty "tuple") (by rfl) mt boot_tuple rfl) (pa_cons (pe_bltn (v := .ty "list") (by rfl) ml boot_list rfl) pa_nil))) pa_nil)))) pss_never pss_nil)
        (pss_cons (ps_if (PW.pt (pw_or (pt_cmpR op_isN (pv 1) pe_non (nomark _)) (pw_or1 (pt_val (pe_callB call_isi (by rfl) ms boot_isinstance (pa_cons (pv 1) (pa_cons (pe_bltn (v := .ty "str") (by rfl) mst boot_str rfl) pa_nil))))))) pss_never pss_nil)
        (pss_one (ps_ret (pe_and (pe_callB call_isi (by rfl) ms boot_isinstance (pa_cons (pv 0) (pa_cons (pe_bltn (v := .ty "int") (by rfl) mi boot_int rfl) pa_nil))) (pe_and (pe_cmpR op_eq (pe_callB call_isi (by rfl) ms boot_isinstance (pa_cons (pv 0) (pa_cons (pe_bltn (v := .ty "bool") (by rfl) mb boot_bool rfl) pa_nil))) (pe_callB call_isi (by rfl) ms boot_isinstance (pa_cons (pv 1) (pa_cons (pe_bltn (v := .ty "bool") (by rfl) mb boot_bool rfl) pa_nil))) (nomark _)) (pe_one (pe_cmpR op_eq (pv 0) (pv 1) (nomark _)))))))), ?_⟩
      refine ⟨_, rfl, by show 2 ≤ sizeLine; decide, fun tp htp => ?_⟩
      refine ⟨_, tp, _, _, _, false, rfl, upd_same, .cons (.ty _) (.cons (.ty _) .nil), .base (.int _), kind_no, false, rfl, iteF ?_⟩
      refine ⟨_, rfl, rfl, false, rfl, iteF ⟨_, rfl, _, _, _, _, false, rfl, .ty _, .base (.int _), kit_ty (by decide +kernel), false, rfl, iteF ?_⟩⟩
      refine ⟨_, rfl, _, _, _, _, true, rfl, .ty _, .base (.int _), kit_ty (by decide +kernel), true, rfl, iteT ?_⟩
      refine ⟨_, rfl, _, _, _, _, false, rfl, .ty _, .base (.int _), kit_ty (by decide +kernel), _, rfl, _, _, _, _, false, rfl, .ty _, .base (.int _), kit_ty (by decide +kernel), rfl, true, rfl, iteT ?_⟩
      refine ⟨_, rfl, _, rfl, rfl, ?_⟩
      rw [decide_eq_true rfl]
      exact Z _ (same_upd htp)
  | d + 1 => by
    have G := ok_lalike F ms mt ml mst mi mb mn mr mgF b d
    refine F.ok sc_lalike (fun vs H Q E h => ?_) (fun cdv A outer s H vs Q E hr h => ?_)
    · obtain ⟨x, y, rfl, _⟩ := h
      rfl
    obtain ⟨_, _, rfl, h, Z⟩ := h
    rcases h with ⟨i, rfl, rfl⟩ | ⟨a, c, us, ws, rfl, rfl, hB, hl, h100, hA⟩
    · refine ⟨_, pss_cons (ps_if (pt_val (pe_callB call_isiT (by rfl) ms boot_isinstance (pa_cons (pv 1) (pa_cons (pe_tup (pa_cons (pe_bltn (v := .ty "tuple") (by rfl) mt boot_tuple rfl) (pa_cons (pe_bltn (v := .ty "list") (by rfl) ml boot_list rfl) pa_nil))) pa_nil)))) pss_never pss_nil)
        (pss_cons (ps_if (PW.pt (pw_or (pt_cmpR op_isN (pv 1) pe_non (nomark _)) (pw_or1 (pt_val (pe_callB call_isi (by rfl) ms boot_isinstance (pa_cons (pv 1) (pa_cons (pe_bltn (v := .ty "str") (by rfl) mst boot_str rfl) pa_nil))))))) pss_never pss_nil)
        (pss_one (ps_ret (pe_and (pe_callB call_isi (by rfl) ms boot_isinstance (pa_cons (pv 0) (pa_cons (pe_bltn (v := .ty "int") (by rfl) mi boot_int rfl) pa_nil))) (pe_and (pe_cmpR op_eq (pe_callB call_isi (by rfl) ms boot_isinstance (pa_cons (pv 0) (pa_cons (pe_bltn (v := .ty "bool") (by rfl) mb boot_bool rfl) pa_nil))) (pe_callB call_isi (by rfl) ms boot_isinstance (pa_cons (pv 1) (pa_cons (pe_bltn (v := .ty "bool") (by rfl) mb boot_bool rfl) pa_nil))) (nomark _)) (pe_one (pe_cmpR op_eq (pv 0) (pv 1) (nomark _)))))))), ?_⟩
      refine ⟨_, rfl, by show 2 ≤ sizeLine; decide, fun tp htp => ?_⟩
      refine ⟨_, tp, _, _, _, false, rfl, upd_same, .cons (.ty _) (.cons (.ty _) .nil), .base (.int _), kind_no, false, rfl, iteF ?_⟩
      refine ⟨_, rfl, rfl, false, rfl, iteF ⟨_, rfl, _, _, _, _, false, rfl, .ty _, .base (.int _), kit_ty (by decide +kernel), false, rfl, iteF ?_⟩⟩
      refine ⟨_, rfl, _, _, _, _, true, rfl, .ty _, .base (.int _), kit_ty (by decide +kernel), true, rfl, iteT ?_⟩
      refine ⟨_, rfl, _, _, _, _, false, rfl, .ty _, .base (.int _), kit_ty (by decide +kernel), _, rfl, _, _, _, _, false, rfl, .ty _, .base (.int _), kit_ty (by decide +kernel), rfl, true, rfl, iteT ?_⟩
      refine ⟨_, rfl, _, rfl, rfl, ?_⟩
      rw [decide_eq_true rfl]
      exact Z _ (same_upd htp)
    · refine ⟨_, pss_cons (ps_if (pt_val (pe_callB call_isiT (by rfl) ms boot_isinstance (pa_cons (pv 1) (pa_cons (pe_tup (pa_cons (pe_bltn (v := .ty "tuple") (by rfl) mt boot_tuple rfl) (pa_cons (pe_bltn (v := .ty "list") (by rfl) ml boot_list rfl) pa_nil))) pa_nil))))
          (pss_cons (ps_if (PW.pt (pw_or (pt_not (pt_val (pe_callB call_isiT (by rfl) ms boot_isinstance (pa_cons (pv 0) (pa_cons (pe_tup (pa_cons (pe_bltn (v := .ty "tuple") (by rfl) mt boot_tuple rfl) (pa_cons (pe_bltn (v := .ty "list") (by rfl) ml boot_list rfl) pa_nil))) pa_nil))))) (pw_or1 (pt_cmpR op_ne (pe_callB call_isi (by rfl) ms boot_isinstance (pa_cons (pv 0) (pa_cons (pe_bltn (v := .ty "list") (by rfl) ml boot_list rfl) pa_nil))) (pe_callB call_isi (by rfl) ms boot_isinstance (pa_cons (pv 1) (pa_cons (pe_bltn (v := .ty "list") (by rfl) ml boot_list rfl) pa_nil))) (nomark _))))) pss_never pss_nil)
          (pss_cons (ps_if (pt_cmpR op_ne (pe_callB call_len_seq (by rfl) mn PySem.boot_len (pa_cons (pv 0) pa_nil)) (pe_callB call_len_seq (by rfl) mn PySem.boot_len (pa_cons (pv 1) pa_nil)) (nomark _)) pss_never pss_nil)
          (pss_one (ps_ret (pe_cmpR (op_eqD hr.units)
            (pe_lc (own := [("_law_k", 2)]) (g := gName 2) (by rfl) sc_lalike.nd (pi_range1 (by rfl) mr (pa_cons (pe_callB call_len_seq (by rfl) mn PySem.boot_len (pa_cons (pv 1) pa_nil)) pa_nil)) (blkOk_by (own := [("_law_k", 2)]) (N := ["_law_found", "_law_due", "_law_k"]) (sc := defScope s_lalike) (by decide +kernel)) (fun _ _ _ _ _ => pg_name (i := 2) sc_lalike.nd rfl (Or.inl rfl))
              (fun _ _ _ _ _ => pts_one (pt_not (pt_val (pe_call G hr (by rfl) mgF F.kp b .nil pass0 (pa_cons (pe_ix (r := rIx K) ix_seq (pv 0) (pv 2) (fun _ _ => rfl)) (pa_cons (pe_ix (r := rIx K) ix_seq (pv 1) (pv 2) (fun _ _ => rfl)) pa_nil))))))
              (fun _ _ _ _ _ => pv 2))
            (pe_lst pa_nil) (nomark _)))))) pss_nil) pss_never, ?_⟩
      refine ⟨_, rfl, by show 2 ≤ sizeLine; decide, fun tp htp => ?_⟩
      have s1 : Same H (upd H tp (.tup [.ty "tuple", .ty "list"])) := same_upd htp
      have hB1 := hB.same s1
      obtain ⟨T1, k1, _, t2, t3, _⟩ := both_kind hB1
      refine ⟨_, tp, _, _, _, true, rfl, upd_same, .cons (.ty _) (.cons (.ty _) .nil), t2, t3, true, rfl, iteT ?_⟩
      clear t2 t3
      refine ⟨_, rfl, by show 2 ≤ sizeLine; decide, fun tq htq => ?_⟩
      have s2 := s1.trans (same_upd (o := .tup [.ty "tuple", .ty "list"]) htq)
      have hB2 := hB.same s2
      obtain ⟨T2, k2, t4, t5, t6, t7⟩ := both_kind hB2
      refine ⟨_, tq, _, _, _, true, rfl, upd_same, .cons (.ty _) (.cons (.ty _) .nil), t4, t6, true, rfl, iteF ?_⟩
      refine ⟨_, rfl, _, _, _, _, k2, rfl, .ty _, t4, t7, _, rfl, _, _, _, _, k2, rfl, .ty _, t5, t7, rfl, false, by rw [decide_eq_true rfl]; rfl, iteF ?_⟩
      obtain ⟨l1, l2⟩ := both_len hB2
      refine ⟨_, rfl, a, _, rfl, l1, _, rfl, c, _, rfl, l2, rfl, false, by rw [hl, decide_eq_true rfl]; rfl, iteF ?_⟩
      refine ⟨_, rfl, c, _, rfl, l2, (ws.length : Int), rfl, by omega, by omega, fun D hD => lc_range (lo := 0) (n := ws.length) (fun i H' => Same (upd (upd H tp (.tup [.ty "tuple", .ty "list"])) tq (.tup [.ty "tuple", .ty "list"])) H' ∧ H' D = some (.lst [])) ⟨same_upd hD, upd_same⟩ (fun i H' hi h => ?_) (fun H' h => ?_)⟩
      · have em : V.int (0 + (i : Int)) = nv i := by rw [Int.zero_add]
        have hBi := hB2.same h.1
        have gu : us[i]? = some us[i] := List.getElem?_eq_getElem (by omega)
        have gw : ws[i]? = some ws[i] := List.getElem?_eq_getElem hi
        have hAl := ((hA i _ _ gu gw).same s2).same h.1
        rw [em]
        refine ⟨rfl, ?_⟩
        have fin : ∀ H2, Same H' H2 → (if (!true) = true then tVar 2 [some (V.ref a), some (V.ref c), some (nv i)] H2 (fun y H4 => ∃ acc, H4 D = some (.lst acc) ∧ acc.length < sizeLine ∧ (Same (upd (upd H tp (.tup [.ty "tuple", .ty "list"])) tq (.tup [.ty "tuple", .ty "list"])) (upd H4 D (.lst (acc ++ [y]))) ∧ upd H4 D (.lst (acc ++ [y])) D = some (.lst []))) else (Same (upd (upd H tp (.tup [.ty "tuple", .ty "list"])) tq (.tup [.ty "tuple", .ty "list"])) H2 ∧ H2 D = some (.lst []))) :=
          fun H2 s => iteF ⟨h.1.trans s, s _ _ h.2⟩
        rcases hBi with ⟨b1, b2⟩ | ⟨b1, b2⟩
        · exact ⟨_, rfl, _, rfl, .inl ⟨a, _, _, _, rfl, rfl, b1, atI_nat gu, _, rfl, _, rfl, .inl ⟨c, _, _, _, rfl, rfl, b2, atI_nat gw, _, _, rfl, hAl, fun H2 s => ⟨true, rfl, fin H2 s⟩⟩⟩⟩
        · exact ⟨_, rfl, _, rfl, .inr (.inl ⟨a, _, _, _, rfl, rfl, b1, atI_nat gu, _, rfl, _, rfl, .inr (.inl ⟨c, _, _, _, rfl, rfl, b2, atI_nat gw, _, _, rfl, hAl, fun H2 s => ⟨true, rfl, fin H2 s⟩⟩)⟩)⟩
      · refine ⟨Nat.zero_le _, fun p hp => ?_⟩
        refine ⟨_, _, .lst (SqL.of (by rw [upd_ne (ne_of_none h.2 hp)]; exact h.2)) .nil, .lst (SqL.of upd_same) .nil, rfl, rfl, ?_⟩
        exact Z _ ((s2.trans h.1).trans (same_upd hp))
end
end K96

/-! facts for the law: what stands, what the numbers say -/
namespace K96
open PySem PySem.Spec PyProof.Rows L2
/-! ### plain facts -/
theorem fold_sumC {f : Nat → Rat} : ∀ (l : List Nat) (u : Rat), (l.map f).foldl (· + ·) u = u + sumC f l
  | [], u => (Rat.add_zero u).symm
  | a :: r, u => by
    show (r.map f).foldl (· + ·) (u + f a) = u + (f a + sumC f r)
    rw [fold_sumC r, Rat.add_assoc]
theorem sum_cast : ∀ xs : List Nat, (xs.map fun k : Nat => (k : Int)).sum = ((xs.sum : Nat) : Int)
  | [] => rfl
  | a :: r => by
    rw [List.map_cons, List.sum_cons, List.sum_cons, sum_cast r, Int.natCast_add]
theorem sum_le (m : Nat) : ∀ xs : List Nat, (∀ x ∈ xs, x ≤ m) → xs.sum ≤ m * xs.length
  | [], _ => Nat.zero_le _
  | a :: r, h => by
    have ih := sum_le m r fun x hx => h x (List.mem_cons_of_mem _ hx)
    have h1 := h a List.mem_cons_self
    rw [List.sum_cons, List.length_cons, Nat.mul_add]
    omega
theorem sum_pos : ∀ xs : List Nat, xs ≠ [] → (∀ x ∈ xs, 1 ≤ x) → 1 ≤ xs.sum
  | [], h, _ => absurd rfl h
  | a :: r, _, h => by
    have h1 := h a List.mem_cons_self
    rw [List.sum_cons]
    omega
theorem pow9000 {d : Nat} (h : d < 1024) : d < 2 ^ 9000 := by
  have e : ∀ n : Nat, 10 ≤ n → d < 2 ^ n := fun n hn => Nat.lt_of_lt_of_le (show d < 2 ^ 10 from h) (Nat.pow_le_pow_right (by decide) hn)
  exact e 9000 (by decide)
theorem mkRat_sm {n : Int} {d : Nat} (hn : n.natAbs < 1024) (hd : d < 1024) (h0 : d ≠ 0) : Sm 10 (mkRat n d) :=
  ⟨Nat.lt_of_le_of_lt (red_num_le _ _) hn, Nat.lt_of_le_of_lt (red_den_le _ _ h0) hd⟩
/-- t[:j + 1] -/
theorem cut_to (xs : List V) (j : Nat) : cutV xs none (some ((j : Int) + 1)) = xs.take (j + 1) := by
  unfold cutV
  rw [show ((j : Int) + 1) = ((j + 1 : Nat) : Int) by omega, HT.sIx_none, HT.sIx_nat, List.drop_zero, Nat.sub_zero]
  by_cases h : j + 1 ≤ xs.length
  · rw [Nat.min_eq_left h]
  · rw [Nat.min_eq_right (by omega), List.take_length, List.take_of_length_le (by omega)]
theorem cut_whole (xs : List V) (j : Nat) (h : HT.sIx xs.length 0 none = 0 ∧ HT.sIx xs.length xs.length (some ((j : Int) + 1)) = xs.length) : xs.take (j + 1) = xs := by
  have h2 := h.2
  rw [show ((j : Int) + 1) = ((j + 1 : Nat) : Int) by omega, HT.sIx_nat] at h2
  exact List.take_of_length_le (by omega)
theorem sumC_sm {c : Nat → Rat} {m : Nat} : ∀ (l : List Nat), (∀ k ∈ l, Sm 10 (c k)) → Sm (12 * l.length + 1) (sumC c l)
  | [], _ => sm_zero
  | a :: r, h => by
    have ih := sumC_sm (m := m) r fun k hk => h k (List.mem_cons_of_mem _ hk)
    exact ((h a List.mem_cons_self).add ih).up (by rw [List.length_cons]; omega)
/-! ### the shares that fall -/
/-- the places at which the share grows, as far as they have come -/
def grows (s : Nat → Rat) (l : List Nat) (i : Nat) : List Nat := ((List.range i).filter fun a => decide (s (l.getD a 0) < s (l.getD (a + 1) 0))).map fun a => a + 1
theorem grows_yes {s : Nat → Rat} {l : List Nat} {i : Nat} (h : s (l.getD i 0) < s (l.getD (i + 1) 0)) : grows s l (i + 1) = grows s l i ++ [i + 1] := by
  unfold grows
  rw [List.range_succ, List.filter_append, List.map_append, List.filter_cons_of_pos (by rw [decide_eq_true h])]
  rfl
theorem grows_no {s : Nat → Rat} {l : List Nat} {i : Nat} (h : ¬ s (l.getD i 0) < s (l.getD (i + 1) 0)) : grows s l (i + 1) = grows s l i := by
  unfold grows
  rw [List.range_succ, List.filter_append, List.map_append, List.filter_cons_of_neg (by rw [decide_eq_false h]; exact Bool.false_ne_true)]
  exact List.append_nil _
theorem grows_len (s : Nat → Rat) (l : List Nat) (i : Nat) : (grows s l i).length ≤ i := by
  unfold grows
  rw [List.length_map]
  refine Nat.le_trans (List.length_filter_le _ _) ?_
  rw [List.length_range]
  exact Nat.le_refl i
theorem grows_none {s : Nat → Rat} {l : List Nat} : (grows s l (l.length - 1)).isEmpty = true ↔ Falls s l := by
  rw [falls_iff, List.isEmpty_iff]
  unfold grows
  rw [List.map_eq_nil_iff, List.filter_eq_nil_iff]
  constructor
  · intro h i a b ha hb
    have hb1 := (List.getElem?_eq_some_iff.mp hb).1
    have h1 := h i (List.mem_range.mpr (by omega))
    rw [List.getD_eq_getElem?_getD, ha, List.getD_eq_getElem?_getD, hb] at h1
    exact fun z => h1 (decide_eq_true z)
  · intro h i hi
    have hi2 := List.mem_range.mp hi
    have ha : l[i]? = some l[i] := List.getElem?_eq_getElem (by omega)
    have hb : l[i + 1]? = some l[i + 1] := List.getElem?_eq_getElem (by omega)
    have := h i _ _ ha hb
    rw [List.getD_eq_getElem?_getD, ha, List.getD_eq_getElem?_getD, hb]
    exact fun z => this (of_decide_eq_true z)
/-! ### the least of the best -/
abbrev toI (l : List Nat) : List Int := l.map fun k : Nat => (k : Int)
theorem lt_of_lex : ∀ {g x : List Nat}, LexLt g x → PySem.W.listLt (α := Int) (toI g) (toI x) = true ∧ PySem.W.listLt (α := Int) (toI x) (toI g) = false
  | [], [], h => h.elim
  | [], _ :: _, h => h.elim
  | _ :: _, [], h => h.elim
  | a :: x, b :: y, h => by
    show (if (a : Int) = (b : Int) then PySem.W.listLt (toI x) (toI y) else decide ((a : Int) < (b : Int))) = true ∧ (if (b : Int) = (a : Int) then PySem.W.listLt (toI y) (toI x) else decide ((b : Int) < (a : Int))) = false
    rcases h with h | ⟨rfl, h⟩
    · rw [if_neg (by omega), if_neg (by omega)]
      exact ⟨decide_eq_true (by omega), decide_eq_false (by omega)⟩
    · rw [if_pos rfl, if_pos rfl]
      exact lt_of_lex h
theorem lt_self : ∀ l : List Int, PySem.W.listLt (α := Int) l l = false
  | [] => rfl
  | a :: r => by
    show (if a = a then PySem.W.listLt r r else _) = false
    rw [if_pos rfl]
    exact lt_self r
theorem min_is {g : List Int} : ∀ (xs : List (List Int)) (x : List Int), (x = g ∨ g ∈ xs) → (∀ y ∈ x :: xs, y = g ∨ (PySem.W.listLt (α := Int) g y = true ∧ PySem.W.listLt (α := Int) y g = false)) → lstMin x xs = g
  | [], x, h, _ => by
    rcases h with h | h
    · exact h
    · exact absurd h List.not_mem_nil
  | y :: ys, x, h, ha => by
    show lstMin (if PySem.W.listLt (α := Int) y x = true then y else x) ys = g
    have hx := ha x List.mem_cons_self
    have hy := ha y (List.mem_cons_of_mem _ List.mem_cons_self)
    refine min_is ys _ ?_ fun z hz => ?_
    · rcases h with rfl | h
      · rcases hy with rfl | hy
        · exact .inl (by rw [ite_self])
        · exact .inl (by rw [if_neg (by rw [hy.2]; exact Bool.false_ne_true)])
      · rcases List.mem_cons.mp h with rfl | h
        · rcases hx with rfl | hx
          · exact .inl (by rw [ite_self])
          · exact .inl (by rw [if_pos hx.1])
        · exact .inr h
    · rcases List.mem_cons.mp hz with rfl | hz
      · split
        · exact hy
        · exact hx
      · exact ha z (List.mem_cons_of_mem _ (List.mem_cons_of_mem _ hz))
/-! ### pairs of a cost and an order -/
/-- v is the pair of the cost of l, of moderate size, and l -/
def VT (K : PySem.W.Frag) (H : Hp) (f : List Nat → Rat) (v : V) (l : List Nat) : Prop := ∃ (a : Addr) (x y : V), v = .ref a ∧ SqT K H a [x, y] ∧ RT K H x (f l) ∧ OT K H y l ∧ Sm 1000 (f l)
structure VTs (K : PySem.W.Frag) (H : Hp) (f : List Nat → Rat) (vs : List V) (ls : List (List Nat)) : Prop where
  len : vs.length = ls.length
  pl : ∀ (i : Nat) (v : V) (l : List Nat), vs[i]? = some v → ls[i]? = some l → VT K H f v l
theorem VT.same {K : PySem.W.Frag} {H H' : Hp} {f : List Nat → Rat} {v : V} {l : List Nat} (e : Same H H') (h : VT K H f v l) : VT K H' f v l := by
  obtain ⟨a, x, y, h0, h1, h2, h3, h4⟩ := h
  exact ⟨a, x, y, h0, same_seqT e h1, h2.same e, h3.same e, h4⟩
theorem VTs.same {K : PySem.W.Frag} {H H' : Hp} {f : List Nat → Rat} {vs : List V} {ls : List (List Nat)} (e : Same H H') (h : VTs K H f vs ls) : VTs K H' f vs ls := ⟨h.len, fun i v l a b => (h.pl i v l a b).same e⟩
theorem SX.vt {K : PySem.W.Frag} {r : Addr} {H H' : Hp} {z : List V} {f : List Nat → Rat} {v : V} {l : List Nat} (e : SX r H H') (hr : H r = some (.lst z)) (h : VT K H f v l) : VT K H' f v l := by
  obtain ⟨a, x, y, h0, h1, h2, h3, h4⟩ := h
  exact ⟨a, x, y, h0, e.seqT hr h1, e.rt hr h2, e.ot hr h3, h4⟩
theorem SX.vts {K : PySem.W.Frag} {r : Addr} {H H' : Hp} {z : List V} {f : List Nat → Rat} {vs : List V} {ls : List (List Nat)} (e : SX r H H') (hr : H r = some (.lst z)) (h : VTs K H f vs ls) : VTs K H' f vs ls := ⟨h.len, fun i v l a b => e.vt hr (h.pl i v l a b)⟩
theorem SX.srch {K : PySem.W.Frag} {r : Addr} {H H' : Hp} {z : List V} {a b : Addr} {us ws : List V} {ps cs : List Rat} (e : SX r H H') (hr : H r = some (.lst z)) (h : Srch K H a b us ws ps cs) : Srch K H' a b us ws ps cs :=
  ⟨e.seqT hr h.ha, e.rts hr h.rp, e.seqT hr h.hb, e.rts hr h.rc, h.n0, h.n7, h.nc, h.zp, h.zc, h.pp, h.pc, h.one⟩
theorem VTs.nil {K : PySem.W.Frag} {H : Hp} {f : List Nat → Rat} : VTs K H f [] [] := ⟨rfl, fun i v l h => by simp at h⟩
theorem VTs.snoc {K : PySem.W.Frag} {H : Hp} {f : List Nat → Rat} {vs : List V} {ls : List (List Nat)} {v : V} {l : List Nat} (h : VTs K H f vs ls) (g : VT K H f v l) : VTs K H f (vs ++ [v]) (ls ++ [l]) := by
  refine ⟨by rw [List.length_append, List.length_append, h.len]; rfl, fun i u m a b => ?_⟩
  by_cases hi : i < vs.length
  · rw [List.getElem?_append_left hi] at a
    rw [List.getElem?_append_left (by rw [← h.len]; exact hi)] at b
    exact h.pl i u m a b
  · rw [List.getElem?_append_right (by omega)] at a
    rw [List.getElem?_append_right (by rw [← h.len]; omega), ← h.len] at b
    cases e : i - vs.length with
    | zero =>
      rw [e] at a b
      cases a
      cases b
      exact g
    | succ j =>
      rw [e] at a
      simp at a
theorem RTs.nil {K : PySem.W.Frag} {H : Hp} : RTs K H [] [] := ⟨rfl, fun i v l h => by simp at h⟩
theorem RTs.snoc {K : PySem.W.Frag} {H : Hp} {vs : List V} {qs : List Rat} {v : V} {q : Rat} (h : RTs K H vs qs) (g : RT K H v q) : RTs K H (vs ++ [v]) (qs ++ [q]) := by
  refine ⟨by rw [List.length_append, List.length_append, h.len]; rfl, fun i u m a b => ?_⟩
  by_cases hi : i < vs.length
  · rw [List.getElem?_append_left hi] at a
    rw [List.getElem?_append_left (by rw [← h.len]; exact hi)] at b
    exact h.pl i u m a b
  · rw [List.getElem?_append_right (by omega)] at a
    rw [List.getElem?_append_right (by rw [← h.len]; omega), ← h.len] at b
    cases e : i - vs.length with
    | zero =>
      rw [e] at a b
      cases a
      cases b
      exact g
    | succ j =>
      rw [e] at a
      simp at a
theorem Al.row {K : PySem.W.Frag} {H : Hp} : ∀ (l : List Int) (i : Nat) (u v : V), (l.map V.int)[i]? = some u → (l.map V.int)[i]? = some v → ∀ d, Al K H d u v := fun l i u v a b d => by
  rw [a] at b
  cases b
  rw [List.getElem?_map] at a
  cases e : l[i]? with
  | none =>
    rw [e] at a
    cases a
  | some x =>
    rw [e] at a
    cases a
    exact Al.int x
theorem Al.rt {K : PySem.W.Frag} {H : Hp} {x y : V} {q : Rat} (h : RT K H x q) (g : RT K H y q) {d : Nat} : Al K H (d + 1) x y := by
  obtain ⟨a, rfl, h⟩ := h
  obtain ⟨b, rfl, g⟩ := g
  exact .inr ⟨a, b, _, _, rfl, rfl, .inr ⟨h, g⟩, rfl, by show 2 ≤ 100; decide, fun i u v p r => Al.row [q.num, (q.den : Int)] i u v p r d⟩
theorem Al.ot {K : PySem.W.Frag} {H : Hp} {x y : V} {l : List Nat} (h : OT K H x l) (g : OT K H y l) (hl : l.length ≤ 100) {d : Nat} : Al K H (d + 1) x y := by
  obtain ⟨a, rfl, h⟩ := h
  obtain ⟨b, rfl, g⟩ := g
  refine .inr ⟨a, b, _, _, rfl, rfl, .inr ⟨h, g⟩, rfl, by rw [List.length_map]; exact hl, fun i u v p r => ?_⟩
  rw [map_nv] at p r
  exact Al.row (toI l) i u v p r d
theorem menu_at {i : Nat} {v : V} (h : [V.int 0, V.int 1, V.int 2, V.int 3, V.int 3, V.int 4][i]? = some v) : ∃ m : Nat, v = nv m ∧ m ≤ 4 := by
  have hm := List.mem_of_getElem? h
  simp only [List.mem_cons, List.not_mem_nil, or_false] at hm
  rcases hm with e | e | e | e | e | e
  · exact ⟨0, e, by decide⟩
  · exact ⟨1, e, by decide⟩
  · exact ⟨2, e, by decide⟩
  · exact ⟨3, e, by decide⟩
  · exact ⟨3, e, by decide⟩
  · exact ⟨4, e, by decide⟩
end K96

/-! the law's own body -/
namespace K96
open PySem PySem.Spec PyProof.Rows L2
theorem SX.seqN {K : PySem.W.Frag} {r a : Addr} {H H' : Hp} {xs : List V} (e : SX r H H') (hr : H r = none) (h : SqL K H a xs) : SqL K H' a xs := by
  rcases h with (h | ⟨o, h⟩) | h
  · exact .inl (.inl (e _ _ (ne_of_none h hr) h))
  · exact .inl (.inr ⟨o, e _ _ (ne_of_none h hr) h⟩)
  · exact .inr h
theorem SX.putN {r D : Addr} {H H' : Hp} {o : HO} (e : SX r H H') (h : H D = none) : SX r H (upd H' D o) := fun b x n q => by
  rw [upd_ne (ne_of_none q h)]
  exact e b x n q
theorem nv_one {j : Int} (h : 0 ≤ j) : V.int (1 + j) = nv (1 + j).toNat := by
  show V.int (1 + j) = V.int ((1 + j).toNat : Int)
  rw [Int.toNat_of_nonneg (by omega)]
theorem map_snoc {α β : Type} {f : α → β} {l : List α} {i : Nat} {x : α} (h : l[i]? = some x) : (l.take (i + 1)).map f = (l.take i).map f ++ [f x] := by
  rw [List.take_add_one, h]
  show (l.take i ++ [x]).map f = _
  rw [List.map_append]
  rfl
theorem cut_to0 (xs : List V) (j : Nat) : cutV xs none (some (0 + (j : Int) + 1)) = xs.take (j + 1) := by
  rw [Int.zero_add]
  exact cut_to xs j
theorem cut_whole0 (xs : List V) (j : Nat) (h : HT.sIx xs.length 0 none = 0 ∧ HT.sIx xs.length xs.length (some (0 + (j : Int) + 1)) = xs.length) : xs.take (j + 1) = xs := by
  rw [Int.zero_add] at h
  exact cut_whole xs j h
theorem at0 {xs : List V} {j : Nat} {v : V} (h : xs[j]? = some v) : atI xs (0 + (j : Int)) = some v := by
  rw [Int.zero_add]
  exact atI_nat h
theorem fn_map {f : Nat → Rat} {l : List Nat} {k : Nat} (h : k < l.length) : fn (l.map f) k = f (l.getD k 0) := by
  unfold fn
  rw [List.getD_eq_getElem?_getD, List.getD_eq_getElem?_getD, List.getElem?_map, List.getElem?_eq_getElem h]
  rfl
def low (f : List Nat → Rat) (ls : List (List Nat)) (m : Rat) : Rat := (ls.map f).foldl lower m
theorem low_succ {f : List Nat → Rat} {ls : List (List Nat)} {i : Nat} {l : List Nat} {m : Rat} (h : ls[i]? = some l) : low f (ls.take (i + 1)) m = lower (low f (ls.take i) m) (f l) := by
  unfold low
  rw [map_snoc h, List.foldl_append]
  rfl
theorem filt_succ {p : List Nat → Bool} {ls : List (List Nat)} {i : Nat} {l : List Nat} (h : ls[i]? = some l) : (ls.take (i + 1)).filter p = (ls.take i).filter p ++ (if p l = true then [l] else []) := by
  rw [List.take_add_one, h]
  show (ls.take i ++ [l]).filter p = _
  rw [List.filter_append]
  congr 1
  by_cases hb : p l = true
  · rw [if_pos hb, List.filter_cons_of_pos hb]
    rfl
  · rw [if_neg hb, List.filter_cons_of_neg hb]
    rfl
theorem OTs.dp {K : PySem.W.Frag} {H : Hp} : ∀ {vs : List V} {ls : List (List Nat)}, OTs K H vs ls → DpAll K H vs ((ls.map toI).map tD)
  | [], [], _ => .nil
  | [], _ :: _, h => absurd h.len (by simp)
  | _ :: _, [], h => absurd h.len (by simp)
  | v :: vs, l :: ls, h => by
    refine .cons ?_ (OTs.dp (vs := vs) (ls := ls) ⟨Nat.succ.inj h.len, fun i u m a b => h.pl (i + 1) u m a b⟩)
    obtain ⟨a, rfl, ha⟩ := h.pl 0 v l rfl rfl
    rw [map_nv] at ha
    exact .tup ha (dpAll_ints _)
theorem toI_inj : ∀ {l m : List Nat}, toI l = toI m → l = m := fun {l m} h => (List.map_inj_right (f := fun k : Nat => (k : Int)) (fun a b hab => by omega)).mp h

def spLaw (K : PySem.W.Frag) : Sp := fun vs H Q _ => ∃ (a : Addr) (ns : List Int), vs = [.ref a] ∧ SqL K H a (ns.map V.int) ∧ ∀ H', Q (.bl true) H'
section
variable {P : Program} {w : World} {K : PySem.W.Frag} {mg : Str → Option Value} {base : Heap}
set_option maxHeartbeats 4000000 in
theorem ok_law {f : Addr} {fd : FuncData} (F : Fun K "law" "law" s_law f fd)
    {f_ltaken : Addr} {d_ltaken : FuncData} (G_ltaken : FnOk P w K mg base CX0 6 f_ltaken d_ltaken ["_law_row", "_law_many"] (spTaken K)) (m_ltaken : mg "_law_taken" = some (.ref f_ltaken)) (k_ltaken : PySem.W.keepIn K (.ref f_ltaken) = true) (b_ltaken : Binds K d_ltaken ["_law_row", "_law_many"] [])
    {f_lpick : Addr} {d_lpick : FuncData} (G_lpick : FnOk P w K mg base CX0 6 f_lpick d_lpick ["_law_row", "_law_things"] (spPick K)) (m_lpick : mg "_law_pick" = some (.ref f_lpick)) (k_lpick : PySem.W.keepIn K (.ref f_lpick) = true) (b_lpick : Binds K d_lpick ["_law_row", "_law_things"] [])
    {f_lratio : Addr} {d_lratio : FuncData} (G_lratio : FnOk P w K mg base CX0 6 f_lratio d_lratio ["_law_numerator", "_law_denominator"] spRed) (m_lratio : mg "_law_ratio" = some (.ref f_lratio)) (k_lratio : PySem.W.keepIn K (.ref f_lratio) = true) (b_lratio : Binds K d_lratio ["_law_numerator", "_law_denominator"] [])
    {f_lrate : Addr} {d_lrate : FuncData} (G_lrate : FnOk P w K mg base CX0 6 f_lrate d_lrate ["_law_row"] (spRate K)) (m_lrate : mg "_law_rate" = some (.ref f_lrate)) (k_lrate : PySem.W.keepIn K (.ref f_lrate) = true) (b_lrate : Binds K d_lrate ["_law_row"] [])
    {f_lorders : Addr} {d_lorders : FuncData} (G_lorders : FnOk P w K mg base CX0 6 f_lorders d_lorders ["_law_many"] (spOrders K)) (m_lorders : mg "_law_orders" = some (.ref f_lorders)) (k_lorders : PySem.W.keepIn K (.ref f_lorders) = true) (b_lorders : Binds K d_lorders ["_law_many"] [])
    {f_lplus : Addr} {d_lplus : FuncData} (G_lplus : FnOk P w K mg base CX0 6 f_lplus d_lplus ["_law_one", "_law_other"] (spPlus K)) (m_lplus : mg "_law_plus" = some (.ref f_lplus)) (k_lplus : PySem.W.keepIn K (.ref f_lplus) = true) (b_lplus : Binds K d_lplus ["_law_one", "_law_other"] [])
    {f_lsum : Addr} {d_lsum : FuncData} (G_lsum : FnOk P w K mg base CX0 6 f_lsum d_lsum ["_law_values"] (spSum K)) (m_lsum : mg "_law_sum" = some (.ref f_lsum)) (k_lsum : PySem.W.keepIn K (.ref f_lsum) = true) (b_lsum : Binds K d_lsum ["_law_values"] [])
    {f_ltimes : Addr} {d_ltimes : FuncData} (G_ltimes : FnOk P w K mg base CX0 6 f_ltimes d_ltimes ["_law_one", "_law_other"] (spTimes K)) (m_ltimes : mg "_law_times" = some (.ref f_ltimes)) (k_ltimes : PySem.W.keepIn K (.ref f_ltimes) = true) (b_ltimes : Binds K d_ltimes ["_law_one", "_law_other"] [])
    {f_lless : Addr} {d_lless : FuncData} (G_lless : FnOk P w K mg base CX0 6 f_lless d_lless ["_law_one", "_law_other"] (spLess K)) (m_lless : mg "_law_less" = some (.ref f_lless)) (k_lless : PySem.W.keepIn K (.ref f_lless) = true) (b_lless : Binds K d_lless ["_law_one", "_law_other"] [])
    {f_lover : Addr} {d_lover : FuncData} (G_lover : FnOk P w K mg base CX0 6 f_lover d_lover ["_law_one", "_law_other"] (spOver K)) (m_lover : mg "_law_over" = some (.ref f_lover)) (k_lover : PySem.W.keepIn K (.ref f_lover) = true) (b_lover : Binds K d_lover ["_law_one", "_law_other"] [])
    {f_lalike : Addr} {d_lalike : FuncData} (G_lalike : FnOk P w K mg base CX0 6 f_lalike d_lalike ["_law_found", "_law_due"] (spAlike K 5)) (m_lalike : mg "_law_alike" = some (.ref f_lalike)) (k_lalike : PySem.W.keepIn K (.ref f_lalike) = true) (b_lalike : Binds K d_lalike ["_law_found", "_law_due"] [])
    {f_best_search : Addr} {d_best_search : FuncData} (G_best_search : FnOk P w K mg base CX0 6 f_best_search d_best_search ["chances", "costs"] (spBest K)) (m_best_search : mg "best_search" = some (.ref f_best_search)) (k_best_search : PySem.W.keepIn K (.ref f_best_search) = true) (b_best_search : Binds K d_best_search ["chances", "costs"] [])
    {f_search_cost : Addr} {d_search_cost : FuncData} (G_search_cost : FnOk P w K mg base CX0 6 f_search_cost d_search_cost ["chances", "costs", "order"] (spSearch K)) (m_search_cost : mg "search_cost" = some (.ref f_search_cost)) (k_search_cost : PySem.W.keepIn K (.ref f_search_cost) = true) (b_search_cost : Binds K d_search_cost ["chances", "costs", "order"] [])
    (m_range : mg "range" = none)
    (m_tuple : mg "tuple" = none)
    (m_sum : mg "sum" = none)
    (m_min : mg "min" = none) : FnOk P w K mg base CX0 7 f fd ["_law_script"] (spLaw K) := by
  refine F.ok sc_law (fun vs H Q E h => ?_) (fun cdv A outer s H vs Q E hr h => ?_)
  · obtain ⟨a, ns, rfl, _⟩ := h
    rfl
  · obtain ⟨a, ns, rfl, hS, Z⟩ := h
    have hr6 := hr
    refine ⟨_, (pss_cons (ps_set (i := 1) sc_law.nd rfl (.inr rfl) (pe_lst (pa_cons (pv 0) (pa_cons pe_int (pa_cons pe_int (pa_cons pe_int pa_nil))))))
      (pss_cons (ps_set (i := 2) sc_law.nd rfl (.inl rfl) (pe_op op_add pe_int (pe_call G_lpick hr6 (by rfl) m_lpick k_lpick b_lpick .nil pass0 (pa_cons (pv 1) (pa_cons (pe_lst (pa_cons pe_int (pa_cons pe_int (pa_cons pe_int (pa_cons pe_int (pa_cons pe_int (pa_cons pe_int pa_nil))))))) pa_nil)))))
      (pss_cons (ps_set (i := 3) sc_law.nd rfl (.inr rfl) (pe_lc (own := [("_law_k", 16)]) (g := gName 16) (by rfl) sc_law.nd (pi_range1 (by rfl) m_range (pa_cons (pv 2) pa_nil)) (blkOk_by (own := [("_law_k", 16)]) (N := ["_law_script", "_law_row", "_law_many", "_law_numbers", "_law_chances", "_law_costs", "_law_values", "_law_order", "_law_total", "_law_at", "_law_spent", "_law_best", "_law_good", "_law_one", "_law_shares", "_law_falls", "_law_k", "_law_x"]) (sc := defScope s_law) (by decide +kernel)) (fun _ _ _ _ _ => (pg_name (i := 16) sc_law.nd rfl (Or.inl rfl))) (fun _ _ _ _ _ => pts_nil) (fun _ _ _ _ _ => (pe_op op_add pe_int (pe_call G_ltaken hr6 (by rfl) m_ltaken k_ltaken b_ltaken .nil pass0 (pa_cons (pv 1) (pa_cons pe_int pa_nil)))))))
      (pss_cons (ps_asg (pe_tup (pa_cons (pe_callTy call_tuple_of (by rfl) m_tuple boot_tuple (pa_cons (pe_lc (own := [("_law_x", 17)]) (g := gName 17) (by rfl) sc_law.nd (pi_list (pv 3)) (blkOk_by (own := [("_law_x", 17)]) (N := ["_law_script", "_law_row", "_law_many", "_law_numbers", "_law_chances", "_law_costs", "_law_values", "_law_order", "_law_total", "_law_at", "_law_spent", "_law_best", "_law_good", "_law_one", "_law_shares", "_law_falls", "_law_k", "_law_x"]) (sc := defScope s_law) (by decide +kernel)) (fun _ _ _ _ _ => (pg_name (i := 17) sc_law.nd rfl (Or.inl rfl))) (fun _ _ _ _ _ => pts_nil) (fun _ _ _ _ _ => (pe_call G_lratio hr6 (by rfl) m_lratio k_lratio b_lratio .nil pass0 (pa_cons (pv 17) (pa_cons (pe_callB (r := rSum K) (cr_sum rfl) (by rfl) m_sum boot_sum (pa_cons (pv 3) pa_nil)) pa_nil))))) pa_nil)) (pa_cons (pe_callTy call_tuple_of (by rfl) m_tuple boot_tuple (pa_cons (pe_lc (own := [("_law_k", 16)]) (g := gName 16) (by rfl) sc_law.nd (pi_range1 (by rfl) m_range (pa_cons (pv 2) pa_nil)) (blkOk_by (own := [("_law_k", 16)]) (N := ["_law_script", "_law_row", "_law_many", "_law_numbers", "_law_chances", "_law_costs", "_law_values", "_law_order", "_law_total", "_law_at", "_law_spent", "_law_best", "_law_good", "_law_one", "_law_shares", "_law_falls", "_law_k", "_law_x"]) (sc := defScope s_law) (by decide +kernel)) (fun _ _ _ _ _ => (pg_name (i := 16) sc_law.nd rfl (Or.inl rfl))) (fun _ _ _ _ _ => pts_nil) (fun _ _ _ _ _ => (pe_call G_lrate hr6 (by rfl) m_lrate k_lrate b_lrate .nil pass0 (pa_cons (pv 1) pa_nil)))) pa_nil)) pa_nil))) (pg_tup rfl (pgs_cons (pg_name (i := 4) sc_law.nd rfl (Or.inr rfl)) (pgs_cons (pg_name (i := 5) sc_law.nd rfl (Or.inr rfl)) pgs_nil))))
      (pss_cons (ps_set (i := 6) sc_law.nd rfl (.inl rfl) (pe_lst pa_nil))
      (pss_cons (ps_for PassesOwn.never rfl (pi_list (pe_call G_lorders hr6 (by rfl) m_lorders k_lorders b_lorders .nil pass0 (pa_cons (pv 2) pa_nil))) (pg_name (i := 7) sc_law.nd rfl (Or.inl rfl)) (pss_cons (ps_set (i := 8) sc_law.nd rfl (.inl rfl) (pe_tup (pa_cons pe_int (pa_cons pe_int pa_nil))))
      (pss_cons (ps_for PassesOwn.never rfl (pi_range1 (by rfl) m_range (pa_cons (pv 2) pa_nil)) (pg_name (i := 9) sc_law.nd rfl (Or.inl rfl)) (pss_cons (ps_set (i := 10) sc_law.nd rfl (.inl rfl) (pe_call G_lsum hr6 (by rfl) m_lsum k_lsum b_lsum .nil pass0 (pa_cons (pe_lc (own := [("_law_k", 16)]) (g := gName 16) (by rfl) sc_law.nd (pi_tup (pe_slice sl_tupA (pv 7) po_none (po_some (pe_op op_add (pv 9) pe_int)))) (blkOk_by (own := [("_law_k", 16)]) (N := ["_law_script", "_law_row", "_law_many", "_law_numbers", "_law_chances", "_law_costs", "_law_values", "_law_order", "_law_total", "_law_at", "_law_spent", "_law_best", "_law_good", "_law_one", "_law_shares", "_law_falls", "_law_k", "_law_x"]) (sc := defScope s_law) (by decide +kernel)) (fun _ _ _ _ _ => (pg_name (i := 16) sc_law.nd rfl (Or.inl rfl))) (fun _ _ _ _ _ => pts_nil) (fun _ _ _ _ _ => (pe_ix (r := rIxT K) ix_tup (pv 5) (pv 16) (fun _ _ => rfl)))) pa_nil)))
      (pss_one (ps_set (i := 8) sc_law.nd rfl (.inl rfl) (pe_call G_lplus hr6 (by rfl) m_lplus k_lplus b_lplus .nil pass0 (pa_cons (pv 8) (pa_cons (pe_call G_ltimes hr6 (by rfl) m_ltimes k_ltimes b_ltimes .nil pass0 (pa_cons (pe_ix ix_tup (pv 4) (pe_ix ix_tup (pv 7) (pv 9) (fun _ _ => rfl)) (fun _ _ => rfl)) (pa_cons (pv 10) pa_nil))) pa_nil)))))))
      (pss_one (ps_expr (pe_bm PySem.F.plainAttrs_list PySem.F.slot_list_append PySem.F.type_list_append mt_append (pv 6) (pa_cons (pe_tup (pa_cons (pv 8) (pa_cons (pv 7) pa_nil))) pa_nil)))))))
      (pss_cons (ps_par (i := 11) (j := 12) rfl sc_law.nd rfl rfl (by decide) rfl rfl (pa_cons (pe_ix ix_tup (pe_ix ix_list (pv 6) pe_int (fun _ _ => rfl)) pe_int (fun _ _ => rfl)) (pa_cons (pe_lst pa_nil) pa_nil)) (by rfl))
      (pss_cons (ps_for PassesOwn.never rfl (pi_list (pv 6)) (pg_tup rfl (pgs_cons (pg_name (i := 13) sc_law.nd rfl (Or.inl rfl)) (pgs_cons (pg_name (i := 7) sc_law.nd rfl (Or.inl rfl)) pgs_nil))) (pss_one (ps_set (i := 11) sc_law.nd rfl (.inl rfl) (pe_ifExp (pt_val (pe_call G_lless hr6 (by rfl) m_lless k_lless b_lless .nil pass0 (pa_cons (pv 13) (pa_cons (pv 11) pa_nil)))) (pv 13) (pv 11)))))
      (pss_cons (ps_for PassesOwn.never rfl (pi_list (pv 6)) (pg_tup rfl (pgs_cons (pg_name (i := 13) sc_law.nd rfl (Or.inl rfl)) (pgs_cons (pg_name (i := 7) sc_law.nd rfl (Or.inl rfl)) pgs_nil))) (pss_cons (ps_set (i := 14) sc_law.nd rfl (.inr rfl) (pe_lc (own := [("_law_k", 16)]) (g := gName 16) (by rfl) sc_law.nd (pi_tup (pv 7)) (blkOk_by (own := [("_law_k", 16)]) (N := ["_law_script", "_law_row", "_law_many", "_law_numbers", "_law_chances", "_law_costs", "_law_values", "_law_order", "_law_total", "_law_at", "_law_spent", "_law_best", "_law_good", "_law_one", "_law_shares", "_law_falls", "_law_k", "_law_x"]) (sc := defScope s_law) (by decide +kernel)) (fun _ _ _ _ _ => (pg_name (i := 16) sc_law.nd rfl (Or.inl rfl))) (fun _ _ _ _ _ => pts_nil) (fun _ _ _ _ _ => (pe_call G_lover hr6 (by rfl) m_lover k_lover b_lover .nil pass0 (pa_cons (pe_ix (r := rIxT K) ix_tup (pv 4) (pv 16) (fun _ _ => rfl)) (pa_cons (pe_ix (r := rIxT K) ix_tup (pv 5) (pv 16) (fun _ _ => rfl)) pa_nil))))))
      (pss_cons (ps_set (i := 15) sc_law.nd rfl (.inl rfl) (pe_cmpR (op_eqD hr.units) (pe_lc (own := [("_law_at", 9)]) (g := gName 9) (by rfl) sc_law.nd (pi_range2 (by rfl) m_range (pa_cons pe_int (pa_cons (pv 2) pa_nil))) (blkOk_by (own := [("_law_at", 9)]) (N := ["_law_script", "_law_row", "_law_many", "_law_numbers", "_law_chances", "_law_costs", "_law_values", "_law_order", "_law_total", "_law_at", "_law_spent", "_law_best", "_law_good", "_law_one", "_law_shares", "_law_falls", "_law_k", "_law_x"]) (sc := defScope s_law) (by decide +kernel)) (fun _ _ _ _ _ => (pg_name (i := 9) sc_law.nd rfl (Or.inl rfl))) (fun _ _ _ _ _ => pts_one (pt_val (pe_call G_lless hr6 (by rfl) m_lless k_lless b_lless .nil pass0 (pa_cons (pe_ix (r := rIxL K) ix_list (pv 14) (pe_op op_sub (pv 9) pe_int) (fun _ _ => rfl)) (pa_cons (pe_ix (r := rIxL K) ix_list (pv 14) (pv 9) (fun _ _ => rfl)) pa_nil))))) (fun _ _ _ _ _ => (pv 9))) (pe_lst pa_nil) (nomark _)))
      (pss_cons (ps_if (pt_cmpR op_ne (pv 15) (pe_cmpR (op_eqD hr.units) (pv 13) (pv 11) (nomark _)) (nomark _)) pss_never pss_nil)
      (pss_one (ps_set (i := 12) sc_law.nd rfl (.inl rfl) (pe_op op_cat (pv 12) (pe_ifExp (pt_cmpR (op_eqD hr.units) (pv 13) (pv 11) (nomark _)) (pe_lst (pa_cons (pv 7) pa_nil)) (pe_lst pa_nil)))))))))
      (pss_cons (ps_asg (pe_call G_lpick hr6 (by rfl) m_lpick k_lpick b_lpick .nil pass0 (pa_cons (pv 1) (pa_cons (pv 6) pa_nil))) (pg_tup rfl (pgs_cons (pg_name (i := 13) sc_law.nd rfl (Or.inl rfl)) (pgs_cons (pg_name (i := 7) sc_law.nd rfl (Or.inl rfl)) pgs_nil))))
      (pss_one (ps_ret (pe_call G_lalike hr6 (by rfl) m_lalike k_lalike b_lalike .nil pass0 (pa_cons (pe_lst (pa_cons (pe_call G_best_search hr6 (by rfl) m_best_search k_best_search b_best_search .nil pass0 (pa_cons (pv 4) (pa_cons (pv 5) pa_nil))) (pa_cons (pe_call G_search_cost hr6 (by rfl) m_search_cost k_search_cost b_search_cost .nil pass0 (pa_cons (pv 4) (pa_cons (pv 5) (pa_cons (pv 7) pa_nil)))) pa_nil))) (pa_cons (pe_lst (pa_cons (pe_tup (pa_cons (pv 11) (pa_cons (pe_callB (cr_minTups rfl hr.units) (by rfl) m_min boot_min (pa_cons (pv 12) pa_nil)) pa_nil))) (pa_cons (pv 13) pa_nil))) pa_nil))))))))))))))), ?_⟩
    -- the row of draws
    refine ⟨_, rfl, by show 4 ≤ sizeLine; decide, fun r hr0 => ?_⟩
    have w1 : Rw K H (upd H r (.lst [.ref a, .int 0, .int 4096, .int 0])) r := ⟨a, ns, 0, 4096, 0, upd_same, by decide, by decide, by decide, by decide, SX.put, fun H' e => e.seqN hr0 hS⟩
    generalize upd H r (.lst [.ref a, .int 0, .int 4096, .int 0]) = H1 at w1
    -- how many
    refine ⟨_, rfl, by show 6 ≤ sizeLine; decide, fun t ht => ?_⟩
    refine ⟨H, r, t, _, rfl, SqL.of upd_same, (w1.free ht).1.symm, by decide, by decide, w1.same (same_upd ht), fun i v H2 hv s2 w2 => ?_⟩
    obtain ⟨m, rfl, hm⟩ := menu_at hv
    refine ⟨1, (m : Int), rfl, rfl, ?_⟩
    clear hv s2 ht w1
    -- the numbers
    refine ⟨_, rfl, 1 + (m : Int), rfl, by omega, by omega, fun D hD => lc_range (lo := 0) (n := 1 + m) (fun i H' => SX r H2 H' ∧ Rw K H H' r ∧ ∃ xs : List Nat, xs.length = i ∧ (∀ x ∈ xs, 1 ≤ x ∧ x ≤ 4) ∧ H' D = some (.lst (xs.map nv)))
      ⟨SX.of (same_upd hD), w2.same (same_upd hD), [], rfl, fun x hx => absurd hx List.not_mem_nil, upd_same⟩ (fun i H' hi h => ?_) (fun H3 h => ?_)⟩
    · obtain ⟨s3, w3, xs, hxl, hx4, eD⟩ := h
      obtain ⟨nD, bD⟩ := w2.free hD
      refine ⟨rfl, _, rfl, H, r, 4, rfl, by decide, by decide, w3, fun H4 j j0 j1 s4 w4 => ⟨1, j, rfl, rfl, ?_⟩⟩
      refine ⟨xs.map nv, s4 _ _ nD.symm eD, size_ok (by rw [List.length_map]; omega), (s3.trans s4).putN hD, w4.sx SX.put nD bD, xs ++ [(1 + j).toNat], by rw [List.length_append, hxl]; rfl, fun x hx => ?_, ?_⟩
      · rcases List.mem_append.mp hx with q | q
        · exact hx4 x q
        · rw [List.mem_singleton.mp q]
          omega
      · rw [upd_same, List.map_append]
        show some (HO.lst (xs.map nv ++ [V.int (1 + j)])) = some (HO.lst (xs.map nv ++ [nv (1 + j).toNat]))
        rw [nv_one j0]
    obtain ⟨s3, w3, xs, hxl, hx4, eD⟩ := h
    clear s3 w2 hD
    have hS0 : xs.sum ≠ 0 := by
      have := sum_pos xs (fun z => by rw [z] at hxl; simp at hxl; omega) fun x hx => (hx4 x hx).1
      omega
    have hS1 : xs.sum < 1024 := by
      have := sum_le 4 xs fun x hx => (hx4 x hx).2
      omega
    -- the chances
    refine ⟨_, rfl, D, rfl, ⟨_, SqL.of eD⟩, fun D2 hD2 => lc_list (K := K) (a := D) (xs := xs.map nv) (fun i H' => Same H3 H' ∧ ∃ vs, H' D2 = some (.lst vs) ∧ RTs K H' vs ((xs.take i).map fun (x : Nat) => mkRat (x : Int) xs.sum))
      ⟨same_upd hD2, [], upd_same, RTs.nil⟩ (fun i H' _ h => h.1.seq (SqL.of eD)) (fun i x H' hx h => ?_) (fun H4 h => ?_)⟩
    · obtain ⟨s4, vs, e2, hvs⟩ := h
      obtain ⟨kk, hk, hkm, rfl⟩ := nv_at hx
      have hlen := hvs.len
      rw [List.length_map, List.length_take] at hlen
      refine ⟨rfl, _, rfl, _, rfl, D, toI xs, rfl, by rw [← map_nv]; exact SqL.of (s4 _ _ eD), (kk : Int), xs.sum, by rw [sum_cast]; rfl, hS0, pow9000 hS1, fun p hp => ?_⟩
      refine ⟨vs, same_upd hp _ _ e2, size_ok (by omega), same_put (s4.trans (same_upd hp)) hD2, _, upd_same, ?_⟩
      rw [map_snoc hk]
      exact (SX.put.rts (same_upd hp _ _ e2) (hvs.same (same_upd hp))).snoc (SX.put.rt (same_upd hp _ _ e2) RT.new)
    obtain ⟨s4, us, e2, hus⟩ := h
    rw [List.length_map, List.take_length] at hus
    refine ⟨D2, _, rfl, .inl ⟨SqL.of e2, fun ca hca => ?_⟩⟩
    have s5 : Same H3 (upd H4 ca (.tup us)) := s4.trans (same_upd hca)
    have hus5 := hus.same (same_upd (o := .tup us) hca)
    have eca : SqT K (upd H4 ca (.tup us)) ca us := SqT.of upd_same
    have w5 := w3.same s5
    generalize upd H4 ca (.tup us) = H5 at s5 hus5 eca w5
    clear hca e2 hus s4 s5 w3 hD2 H4 eD
    generalize hps : (xs.map fun (x : Nat) => mkRat (x : Int) xs.sum) = ps at hus5
    -- the costs
    refine ⟨_, rfl, 1 + (m : Int), rfl, by omega, by omega, fun D3 hD3 => lc_range (lo := 0) (n := 1 + m) (fun i H' => SX r H5 H' ∧ Rw K H H' r ∧ ∃ vs qs, H' D3 = some (.lst vs) ∧ RTs K H' vs qs ∧ qs.length = i ∧ ∀ q ∈ qs, 0 < q ∧ Sm 10 q)
      ⟨SX.of (same_upd hD3), w5.same (same_upd hD3), [], [], upd_same, RTs.nil, rfl, fun q hq => absurd hq List.not_mem_nil⟩ (fun i H' hi h => ?_) (fun H6 h => ?_)⟩
    · obtain ⟨s6, w6, vs, qs, e3, hvs, hql, hq⟩ := h
      obtain ⟨n3, b3⟩ := w5.free hD3
      obtain ⟨lr, elr⟩ := w6.lst
      refine ⟨rfl, _, rfl, H, r, rfl, w6, fun H7 v q q0 qz s7 w7 hv => ?_⟩
      have e4 := s7 _ _ n3.symm e3
      refine ⟨vs, e4, size_ok (by rw [hvs.len]; omega), (s6.trans s7).putN hD3, w7.sx SX.put n3 b3, _, qs ++ [q], upd_same, (SX.put.rts e4 (s7.rts elr hvs)).snoc (SX.put.rt e4 hv), by rw [List.length_append, hql]; rfl, fun q' hq' => ?_⟩
      rcases List.mem_append.mp hq' with z | z
      · exact hq q' z
      · rw [List.mem_singleton.mp z]
        exact ⟨q0, qz⟩
    obtain ⟨s6, w6, ws, cs, e3, hws, hcl, hc⟩ := h
    obtain ⟨lr, elr⟩ := w5.lst
    refine ⟨D3, _, rfl, .inl ⟨SqL.of e3, fun cb hcb => ⟨by show 2 ≤ sizeLine; decide, fun tp htp => ?_⟩⟩⟩
    have hpl : ps.length = 1 + m := by rw [← hps, List.length_map, hxl]
    have hp : ∀ q ∈ ps, 0 < q ∧ Sm 10 q := fun q hq => by
      rw [← hps] at hq
      obtain ⟨x, hx, rfl⟩ := List.mem_map.mp hq
      have := hx4 x hx
      exact ⟨mkRat_pos (by omega) hS0, mkRat_sm (by omega) hS1 hS0⟩
    have S8 : Srch K (upd (upd H6 cb (.tup ws)) tp (.tup [.ref ca, .ref cb])) ca cb us ws ps cs := by
      have s8 : Same H6 (upd (upd H6 cb (.tup ws)) tp (.tup [.ref ca, .ref cb])) := (same_upd hcb).trans (same_upd htp)
      have h1 := same_upd (o := .tup [.ref ca, .ref cb]) htp
      refine ⟨same_seqT s8 (s6.seqT elr eca), (s6.rts elr hus5).same s8, same_seqT h1 (SqT.of upd_same), hws.same s8, by omega, by omega, by omega, fun q hq => (hp q hq).2, fun q hq => (hc q hq).2, fun q hq => (hp q hq).1, fun q hq => (hc q hq).1, ?_⟩
      rw [← hps, mkRat_sum xs.sum hS0, Rat.zero_add, mkRat_one xs.sum hS0]
    have w8 : Rw K H (upd (upd H6 cb (.tup ws)) tp (.tup [.ref ca, .ref cb])) r := (w6.same (same_upd hcb)).same (same_upd htp)
    refine ⟨tp, [.ref ca, .ref cb], rfl, .inl (.inl upd_same), rfl, .ref ca, [.ref cb], rfl, .ref cb, [], rfl, rfl, ?_⟩
    generalize upd (upd H6 cb (.tup ws)) tp (.tup [.ref ca, .ref cb]) = H8 at S8 w8
    clear htp hcb e3 hws s6 w6 hD3 w5 eca hus5 elr
    -- the values
    refine ⟨Nat.zero_le _, fun lv hlv => ?_⟩
    have Sv := S8.same (same_upd (o := .lst []) hlv)
    have wv := w8.same (same_upd (o := .lst []) hlv)
    obtain ⟨nlv, blv⟩ := w8.free hlv
    refine ⟨_, rfl, 1 + m, rfl, by omega, fun H9 lo us9 s9 elo ho9 => ?_⟩
    have elv := s9 _ _ (upd_same (H := H8) (a := lv) (o := .lst []))
    have S9 := Sv.same s9
    have w9 := wv.same s9
    clear Sv wv s9
    generalize hn : 1 + m = n at hpl ho9 ⊢
    have hbest : best ps cs ∈ orders n := by
      refine mem_orders.mpr ?_
      have hp := (greedy_all (s := share ps cs) ps.length (List.range ps.length) List.length_range List.pairwise_lt_range).1
      refine perm_ord (l := List.range n) ⟨List.length_range, List.nodup_range, fun x hx => List.mem_range.mp hx⟩ ?_
      have hq := hp.symm
      rw [hpl] at hq
      unfold best
      rw [hpl]
      exact hq
    have nlo : lo ≠ lv := fun z => by
      rw [z, elv] at elo
      cases elo
      have := ho9.len
      rw [List.eq_nil_of_length_eq_zero this.symm] at hbest
      exact absurd hbest List.not_mem_nil
    have hol : (orders n).length ≤ 3125 := Nat.le_trans (ordersN_len n n) (pow5 (by omega) (by omega))
    subst hn
    refine ⟨lo, rfl, ⟨_, SqL.of elo⟩, for_list (K := K) (a := lo) (xs := us9) (fun i σ H' => SX lv H9 H' ∧ ∃ vs x7 x8 x9 x10, σ = [some (.ref a), some (.ref r), some (nv (1 + m)), some (.ref D), some (.ref ca), some (.ref cb), some (.ref lv), x7, x8, x9, x10, none, none, none, none, none, none, none] ∧ H' lv = some (.lst vs) ∧ VTs K H' (costF (fn ps) (fn cs) 0) vs ((orders (1 + m)).take i)) ⟨SX.refl lv H9, [], none, none, none, none, rfl, elv, VTs.nil⟩ (fun i σ H' _ h => h.1.seqL nlo (SqL.of elo)) (fun i x σ H' hx h => ?_) (fun σ H' h => ?_)⟩
    · obtain ⟨s10, vs0, x7, x8, x9, x10, rfl, elv', hvs0⟩ := h
      obtain ⟨l, hl⟩ := at_or ho9.len hx
      obtain ⟨so, rfl, hso0⟩ := s10.ot elv (ho9.pl i x l hx hl)
      have o := mem_orders.mp (List.mem_of_getElem? hl)
      have S10 := s10.srch elv S9
      refine ⟨by show 2 ≤ sizeLine; decide, fun t0 ht0 => ?_⟩
      refine ⟨_, rfl, 1 + (m : Int), rfl, by omega, by omega, for_range (lo := 0) (n := 1 + m) (fun j σ H'' => Same H' H'' ∧ ∃ vt q x9 x10, σ = [some (.ref a), some (.ref r), some (nv (1 + m)), some (.ref D), some (.ref ca), some (.ref cb), some (.ref lv), some (.ref so), some vt, x9, x10, none, none, none, none, none, none, none] ∧ RT K H'' vt q ∧ q = costF (fn ps) (fn cs) 0 (l.take j) ∧ Sm (150 * j + 1) q)
        ⟨same_upd ht0, .ref t0, 0, x9, x10, rfl, ⟨t0, rfl, SqT.of upd_same⟩, rfl, sm_zero⟩ (fun j σ H'' hj h => ?_) (fun σ H'' h => ?_)⟩
      · obtain ⟨sj, vt, q, x9, x10, rfl, hvt, hq, zq⟩ := h
        have hso := same_seqT sj hso0
        have Sj := S10.same sj
        have hjl : j < l.length := by
          rw [o.len]
          exact hj
        refine ⟨_, rfl, _, rfl, _, 1, rfl, rfl, _, rfl, so, l.map nv, rfl, hso, fun hw => ?_, fun _ pp hpp => ?_⟩
        · have sx : Same H'' H'' := Same.refl H''
          have hax : SqT K H'' so ((l.take (j + 1)).map nv) := by
            rw [List.map_take, cut_whole0 _ _ hw]
            exact hso

          refine ⟨so, rfl, ⟨_, hax⟩, fun D4 hD4 => lc_tup (K := K) (a := so) (xs := (l.take (j + 1)).map nv) (fun i H' => Same (H'') H' ∧ ∃ vs, H' D4 = some (.lst vs) ∧ RTs K H' vs (((l.take (j + 1)).take i).map (fn cs)))
            ⟨same_upd hD4, [], upd_same, RTs.nil⟩ (fun i H' _ h => same_seqT h.1 hax) (fun i x H' hx h => ?_) (fun Hy h => ?_)⟩
          · obtain ⟨s7, vs, e7, hvs⟩ := h
            obtain ⟨kk, hk, hkm, rfl⟩ := nv_at hx
            have hkn := o.lt kk (List.mem_of_mem_take hkm)
            have S7 := (Sj.same sx).same s7
            obtain ⟨vc, gc, hvc⟩ := S7.rc.nth (k := kk) (by omega)
            have hlen := hvs.len
            rw [List.length_map, List.length_take, List.length_take] at hlen
            refine ⟨rfl, _, rfl, _, rfl, cb, ws, _, vc, rfl, rfl, S7.hb, atI_nat gc, vs, e7, size_ok (by omega), same_put s7 hD4, _, upd_same, ?_⟩
            rw [map_snoc hk]
            exact (SX.put.rts e7 hvs).snoc (SX.put.rt e7 hvc)
          · obtain ⟨s7, vs, e7, hvs⟩ := h
            rw [List.length_map, List.take_length] at hvs
            have hll : (l.take (j + 1)).length ≤ 5 := by
              rw [List.length_take]
              omega
            refine ⟨D4, vs, _, rfl, SqL.of e7, hvs, by rw [List.length_map]; omega, fun q hq => ?_, fun Hz vsp s8 hsp => ?_⟩
            · obtain ⟨k, hk, rfl⟩ := List.mem_map.mp hq
              exact (fn_all S8.zc (by have := o.lt k (List.mem_of_mem_take hk); omega) : Sm 10 (fn cs k)).up (by decide)
            · rw [fold_sumC, Rat.zero_add] at hsp
              have sz := (sx.trans s7).trans s8
              have Sz := Sj.same sz
              obtain ⟨vp, gp, hvp⟩ := Sz.rp.nth (k := l[j]) (by rw [hpl]; exact o.lt _ (List.getElem_mem hjl))
              have hlj : (l.map nv)[j]? = some (nv l[j]) := by
                rw [List.getElem?_map, List.getElem?_eq_getElem hjl]
                rfl
              have z1 : Sm 10 (fn ps l[j]) := fn_all S8.zp (by rw [hpl]; exact o.lt _ (List.getElem_mem hjl))
              have z2 : Sm (12 * (l.take (j + 1)).length + 1) (sumC (fn cs) (l.take (j + 1))) := sumC_sm (m := 0) _ fun k hk => fn_all S8.zc (by have := o.lt k (List.mem_of_mem_take hk); omega)
              have z3 := z1.mul z2
              refine ⟨_, rfl, _, rfl, _, rfl, _, rfl, so, _, _, nv l[j], rfl, rfl, same_seqT sz hso, at0 hlj, ca, us, _, vp, rfl, rfl, Sz.ha, atI_nat gp, _, rfl, vp, vsp, _, _, rfl, hvp, hsp, z1.up (by decide), z2.up (by omega), trivial, fun p hp => ?_⟩
              refine ⟨vt, .ref p, q, _, rfl, (hvt.same sz).same (same_upd hp), RT.new, zq.up (by omega), z3.up (by omega), trivial, fun p2 hp2 => ?_⟩
              refine ⟨(sj.trans sz).trans ((same_upd hp).trans (same_upd hp2)), .ref p2, _, _, _, rfl, RT.new, ?_, (zq.add z3).up (by omega)⟩
              rw [hq]
              have e : l.take (j + 1) = l.take j ++ [l[j]] := by
                rw [List.take_add_one, List.getElem?_eq_getElem hjl]
                rfl
              rw [e, costF_snoc, sumC_snoc, Rat.zero_add]
        · have sx : Same H'' (upd H'' pp (.tup (cutV (l.map nv) none (some (0 + (j : Int) + 1))))) := same_upd hpp
          have hax : SqT K (upd H'' pp (.tup (cutV (l.map nv) none (some (0 + (j : Int) + 1))))) pp ((l.take (j + 1)).map nv) := by
            refine SqT.of ?_
            rw [upd_same, cut_to0, List.map_take]
          generalize upd H'' pp (.tup (cutV (l.map nv) none (some (0 + (j : Int) + 1)))) = Hp at sx hax
          refine ⟨pp, rfl, ⟨_, hax⟩, fun D4 hD4 => lc_tup (K := K) (a := pp) (xs := (l.take (j + 1)).map nv) (fun i H' => Same (Hp) H' ∧ ∃ vs, H' D4 = some (.lst vs) ∧ RTs K H' vs (((l.take (j + 1)).take i).map (fn cs)))
            ⟨same_upd hD4, [], upd_same, RTs.nil⟩ (fun i H' _ h => same_seqT h.1 hax) (fun i x H' hx h => ?_) (fun Hy h => ?_)⟩
          · obtain ⟨s7, vs, e7, hvs⟩ := h
            obtain ⟨kk, hk, hkm, rfl⟩ := nv_at hx
            have hkn := o.lt kk (List.mem_of_mem_take hkm)
            have S7 := (Sj.same sx).same s7
            obtain ⟨vc, gc, hvc⟩ := S7.rc.nth (k := kk) (by omega)
            have hlen := hvs.len
            rw [List.length_map, List.length_take, List.length_take] at hlen
            refine ⟨rfl, _, rfl, _, rfl, cb, ws, _, vc, rfl, rfl, S7.hb, atI_nat gc, vs, e7, size_ok (by omega), same_put s7 hD4, _, upd_same, ?_⟩
            rw [map_snoc hk]
            exact (SX.put.rts e7 hvs).snoc (SX.put.rt e7 hvc)
          · obtain ⟨s7, vs, e7, hvs⟩ := h
            rw [List.length_map, List.take_length] at hvs
            have hll : (l.take (j + 1)).length ≤ 5 := by
              rw [List.length_take]
              omega
            refine ⟨D4, vs, _, rfl, SqL.of e7, hvs, by rw [List.length_map]; omega, fun q hq => ?_, fun Hz vsp s8 hsp => ?_⟩
            · obtain ⟨k, hk, rfl⟩ := List.mem_map.mp hq
              exact (fn_all S8.zc (by have := o.lt k (List.mem_of_mem_take hk); omega) : Sm 10 (fn cs k)).up (by decide)
            · rw [fold_sumC, Rat.zero_add] at hsp
              have sz := (sx.trans s7).trans s8
              have Sz := Sj.same sz
              obtain ⟨vp, gp, hvp⟩ := Sz.rp.nth (k := l[j]) (by rw [hpl]; exact o.lt _ (List.getElem_mem hjl))
              have hlj : (l.map nv)[j]? = some (nv l[j]) := by
                rw [List.getElem?_map, List.getElem?_eq_getElem hjl]
                rfl
              have z1 : Sm 10 (fn ps l[j]) := fn_all S8.zp (by rw [hpl]; exact o.lt _ (List.getElem_mem hjl))
              have z2 : Sm (12 * (l.take (j + 1)).length + 1) (sumC (fn cs) (l.take (j + 1))) := sumC_sm (m := 0) _ fun k hk => fn_all S8.zc (by have := o.lt k (List.mem_of_mem_take hk); omega)
              have z3 := z1.mul z2
              refine ⟨_, rfl, _, rfl, _, rfl, _, rfl, so, _, _, nv l[j], rfl, rfl, same_seqT sz hso, at0 hlj, ca, us, _, vp, rfl, rfl, Sz.ha, atI_nat gp, _, rfl, vp, vsp, _, _, rfl, hvp, hsp, z1.up (by decide), z2.up (by omega), trivial, fun p hp => ?_⟩
              refine ⟨vt, .ref p, q, _, rfl, (hvt.same sz).same (same_upd hp), RT.new, zq.up (by omega), z3.up (by omega), trivial, fun p2 hp2 => ?_⟩
              refine ⟨(sj.trans sz).trans ((same_upd hp).trans (same_upd hp2)), .ref p2, _, _, _, rfl, RT.new, ?_, (zq.add z3).up (by omega)⟩
              rw [hq]
              have e : l.take (j + 1) = l.take j ++ [l[j]] := by
                rw [List.take_add_one, List.getElem?_eq_getElem hjl]
                rfl
              rw [e, costF_snoc, sumC_snoc, Rat.zero_add]
      · obtain ⟨sj, vt, q, x9, x10, rfl, hvt, hq, zq⟩ := h
        have et : l.take (1 + m) = l := List.take_of_length_le (by rw [o.len]; exact Nat.le_refl _)
        rw [et] at hq
        subst hq
        have elj := sj _ _ elv'
        refine ⟨.ref lv, rfl, .inl ⟨rfl, _, SqL.of elj⟩, _, rfl, _, rfl, by show 2 ≤ sizeLine; decide, fun tp htp => ?_⟩
        have sp := sj.trans (same_upd (o := .tup [vt, .ref so]) htp)
        have elp := sp _ _ elv'
        have hvl := hvs0.len
        rw [List.length_take] at hvl
        refine ⟨lv, vs0, _, rfl, rfl, elp, size_ok (by omega), (s10.trans (SX.of sp)).trans SX.put, _, _, _, _, _, rfl, upd_same, ?_⟩
        rw [List.take_add_one, hl]
        refine (SX.put.vts elp (hvs0.same sp)).snoc (SX.put.vt elp ⟨tp, vt, .ref so, rfl, SqT.of upd_same, hvt.same (same_upd htp), ⟨so, rfl, same_seqT sp hso0⟩, zq.up (by omega)⟩)
    · obtain ⟨s10, vals, x7, x8, x9, x10, rfl, elv', hvs0⟩ := h
      rw [ho9.len, List.take_length] at hvs0
      have S10 := s10.srch elv S9
      have w10 := w9.sx s10 nlv blv
      clear elo ho9 s10 S9 w9 elv nlo S8 w8
      generalize H' = H10 at S10 w10 elv' hvs0 ⊢
      -- the first value
      have hvl := hvs0.len
      have hpos : 0 < (orders (1 + m)).length := List.length_pos_of_mem hbest
      obtain ⟨l0, hl0⟩ : ∃ l0, (orders (1 + m))[0]? = some l0 := ⟨_, List.getElem?_eq_getElem hpos⟩
      obtain ⟨v0, hv0⟩ : ∃ v0, vals[0]? = some v0 := ⟨_, List.getElem?_eq_getElem (by omega)⟩
      obtain ⟨a0, x0, y0, rfl, ha0, hx0, hy0, hz0⟩ := hvs0.pl 0 v0 l0 hv0 hl0
      refine ⟨_, rfl, lv, vals, 0, .ref a0, rfl, rfl, SqL.of elv', atI_nat (j := 0) hv0, a0, _, 0, x0, rfl, rfl, ha0, rfl, Nat.zero_le _, fun lg hlg => ⟨_, _, rfl, ?_⟩⟩
      have nlg := (w10.free hlg).1
      have t1 : Same H10 (upd H10 lg (.lst [])) := same_upd hlg
      have S11 := S10.same t1
      have w11 := w10.same t1
      have elv1 := t1 _ _ elv'
      have hv1 := hvs0.same t1
      have hb1 := hx0.same t1
      have elg : upd H10 lg (.lst []) lg = some (.lst []) := upd_same
      generalize upd H10 lg (.lst []) = H11 at S11 w11 elv1 hv1 hb1 elg
      clear t1 hlg ha0 hx0 hy0 hv0 hvs0 elv' w10 S10
      -- the least value
      refine ⟨_, rfl, lv, rfl, ⟨_, SqL.of elv1⟩, for_list (K := K) (a := lv) (xs := vals) (fun i σ H' => H' = H11 ∧ ∃ vb x7 x13, σ = [some (.ref a), some (.ref r), some (nv (1 + m)), some (.ref D), some (.ref ca), some (.ref cb), some (.ref lv), x7, x8, x9, x10, some vb, some (.ref lg), x13, none, none, none, none] ∧ RT K H11 vb (low (costF (fn ps) (fn cs) 0) ((orders (1 + m)).take i) (costF (fn ps) (fn cs) 0 l0)) ∧ Sm 1000 (low (costF (fn ps) (fn cs) 0) ((orders (1 + m)).take i) (costF (fn ps) (fn cs) 0 l0)))
        ⟨rfl, x0, x7, none, rfl, hb1, hz0⟩ (fun i σ H' _ h => by rw [h.1]; exact SqL.of elv1) (fun i x σ H' hx h => ?_) (fun σ H' h => ?_)⟩
      · obtain ⟨rfl, vb, x7, x13, rfl, hvb, hzb⟩ := h
        obtain ⟨l, hl⟩ := at_or hvl hx
        obtain ⟨a1, x1, y1, rfl, h1, h2, h3, h4⟩ := hv1.pl i x l hx hl
        refine ⟨a1, [x1, y1], rfl, h1, rfl, x1, [y1], rfl, y1, [], rfl, rfl, ?_⟩
        refine ⟨_, rfl, _, rfl, x1, vb, _, _, rfl, h2, hvb, h4.up (by decide), hzb.up (by decide), _, rfl, ite2 (fun e => ?_) (fun e => ?_)⟩
        · have e1 := of_decide_eq_true e
          refine ⟨_, rfl, rfl, x1, some y1, some x1, rfl, ?_⟩
          rw [low_succ hl]
          unfold lower
          rw [if_pos e1]
          exact ⟨h2, h4⟩
        · have e1 := of_decide_eq_false (Bool.eq_false_iff.mpr e)
          refine ⟨_, rfl, rfl, vb, some y1, some x1, rfl, ?_⟩
          rw [low_succ hl]
          unfold lower
          rw [if_neg e1]
          exact ⟨hvb, hzb⟩
      · obtain ⟨rfl, vb, x7, x13, rfl, hvb, hzb⟩ := h
        rw [hvl, List.take_length] at hvb hzb
        generalize hbq : low (costF (fn ps) (fn cs) 0) (orders (1 + m)) (costF (fn ps) (fn cs) 0 l0) = bq at hvb hzb
        have hll := lower_least ((orders (1 + m)).map (costF (fn ps) (fn cs) 0)) (costF (fn ps) (fn cs) 0 l0)
        have hbe : (((orders (1 + m)).map (costF (fn ps) (fn cs) 0)).foldl lower (costF (fn ps) (fn cs) 0 l0)) = bq := hbq
        rw [hbe] at hll
        obtain ⟨q1, _, q3⟩ := hll
        have hang : Hang (1 + m) (fn ps) (fn cs) (share ps cs) := hang_of fun k hk => fn_all S11.pc (by have := S11.nc; omega)
        have hiff : ∀ l, IsOrd (1 + m) (1 + m) l → (Falls (share ps cs) l ↔ costF (fn ps) (fn cs) 0 l = bq) := fun l o => by
          refine best_iff hang ?_ (fun l' o' => q3 _ (List.mem_map.mpr ⟨l', mem_orders.mpr o', rfl⟩)) o
          rcases q1 with q1 | q1
          · exact ⟨l0, mem_orders.mp (List.mem_of_getElem? hl0), q1.symm⟩
          · obtain ⟨l', h', e'⟩ := List.mem_map.mp q1
            exact ⟨l', mem_orders.mp h', e'⟩
        clear q1 q3 hbe hbq hl0 hb1 hz0 hzb
        -- the falling orders
        refine ⟨_, rfl, lv, rfl, ⟨_, SqL.of elv1⟩, for_list (K := K) (a := lv) (xs := vals) (fun i σ H2 => Same H' H2 ∧ ∃ lg gs x7 x13 x14 x15, σ = [some (.ref a), some (.ref r), some (nv (1 + m)), some (.ref D), some (.ref ca), some (.ref cb), some (.ref lv), x7, x8, x9, x10, some vb, some (.ref lg), x13, x14, x15, none, none] ∧ r ≠ lg ∧ H2 lg = some (.lst gs) ∧ OTs K H2 gs (((orders (1 + m)).take i).filter fun l => decide (costF (fn ps) (fn cs) 0 l = bq)))
          ⟨Same.refl H', lg, [], x7, x13, none, none, rfl, nlg, elg, OTs.nil⟩ (fun i σ H2 _ h => h.1.seq (SqL.of elv1)) (fun i x σ H2 hx h => ?_) (fun σ H2 h => ?_)⟩
        · obtain ⟨t2, lg, gs, x7, x13, x14, x15, rfl, nlg, elg, hgs⟩ := h
          obtain ⟨l, hl⟩ := at_or hvl hx
          obtain ⟨a1, x1, y1, rfl, h1, h2, ⟨so, rfl, hso⟩, h4⟩ := (hv1.pl i x l hx hl).same t2
          have o := mem_orders.mp (List.mem_of_getElem? hl)
          have S12 := S11.same t2
          have hvb2 := hvb.same t2
          refine ⟨a1, [x1, .ref so], rfl, h1, rfl, x1, [.ref so], rfl, .ref so, [], rfl, rfl, ?_⟩
          -- the shares
          refine ⟨_, rfl, so, rfl, ⟨_, hso⟩, fun D5 hD5 => lc_tup (K := K) (a := so) (xs := l.map nv) (fun j H3 => Same H2 H3 ∧ ∃ vs, H3 D5 = some (.lst vs) ∧ RTs K H3 vs ((l.take j).map (share ps cs)))
            ⟨same_upd hD5, [], upd_same, RTs.nil⟩ (fun j H3 _ h => same_seqT h.1 hso) (fun j x H3 hx h => ?_) (fun H3 h => ?_)⟩
          · obtain ⟨t3, vs, e3, hvs⟩ := h
            obtain ⟨kk, hk, hkm, rfl⟩ := nv_at hx
            have hkn := o.lt kk hkm
            have S3 := S12.same t3
            obtain ⟨vp, gp, hvp⟩ := S3.rp.nth (k := kk) (by omega)
            obtain ⟨vc, gc, hvc⟩ := S3.rc.nth (k := kk) (by have := S3.nc; omega)
            have z1 : Sm 10 (fn ps kk) := fn_all S3.zp (by omega)
            have z2 : Sm 10 (fn cs kk) := fn_all S3.zc (by have := S3.nc; omega)
            have z3 : 0 < fn cs kk := fn_all S3.pc (by have := S3.nc; omega)
            have hlen := hvs.len
            rw [List.length_map, List.length_take, o.len] at hlen
            refine ⟨rfl, _, rfl, _, rfl, ca, us, _, vp, rfl, rfl, S3.ha, atI_nat gp, _, rfl, _, rfl, cb, ws, _, vc, rfl, rfl, S3.hb, atI_nat gc, vp, vc, _, _, rfl, hvp, hvc, z1.up (by decide), z2.up (by decide), z3, fun p hp => ?_⟩
            refine ⟨vs, same_upd hp _ _ e3, size_ok (by omega), same_put (t3.trans (same_upd hp)) hD5, _, upd_same, ?_⟩
            rw [map_snoc hk]
            exact (SX.put.rts (same_upd hp _ _ e3) (hvs.same (same_upd hp))).snoc (SX.put.rt (same_upd hp _ _ e3) RT.new)
          · obtain ⟨t3, sh, e3, hsh⟩ := h
            rw [List.length_map, List.take_length] at hsh
            have hnn : (1 + (m : Int) - 1).toNat = m := by omega
            have hzs : ∀ k, k < 1 + m → Sm 20 (share ps cs (l.getD k 0)) := fun k hk => by
              have hk2 : l.getD k 0 < 1 + m := by
                rw [List.getD_eq_getElem?_getD, List.getElem?_eq_getElem (by rw [o.len]; exact hk)]
                exact o.lt _ (List.getElem_mem _)
              have hc := S12.nc
              exact (fn_all S12.zp (by omega) : Sm 10 (fn ps (l.getD k 0))).div (fn_all S12.zc (by omega) : Sm 10 (fn cs (l.getD k 0))) (fn_all S12.pc (by omega))
            -- the places at which they grow
            refine ⟨_, rfl, 1, 1 + (m : Int), rfl, ⟨by omega, by omega, by omega, by omega⟩, fun D6 hD6 => lc_range (lo := 1) (n := (1 + (m : Int) - 1).toNat) (fun j H4 => Same H3 H4 ∧ H4 D6 = some (.lst ((grows (share ps cs) l j).map nv)))
              ⟨same_upd hD6, upd_same⟩ (fun j H4 hj h => ?_) (fun H4 h => ?_)⟩
            · obtain ⟨t4, e4⟩ := h
              have es4 := t4 _ _ e3
              have hs4 := hsh.same t4
              have ol := o.len
              obtain ⟨va, ga, hva⟩ := hs4.nth (k := j) (by rw [List.length_map]; omega)
              obtain ⟨vc, gc, hvc⟩ := hs4.nth (k := j + 1) (by rw [List.length_map]; omega)
              rw [fn_map (by omega)] at hva hvc
              have i1 : atI sh (1 + (j : Int) - 1) = some va := by
                rw [show 1 + (j : Int) - 1 = (j : Int) by omega]
                exact atI_nat ga
              have i2 : atI sh (1 + (j : Int)) = some vc := by
                rw [show 1 + (j : Int) = ((j + 1 : Nat) : Int) by omega]
                exact atI_nat gc
              refine ⟨rfl, _, rfl, _, rfl, _, 1, rfl, rfl, D5, sh, _, va, rfl, rfl, SqL.of es4, i1, _, rfl, _, rfl, D5, sh, _, vc, rfl, rfl, SqL.of es4, i2, va, vc, _, _, rfl, hva, hvc, (hzs j (by omega)).up (by decide), (hzs (j + 1) (by omega)).up (by decide), _, rfl, ite2 (fun e => ?_) (fun e => ?_)⟩
              · refine ⟨_, rfl, _, e4, size_ok ?_, same_put t4 hD6, ?_⟩
                · rw [List.length_map]
                  have := grows_len (share ps cs) l j
                  omega
                · rw [upd_same, grows_yes (of_decide_eq_true e), List.map_append]
                  show some (HO.lst (_ ++ [V.int (1 + (j : Int))])) = some (HO.lst (_ ++ [V.int ((j + 1 : Nat) : Int)]))
                  rw [show 1 + (j : Int) = ((j + 1 : Nat) : Int) by omega]
              · refine ⟨t4, ?_⟩
                rw [grows_no (of_decide_eq_false (Bool.eq_false_iff.mpr e))]
                exact e4
            · obtain ⟨t4, e4⟩ := h
              rw [hnn] at e4
              refine ⟨Nat.zero_le _, fun p hp => ?_⟩
              have t5 := t4.trans (same_upd (o := .lst []) hp)
              refine ⟨_, _, dp_nats (SqL.of (same_upd hp _ _ e4)), .lst (SqL.of upd_same) .nil, PySem.W.shaped_ints _, rfl, ?_⟩
              generalize upd H4 p (.lst []) = H5 at t5
              have t6 := t3.trans t5
              have h25 := h2.same t6
              have hb5 := hvb2.same t6
              have hcond : V.bl (!decide (V.bl (PyData.eqv (.list ((toI (grows (share ps cs) l m)).map PyData.int)) (.list [])) = V.bl (PyData.eqv (.tuple [.int (costF (fn ps) (fn cs) 0 l).num, .int ((costF (fn ps) (fn cs) 0 l).den : Int)]) (.tuple [.int bq.num, .int (bq.den : Int)])))) = V.bl false := by
                have hk : (grows (share ps cs) l m).isEmpty = decide (costF (fn ps) (fn cs) 0 l = bq) := by
                  rw [Bool.eq_iff_iff, decide_eq_true_iff, ← hiff l o]
                  have := grows_none (s := share ps cs) (l := l)
                  rw [o.len, Nat.add_sub_cancel_left] at this
                  exact this
                rw [eqv_nats_nil, eqv_rv, hk, decide_eq_true rfl]
                rfl
              refine ⟨_, rfl, _, rfl, _, rfl, _, _, h25.dp, hb5.dp, shaped_rv _, shaped_rv _, rfl, false, hcond, iteF ?_⟩
              -- one more
              have elg5 := t6 _ _ elg
              have hgs5 := hgs.same t6
              have hgl := hgs5.len
              have hgb := List.length_filter_le (fun l => decide (costF (fn ps) (fn cs) 0 l = bq)) ((orders (1 + m)).take i)
              rw [List.length_take] at hgb
              refine ⟨_, rfl, _, rfl, _, rfl, _, _, h25.dp, hb5.dp, shaped_rv _, shaped_rv _, _, rfl, ?_⟩
              rw [eqv_rv]
              refine ite2 (fun e => ?_) (fun e => ?_)
              · refine ⟨_, rfl, by show 1 ≤ sizeLine; decide, fun p hp => ⟨_, p, gs, _, rfl, rfl, same_upd hp _ _ elg5, upd_same, Nat.le_of_lt (size_ok (by rw [List.length_singleton]; omega)), fun p2 hp2 => ?_⟩⟩
                have t7 : Same H5 (upd (upd H5 p (.lst [.ref so])) p2 (.lst (gs ++ [.ref so]))) := (same_upd hp).trans (same_upd hp2)
                refine ⟨(t2.trans t6).trans t7, p2, _, _, _, _, _, rfl, ((w11.same (t2.trans t6)).same (same_upd hp) |>.free hp2).1, upd_same, ?_⟩
                rw [filt_succ hl, if_pos e]
                exact (hgs5.same t7).append (OTs.one ⟨so, rfl, same_seqT (t6.trans t7) hso⟩)
              · refine ⟨Nat.zero_le _, fun p hp => ⟨_, p, gs, _, rfl, rfl, same_upd hp _ _ elg5, upd_same, Nat.le_of_lt (size_ok (by rw [List.length_nil]; omega)), fun p2 hp2 => ?_⟩⟩
                have t7 : Same H5 (upd (upd H5 p (.lst [])) p2 (.lst (gs ++ []))) := (same_upd hp).trans (same_upd hp2)
                refine ⟨(t2.trans t6).trans t7, p2, _, _, _, _, _, rfl, ((w11.same (t2.trans t6)).same (same_upd hp) |>.free hp2).1, upd_same, ?_⟩
                rw [filt_succ hl, if_neg e]
                exact (hgs5.same t7).append OTs.nil
        · obtain ⟨t2, lg, gs, x7, x13, x14, x15, rfl, nlg, elg, hgs⟩ := h
          rw [hvl, List.take_length] at hgs
          have S12 := S11.same t2
          have w12 := w11.same t2
          have hv2 := hv1.same t2
          have hvb2 := hvb.same t2
          have elv2 := t2 _ _ elv1
          clear S11 w11 hv1 hvb elv1 t2
          -- one of the values
          refine ⟨_, rfl, _, rfl, H, r, lv, vals, rfl, SqL.of elv2, nlv.symm, by omega, by omega, w12, fun i v H3 hv s3 w3 => ?_⟩
          obtain ⟨lr, elr⟩ := w12.lst
          obtain ⟨l, hl⟩ := at_or hvl hv
          obtain ⟨a1, x1, y1, rfl, h1, h2, ⟨so, rfl, hso⟩, h4⟩ := s3.vt elr (hv2.pl i v l hv hl)
          have o := mem_orders.mp (List.mem_of_getElem? hl)
          have S13 := s3.srch elr S12
          have hvb3 := s3.rt elr hvb2
          have hgs3 := s3.ots elr hgs
          refine ⟨a1, [x1, .ref so], rfl, h1, rfl, x1, [.ref so], rfl, .ref so, [], rfl, rfl, ?_⟩
          -- the answers, and what is due
          have elg3 := s3 _ _ nlg.symm elg
          have hbo := mem_orders.mp hbest
          have hbf : Falls (share ps cs) (best ps cs) := (greedy_all (s := share ps cs) ps.length (List.range ps.length) List.length_range List.pairwise_lt_range).2.1
          have hbc : costF (fn ps) (fn cs) 0 (best ps cs) = bq := (hiff _ hbo).mp hbf
          have hbg : best ps cs ∈ (orders (1 + m)).filter fun l => decide (costF (fn ps) (fn cs) 0 l = bq) := List.mem_filter.mpr ⟨hbest, decide_eq_true hbc⟩
          have hlex : ∀ y ∈ (orders (1 + m)).filter fun l => decide (costF (fn ps) (fn cs) 0 l = bq), y = best ps cs ∨ LexLt (best ps cs) y := fun y hy => by
            obtain ⟨y1, y2⟩ := List.mem_filter.mp hy
            have oy := mem_orders.mp y1
            refine (greedy_all (s := share ps cs) ps.length (List.range ps.length) List.length_range List.pairwise_lt_range).2.2 y ?_ ((hiff y oy).mpr (of_decide_eq_true y2))
            rw [hpl]
            exact perm_of_sub oy.nd (fun x hx => List.mem_range.mpr (oy.lt x hx)) (by rw [List.length_range, oy.len]; exact Nat.le_refl _)
          refine ⟨_, rfl, _, rfl, ca, cb, us, ws, ps, cs, rfl, S13, fun H4 tb v o1 s4 etb hv4 ho4 => ?_⟩
          refine ⟨_, rfl, _, rfl, _, rfl, ca, cb, so, us, ws, ps, cs, l, rfl, S13.same s4, same_seqT s4 hso, by rw [hpl]; exact o, fun H5 v5 s5 hv5 => ?_⟩
          refine ⟨by show 2 ≤ sizeLine; decide, fun L1 hL1 => ?_⟩
          have u1 : Same H3 (upd H5 L1 (.lst [.ref tb, v5])) := (s4.trans s5).trans (same_upd hL1)
          have u2 : Same H4 (upd H5 L1 (.lst [.ref tb, v5])) := s5.trans (same_upd hL1)
          have eL1 : upd H5 L1 (.lst [.ref tb, v5]) L1 = some (.lst [.ref tb, v5]) := upd_same
          have etb6 := u2 _ _ etb
          have hv6 := hv4.same u2
          have ho6 := u2 _ _ ho4
          have hv56 := hv5.same (same_upd (o := .lst [.ref tb, v5]) hL1)
          have elg6 := u1 _ _ elg3
          have hgs6 := hgs3.same u1
          have hvb6 := hvb3.same u1
          have h26 := h2.same u1
          generalize upd H5 L1 (.lst [.ref tb, v5]) = H6 at eL1 etb6 hv6 ho6 hv56 elg6 hgs6 hvb6 h26
          generalize hfl : ((orders (1 + m)).filter fun l => decide (costF (fn ps) (fn cs) 0 l = bq)) = good at hgs6 hbg hlex
          cases good with
          | nil => exact absurd hbg List.not_mem_nil
          | cons g0 gr =>
            have hmin : lstMin (toI g0) (gr.map toI) = toI (best ps cs) := by
              refine min_is _ _ ?_ fun y hy => ?_
              · rcases List.mem_cons.mp hbg with e | e
                · exact .inl (by rw [e])
                · exact .inr (List.mem_map.mpr ⟨_, e, rfl⟩)
              · have hy2 : y ∈ (g0 :: gr).map toI := hy
                obtain ⟨z, hz, rfl⟩ := List.mem_map.mp hy2
                rcases hlex z hz with e | e
                · exact .inl (by rw [e])
                · exact .inr (lt_of_lex e)
            refine ⟨_, rfl, _, rfl, lg, gs, toI g0, gr.map toI, rfl, SqL.of elg6, hgs6.dp, fun i2 vm hi2 hm2 => ?_⟩
            rw [hmin] at hm2
            have hm3 : (g0 :: gr)[i2]? = some (best ps cs) := by
              have hm4 : ((g0 :: gr).map toI)[i2]? = some (toI (best ps cs)) := hm2
              rw [List.getElem?_map] at hm4
              cases e : (g0 :: gr)[i2]? with
              | none =>
                rw [e] at hm4
                cases hm4
              | some z =>
                rw [e] at hm4
                rw [toI_inj (Option.some.inj hm4)]
            have hom := hgs6.pl i2 vm _ hi2 hm3
            refine ⟨by show 2 ≤ sizeLine; decide, fun td htd => ⟨_, rfl, by show 2 ≤ sizeLine; decide, fun L2 hL2 => ?_⟩⟩
            have u3 : Same H6 (upd (upd H6 td (.tup [vb, vm])) L2 (.lst [.ref td, x1])) := (same_upd htd).trans (same_upd hL2)
            have etd : upd (upd H6 td (.tup [vb, vm])) L2 (.lst [.ref td, x1]) td = some (.tup [vb, vm]) := same_upd hL2 _ _ upd_same
            refine ⟨.ref L1, .ref L2, rfl, .inr ⟨L1, L2, [.ref tb, v5], [.ref td, x1], rfl, rfl, .inl ⟨SqL.of (u3 _ _ eL1), SqL.of upd_same⟩, rfl, by show 2 ≤ 100; decide, fun i3 u v' p q => ?_⟩, fun H' _ => Z H'⟩
            match i3, p, q with
            | 0, p, q =>
              cases p
              cases q
              refine .inr ⟨tb, td, [v, .ref o1], [vb, vm], rfl, rfl, .inr ⟨SqT.of (u3 _ _ etb6), SqT.of etd⟩, rfl, by show 2 ≤ 100; decide, fun i4 u4 v4 p4 q4 => ?_⟩
              match i4, p4, q4 with
              | 0, p4, q4 =>
                cases p4
                cases q4
                rw [hbc] at hv6
                exact Al.rt (hv6.same u3) (hvb6.same u3)
              | 1, p4, q4 =>
                cases p4
                cases q4
                exact Al.ot ⟨o1, rfl, SqT.of (u3 _ _ ho6)⟩ (hom.same u3) (by rw [hbo.len]; omega)
              | i4 + 2, p4, q4 => simp at p4
            | 1, p, q =>
              cases p
              cases q
              exact Al.rt (hv56.same u3) (h26.same u3)
            | i3 + 2, p, q => simp at p

end
end K96

/-! what the top has written; the law's row -/
namespace K96
open PySem PySem.Spec PyProof.Rows L2
set_option maxHeartbeats 4000000 in
theorem all_mk {l : PySem.W.OpenLaw} {w : World} {K : PySem.W.Frag} {h : Heap} {mg : Str → Option Value} {fa : Addr} (X : K.In h) (G : h.Ns mainGlobals mg) (hfa : mg "law" = some (.ref fa))
    {f_is_in f_gcd f_reduced f_plus f_times f_is_below f_is_ratio f_total_of f_need_order f_are_positive f_need_search f_cost_of f_search_cost f_comes_before f_best_search f_ltaken f_lpick f_lgcd f_lratio f_lrate f_lorders f_lplus f_lsum f_ltimes f_lless f_lover f_lalike f_law z0 z1 : Addr} {od_is_in an_is_in od_gcd an_gcd od_reduced an_reduced od_plus an_plus od_times an_times od_is_below an_is_below od_is_ratio an_is_ratio od_total_of an_total_of od_need_order an_need_order od_are_positive an_are_positive od_need_search an_need_search od_cost_of an_cost_of od_search_cost an_search_cost od_comes_before an_comes_before od_best_search an_best_search od_ltaken an_ltaken od_lpick an_lpick od_lgcd an_lgcd od_lratio an_lratio od_lrate an_lrate od_lorders an_lorders od_lplus an_lplus od_lsum an_lsum od_ltimes an_ltimes od_lless an_lless od_lover an_lover od_lalike an_lalike od_law an_law dz0 dz1 : Option Addr}
    {sl_is_in sl_gcd sl_reduced sl_plus sl_times sl_is_below sl_is_ratio sl_total_of sl_need_order sl_are_positive sl_need_search sl_cost_of sl_search_cost sl_comes_before sl_best_search sl_ltaken sl_lpick sl_lgcd sl_lratio sl_lrate sl_lorders sl_lplus sl_lsum sl_ltimes sl_lless sl_lover sl_lalike sl_law sz0 sz1 : Array (Option Value)} {oc_is_in kV_is_in dc_is_in pm_is_in cd_is_in ct_is_in oc_gcd kV_gcd dc_gcd pm_gcd cd_gcd ct_gcd oc_reduced kV_reduced dc_reduced pm_reduced cd_reduced ct_reduced oc_plus kV_plus dc_plus pm_plus cd_plus ct_plus oc_times kV_times dc_times pm_times cd_times ct_times oc_is_below kV_is_below dc_is_below pm_is_below cd_is_below ct_is_below oc_is_ratio kV_is_ratio dc_is_ratio pm_is_ratio cd_is_ratio ct_is_ratio oc_total_of kV_total_of dc_total_of pm_total_of cd_total_of ct_total_of oc_need_order kV_need_order dc_need_order pm_need_order cd_need_order ct_need_order oc_are_positive kV_are_positive dc_are_positive pm_are_positive cd_are_positive ct_are_positive oc_need_search kV_need_search dc_need_search pm_need_search cd_need_search ct_need_search oc_cost_of kV_cost_of dc_cost_of pm_cost_of cd_cost_of ct_cost_of oc_search_cost kV_search_cost dc_search_cost pm_search_cost cd_search_cost ct_search_cost oc_comes_before kV_comes_before dc_comes_before pm_comes_before cd_comes_before ct_comes_before oc_best_search kV_best_search dc_best_search pm_best_search cd_best_search ct_best_search oc_ltaken kV_ltaken dc_ltaken pm_ltaken cd_ltaken ct_ltaken oc_lpick kV_lpick dc_lpick pm_lpick cd_lpick ct_lpick oc_lgcd kV_lgcd dc_lgcd pm_lgcd cd_lgcd ct_lgcd oc_lratio kV_lratio dc_lratio pm_lratio cd_lratio ct_lratio oc_lrate kV_lrate dc_lrate pm_lrate cd_lrate ct_lrate oc_lorders kV_lorders dc_lorders pm_lorders cd_lorders ct_lorders oc_lplus kV_lplus dc_lplus pm_lplus cd_lplus ct_lplus oc_lsum kV_lsum dc_lsum pm_lsum cd_lsum ct_lsum oc_ltimes kV_ltimes dc_ltimes pm_ltimes cd_ltimes ct_ltimes oc_lless kV_lless dc_lless pm_lless cd_lless ct_lless oc_lover kV_lover dc_lover pm_lover cd_lover ct_lover oc_lalike kV_lalike dc_lalike pm_lalike cd_lalike ct_lalike oc_law kV_law dc_law pm_law cd_law ct_law : Value} {t0 t1 t2 t3 t4 : Tok} {nz0 nz1 : Nat}
    (a_is_in : PySem.W.nsIn K mainGlobals "is_in" = some (some (.ref f_is_in))) (l_is_in : K.lookup f_is_in = some ⟨oc_is_in, od_is_in, .func (PySem.W.fnOf "is_in" "is_in" (defArgs s_is_in) (defBody s_is_in) (defScope s_is_in) .none kV_is_in dc_is_in pm_is_in an_is_in cd_is_in ct_is_in), sl_is_in⟩) (c_is_in : PySem.W.codeIn K cd_is_in "is_in" = true) (k_is_in : PySem.W.keepIn K (.ref f_is_in) = true)
    (a_gcd : PySem.W.nsIn K mainGlobals "gcd" = some (some (.ref f_gcd))) (l_gcd : K.lookup f_gcd = some ⟨oc_gcd, od_gcd, .func (PySem.W.fnOf "gcd" "gcd" (defArgs s_gcd) (defBody s_gcd) (defScope s_gcd) .none kV_gcd dc_gcd pm_gcd an_gcd cd_gcd ct_gcd), sl_gcd⟩) (c_gcd : PySem.W.codeIn K cd_gcd "gcd" = true) (k_gcd : PySem.W.keepIn K (.ref f_gcd) = true)
    (a_reduced : PySem.W.nsIn K mainGlobals "reduced" = some (some (.ref f_reduced))) (l_reduced : K.lookup f_reduced = some ⟨oc_reduced, od_reduced, .func (PySem.W.fnOf "reduced" "reduced" (defArgs s_reduced) (defBody s_reduced) (defScope s_reduced) .none kV_reduced dc_reduced pm_reduced an_reduced cd_reduced ct_reduced), sl_reduced⟩) (c_reduced : PySem.W.codeIn K cd_reduced "reduced" = true) (k_reduced : PySem.W.keepIn K (.ref f_reduced) = true)
    (a_plus : PySem.W.nsIn K mainGlobals "plus" = some (some (.ref f_plus))) (l_plus : K.lookup f_plus = some ⟨oc_plus, od_plus, .func (PySem.W.fnOf "plus" "plus" (defArgs s_plus) (defBody s_plus) (defScope s_plus) .none kV_plus dc_plus pm_plus an_plus cd_plus ct_plus), sl_plus⟩) (c_plus : PySem.W.codeIn K cd_plus "plus" = true) (k_plus : PySem.W.keepIn K (.ref f_plus) = true)
    (a_times : PySem.W.nsIn K mainGlobals "times" = some (some (.ref f_times))) (l_times : K.lookup f_times = some ⟨oc_times, od_times, .func (PySem.W.fnOf "times" "times" (defArgs s_times) (defBody s_times) (defScope s_times) .none kV_times dc_times pm_times an_times cd_times ct_times), sl_times⟩) (c_times : PySem.W.codeIn K cd_times "times" = true) (k_times : PySem.W.keepIn K (.ref f_times) = true)
    (a_is_below : PySem.W.nsIn K mainGlobals "is_below" = some (some (.ref f_is_below))) (l_is_below : K.lookup f_is_below = some ⟨oc_is_below, od_is_below, .func (PySem.W.fnOf "is_below" "is_below" (defArgs s_is_below) (defBody s_is_below) (defScope s_is_below) .none kV_is_below dc_is_below pm_is_below an_is_below cd_is_below ct_is_below), sl_is_below⟩) (c_is_below : PySem.W.codeIn K cd_is_below "is_below" = true) (k_is_below : PySem.W.keepIn K (.ref f_is_below) = true)
    (a_is_ratio : PySem.W.nsIn K mainGlobals "is_ratio" = some (some (.ref f_is_ratio))) (l_is_ratio : K.lookup f_is_ratio = some ⟨oc_is_ratio, od_is_ratio, .func (PySem.W.fnOf "is_ratio" "is_ratio" (defArgs s_is_ratio) (defBody s_is_ratio) (defScope s_is_ratio) .none kV_is_ratio dc_is_ratio pm_is_ratio an_is_ratio cd_is_ratio ct_is_ratio), sl_is_ratio⟩) (c_is_ratio : PySem.W.codeIn K cd_is_ratio "is_ratio" = true) (k_is_ratio : PySem.W.keepIn K (.ref f_is_ratio) = true)
    (a_total_of : PySem.W.nsIn K mainGlobals "total_of" = some (some (.ref f_total_of))) (l_total_of : K.lookup f_total_of = some ⟨oc_total_of, od_total_of, .func (PySem.W.fnOf "total_of" "total_of" (defArgs s_total_of) (defBody s_total_of) (defScope s_total_of) .none kV_total_of dc_total_of pm_total_of an_total_of cd_total_of ct_total_of), sl_total_of⟩) (c_total_of : PySem.W.codeIn K cd_total_of "total_of" = true) (k_total_of : PySem.W.keepIn K (.ref f_total_of) = true)
    (a_need_order : PySem.W.nsIn K mainGlobals "need_order" = some (some (.ref f_need_order))) (l_need_order : K.lookup f_need_order = some ⟨oc_need_order, od_need_order, .func (PySem.W.fnOf "need_order" "need_order" (defArgs s_need_order) (defBody s_need_order) (defScope s_need_order) .none kV_need_order dc_need_order pm_need_order an_need_order cd_need_order ct_need_order), sl_need_order⟩) (c_need_order : PySem.W.codeIn K cd_need_order "need_order" = true) (k_need_order : PySem.W.keepIn K (.ref f_need_order) = true)
    (a_are_positive : PySem.W.nsIn K mainGlobals "are_positive" = some (some (.ref f_are_positive))) (l_are_positive : K.lookup f_are_positive = some ⟨oc_are_positive, od_are_positive, .func (PySem.W.fnOf "are_positive" "are_positive" (defArgs s_are_positive) (defBody s_are_positive) (defScope s_are_positive) .none kV_are_positive dc_are_positive pm_are_positive an_are_positive cd_are_positive ct_are_positive), sl_are_positive⟩) (c_are_positive : PySem.W.codeIn K cd_are_positive "are_positive" = true) (k_are_positive : PySem.W.keepIn K (.ref f_are_positive) = true)
    (a_need_search : PySem.W.nsIn K mainGlobals "need_search" = some (some (.ref f_need_search))) (l_need_search : K.lookup f_need_search = some ⟨oc_need_search, od_need_search, .func (PySem.W.fnOf "need_search" "need_search" (defArgs s_need_search) (defBody s_need_search) (defScope s_need_search) .none kV_need_search dc_need_search pm_need_search an_need_search cd_need_search ct_need_search), sl_need_search⟩) (c_need_search : PySem.W.codeIn K cd_need_search "need_search" = true) (k_need_search : PySem.W.keepIn K (.ref f_need_search) = true)
    (a_cost_of : PySem.W.nsIn K mainGlobals "cost_of" = some (some (.ref f_cost_of))) (l_cost_of : K.lookup f_cost_of = some ⟨oc_cost_of, od_cost_of, .func (PySem.W.fnOf "cost_of" "cost_of" (defArgs s_cost_of) (defBody s_cost_of) (defScope s_cost_of) .none kV_cost_of dc_cost_of pm_cost_of an_cost_of cd_cost_of ct_cost_of), sl_cost_of⟩) (c_cost_of : PySem.W.codeIn K cd_cost_of "cost_of" = true) (k_cost_of : PySem.W.keepIn K (.ref f_cost_of) = true)
    (a_search_cost : PySem.W.nsIn K mainGlobals "search_cost" = some (some (.ref f_search_cost))) (l_search_cost : K.lookup f_search_cost = some ⟨oc_search_cost, od_search_cost, .func (PySem.W.fnOf "search_cost" "search_cost" (defArgs s_search_cost) (defBody s_search_cost) (defScope s_search_cost) .none kV_search_cost dc_search_cost pm_search_cost an_search_cost cd_search_cost ct_search_cost), sl_search_cost⟩) (c_search_cost : PySem.W.codeIn K cd_search_cost "search_cost" = true) (k_search_cost : PySem.W.keepIn K (.ref f_search_cost) = true)
    (a_comes_before : PySem.W.nsIn K mainGlobals "comes_before" = some (some (.ref f_comes_before))) (l_comes_before : K.lookup f_comes_before = some ⟨oc_comes_before, od_comes_before, .func (PySem.W.fnOf "comes_before" "comes_before" (defArgs s_comes_before) (defBody s_comes_before) (defScope s_comes_before) .none kV_comes_before dc_comes_before pm_comes_before an_comes_before cd_comes_before ct_comes_before), sl_comes_before⟩) (c_comes_before : PySem.W.codeIn K cd_comes_before "comes_before" = true) (k_comes_before : PySem.W.keepIn K (.ref f_comes_before) = true)
    (a_best_search : PySem.W.nsIn K mainGlobals "best_search" = some (some (.ref f_best_search))) (l_best_search : K.lookup f_best_search = some ⟨oc_best_search, od_best_search, .func (PySem.W.fnOf "best_search" "best_search" (defArgs s_best_search) (defBody s_best_search) (defScope s_best_search) .none kV_best_search dc_best_search pm_best_search an_best_search cd_best_search ct_best_search), sl_best_search⟩) (c_best_search : PySem.W.codeIn K cd_best_search "best_search" = true) (k_best_search : PySem.W.keepIn K (.ref f_best_search) = true)
    (a_ltaken : PySem.W.nsIn K mainGlobals "_law_taken" = some (some (.ref f_ltaken))) (l_ltaken : K.lookup f_ltaken = some ⟨oc_ltaken, od_ltaken, .func (PySem.W.fnOf "_law_taken" "_law_taken" (defArgs s_ltaken) (defBody s_ltaken) (defScope s_ltaken) .none kV_ltaken dc_ltaken pm_ltaken an_ltaken cd_ltaken ct_ltaken), sl_ltaken⟩) (c_ltaken : PySem.W.codeIn K cd_ltaken "_law_taken" = true) (k_ltaken : PySem.W.keepIn K (.ref f_ltaken) = true)
    (a_lpick : PySem.W.nsIn K mainGlobals "_law_pick" = some (some (.ref f_lpick))) (l_lpick : K.lookup f_lpick = some ⟨oc_lpick, od_lpick, .func (PySem.W.fnOf "_law_pick" "_law_pick" (defArgs s_lpick) (defBody s_lpick) (defScope s_lpick) .none kV_lpick dc_lpick pm_lpick an_lpick cd_lpick ct_lpick), sl_lpick⟩) (c_lpick : PySem.W.codeIn K cd_lpick "_law_pick" = true) (k_lpick : PySem.W.keepIn K (.ref f_lpick) = true)
    (a_lgcd : PySem.W.nsIn K mainGlobals "_law_gcd" = some (some (.ref f_lgcd))) (l_lgcd : K.lookup f_lgcd = some ⟨oc_lgcd, od_lgcd, .func (PySem.W.fnOf "_law_gcd" "_law_gcd" (defArgs s_lgcd) (defBody s_lgcd) (defScope s_lgcd) .none kV_lgcd dc_lgcd pm_lgcd an_lgcd cd_lgcd ct_lgcd), sl_lgcd⟩) (c_lgcd : PySem.W.codeIn K cd_lgcd "_law_gcd" = true) (k_lgcd : PySem.W.keepIn K (.ref f_lgcd) = true)
    (a_lratio : PySem.W.nsIn K mainGlobals "_law_ratio" = some (some (.ref f_lratio))) (l_lratio : K.lookup f_lratio = some ⟨oc_lratio, od_lratio, .func (PySem.W.fnOf "_law_ratio" "_law_ratio" (defArgs s_lratio) (defBody s_lratio) (defScope s_lratio) .none kV_lratio dc_lratio pm_lratio an_lratio cd_lratio ct_lratio), sl_lratio⟩) (c_lratio : PySem.W.codeIn K cd_lratio "_law_ratio" = true) (k_lratio : PySem.W.keepIn K (.ref f_lratio) = true)
    (a_lrate : PySem.W.nsIn K mainGlobals "_law_rate" = some (some (.ref f_lrate))) (l_lrate : K.lookup f_lrate = some ⟨oc_lrate, od_lrate, .func (PySem.W.fnOf "_law_rate" "_law_rate" (defArgs s_lrate) (defBody s_lrate) (defScope s_lrate) .none kV_lrate dc_lrate pm_lrate an_lrate cd_lrate ct_lrate), sl_lrate⟩) (c_lrate : PySem.W.codeIn K cd_lrate "_law_rate" = true) (k_lrate : PySem.W.keepIn K (.ref f_lrate) = true)
    (a_lorders : PySem.W.nsIn K mainGlobals "_law_orders" = some (some (.ref f_lorders))) (l_lorders : K.lookup f_lorders = some ⟨oc_lorders, od_lorders, .func (PySem.W.fnOf "_law_orders" "_law_orders" (defArgs s_lorders) (defBody s_lorders) (defScope s_lorders) .none kV_lorders dc_lorders pm_lorders an_lorders cd_lorders ct_lorders), sl_lorders⟩) (c_lorders : PySem.W.codeIn K cd_lorders "_law_orders" = true) (k_lorders : PySem.W.keepIn K (.ref f_lorders) = true)
    (a_lplus : PySem.W.nsIn K mainGlobals "_law_plus" = some (some (.ref f_lplus))) (l_lplus : K.lookup f_lplus = some ⟨oc_lplus, od_lplus, .func (PySem.W.fnOf "_law_plus" "_law_plus" (defArgs s_lplus) (defBody s_lplus) (defScope s_lplus) .none kV_lplus dc_lplus pm_lplus an_lplus cd_lplus ct_lplus), sl_lplus⟩) (c_lplus : PySem.W.codeIn K cd_lplus "_law_plus" = true) (k_lplus : PySem.W.keepIn K (.ref f_lplus) = true)
    (a_lsum : PySem.W.nsIn K mainGlobals "_law_sum" = some (some (.ref f_lsum))) (l_lsum : K.lookup f_lsum = some ⟨oc_lsum, od_lsum, .func (PySem.W.fnOf "_law_sum" "_law_sum" (defArgs s_lsum) (defBody s_lsum) (defScope s_lsum) .none kV_lsum dc_lsum pm_lsum an_lsum cd_lsum ct_lsum), sl_lsum⟩) (c_lsum : PySem.W.codeIn K cd_lsum "_law_sum" = true) (k_lsum : PySem.W.keepIn K (.ref f_lsum) = true)
    (a_ltimes : PySem.W.nsIn K mainGlobals "_law_times" = some (some (.ref f_ltimes))) (l_ltimes : K.lookup f_ltimes = some ⟨oc_ltimes, od_ltimes, .func (PySem.W.fnOf "_law_times" "_law_times" (defArgs s_ltimes) (defBody s_ltimes) (defScope s_ltimes) .none kV_ltimes dc_ltimes pm_ltimes an_ltimes cd_ltimes ct_ltimes), sl_ltimes⟩) (c_ltimes : PySem.W.codeIn K cd_ltimes "_law_times" = true) (k_ltimes : PySem.W.keepIn K (.ref f_ltimes) = true)
    (a_lless : PySem.W.nsIn K mainGlobals "_law_less" = some (some (.ref f_lless))) (l_lless : K.lookup f_lless = some ⟨oc_lless, od_lless, .func (PySem.W.fnOf "_law_less" "_law_less" (defArgs s_lless) (defBody s_lless) (defScope s_lless) .none kV_lless dc_lless pm_lless an_lless cd_lless ct_lless), sl_lless⟩) (c_lless : PySem.W.codeIn K cd_lless "_law_less" = true) (k_lless : PySem.W.keepIn K (.ref f_lless) = true)
    (a_lover : PySem.W.nsIn K mainGlobals "_law_over" = some (some (.ref f_lover))) (l_lover : K.lookup f_lover = some ⟨oc_lover, od_lover, .func (PySem.W.fnOf "_law_over" "_law_over" (defArgs s_lover) (defBody s_lover) (defScope s_lover) .none kV_lover dc_lover pm_lover an_lover cd_lover ct_lover), sl_lover⟩) (c_lover : PySem.W.codeIn K cd_lover "_law_over" = true) (k_lover : PySem.W.keepIn K (.ref f_lover) = true)
    (a_lalike : PySem.W.nsIn K mainGlobals "_law_alike" = some (some (.ref f_lalike))) (l_lalike : K.lookup f_lalike = some ⟨oc_lalike, od_lalike, .func (PySem.W.fnOf "_law_alike" "_law_alike" (defArgs s_lalike) (defBody s_lalike) (defScope s_lalike) .none kV_lalike dc_lalike pm_lalike an_lalike cd_lalike ct_lalike), sl_lalike⟩) (c_lalike : PySem.W.codeIn K cd_lalike "_law_alike" = true) (k_lalike : PySem.W.keepIn K (.ref f_lalike) = true)
    (a_law : PySem.W.nsIn K mainGlobals "law" = some (some (.ref f_law))) (l_law : K.lookup f_law = some ⟨oc_law, od_law, .func (PySem.W.fnOf "law" "law" (defArgs s_law) (defBody s_law) (defScope s_law) .none kV_law dc_law pm_law an_law cd_law ct_law), sl_law⟩) (c_law : PySem.W.codeIn K cd_law "law" = true) (k_law : PySem.W.keepIn K (.ref f_law) = true)
    (a_z0 : PySem.W.nsIn K mainGlobals "ZERO" = some (some (.ref z0))) (l_z0 : K.lookup z0 = some ⟨.type "tuple", dz0, .seq #[.int 0 t0, .int 1 t1] nz0, sz0⟩)
    (a_z1 : PySem.W.nsIn K mainGlobals "ONE" = some (some (.ref z1))) (l_z1 : K.lookup z1 = some ⟨.type "tuple", dz1, .seq #[.int 1 t2, .int 1 t3] nz1, sz1⟩)
    (a_most : PySem.W.nsIn K mainGlobals "MOST_SEARCHED" = some (some (.int 7 t4)))
    (n_abs : PySem.W.nsIn K mainGlobals "abs" = some none) (n_int : PySem.W.nsIn K mainGlobals "int" = some none) (n_bool : PySem.W.nsIn K mainGlobals "bool" = some none) (n_isinstance : PySem.W.nsIn K mainGlobals "isinstance" = some none) (n_tuple : PySem.W.nsIn K mainGlobals "tuple" = some none) (n_len : PySem.W.nsIn K mainGlobals "len" = some none) (n_list : PySem.W.nsIn K mainGlobals "list" = some none) (n_range : PySem.W.nsIn K mainGlobals "range" = some none) (n_sorted : PySem.W.nsIn K mainGlobals "sorted" = some none) (n_sum : PySem.W.nsIn K mainGlobals "sum" = some none) (n_min : PySem.W.nsIn K mainGlobals "min" = some none) (n_str : PySem.W.nsIn K mainGlobals "str" = some none) :
    ∃ fd : FuncData, (∀ (s : Shared) (v : Value), BindsTo s fd ⟨[v], []⟩ [("_law_script", v)]) ∧ ∀ base : Heap, K.In base → base.Ns mainGlobals mg → FnOk l.prog w K mg base CX0 7 fa fd ["_law_script"] (spLaw K) := by
  have e := hfa.symm.trans (PySem.W.mg_of X G a_law)
  cases e
  have F_is_in := fun_mk (st := s_is_in) l_is_in c_is_in k_is_in
  have F_gcd := fun_mk (st := s_gcd) l_gcd c_gcd k_gcd
  have F_reduced := fun_mk (st := s_reduced) l_reduced c_reduced k_reduced
  have F_plus := fun_mk (st := s_plus) l_plus c_plus k_plus
  have F_times := fun_mk (st := s_times) l_times c_times k_times
  have F_is_below := fun_mk (st := s_is_below) l_is_below c_is_below k_is_below
  have F_is_ratio := fun_mk (st := s_is_ratio) l_is_ratio c_is_ratio k_is_ratio
  have F_total_of := fun_mk (st := s_total_of) l_total_of c_total_of k_total_of
  have F_need_order := fun_mk (st := s_need_order) l_need_order c_need_order k_need_order
  have F_are_positive := fun_mk (st := s_are_positive) l_are_positive c_are_positive k_are_positive
  have F_need_search := fun_mk (st := s_need_search) l_need_search c_need_search k_need_search
  have F_cost_of := fun_mk (st := s_cost_of) l_cost_of c_cost_of k_cost_of
  have F_search_cost := fun_mk (st := s_search_cost) l_search_cost c_search_cost k_search_cost
  have F_comes_before := fun_mk (st := s_comes_before) l_comes_before c_comes_before k_comes_before
  have F_best_search := fun_mk (st := s_best_search) l_best_search c_best_search k_best_search
  have F_ltaken := fun_mk (st := s_ltaken) l_ltaken c_ltaken k_ltaken
  have F_lpick := fun_mk (st := s_lpick) l_lpick c_lpick k_lpick
  have F_lgcd := fun_mk (st := s_lgcd) l_lgcd c_lgcd k_lgcd
  have F_lratio := fun_mk (st := s_lratio) l_lratio c_lratio k_lratio
  have F_lrate := fun_mk (st := s_lrate) l_lrate c_lrate k_lrate
  have F_lorders := fun_mk (st := s_lorders) l_lorders c_lorders k_lorders
  have F_lplus := fun_mk (st := s_lplus) l_lplus c_lplus k_lplus
  have F_lsum := fun_mk (st := s_lsum) l_lsum c_lsum k_lsum
  have F_ltimes := fun_mk (st := s_ltimes) l_ltimes c_ltimes k_ltimes
  have F_lless := fun_mk (st := s_lless) l_lless c_lless k_lless
  have F_lover := fun_mk (st := s_lover) l_lover c_lover k_lover
  have F_lalike := fun_mk (st := s_lalike) l_lalike c_lalike k_lalike
  have F_law := fun_mk (st := s_law) l_law c_law k_law
  have b_is_in := F_is_in.binds (ps := ["value", "least", "most"]) fun _ _ _ _ _ _ us hl => match us, hl with | [_, _, _], _ => rfl
  have b_gcd := F_gcd.binds (ps := ["one", "other"]) fun _ _ _ _ _ _ us hl => match us, hl with | [_, _], _ => rfl
  have b_reduced := F_reduced.binds (ps := ["numerator", "denominator"]) fun _ _ _ _ _ _ us hl => match us, hl with | [_, _], _ => rfl
  have b_plus := F_plus.binds (ps := ["one", "other"]) fun _ _ _ _ _ _ us hl => match us, hl with | [_, _], _ => rfl
  have b_times := F_times.binds (ps := ["one", "other"]) fun _ _ _ _ _ _ us hl => match us, hl with | [_, _], _ => rfl
  have b_is_below := F_is_below.binds (ps := ["one", "other"]) fun _ _ _ _ _ _ us hl => match us, hl with | [_, _], _ => rfl
  have b_is_ratio := F_is_ratio.binds (ps := ["value"]) fun _ _ _ _ _ _ us hl => match us, hl with | [_], _ => rfl
  have b_total_of := F_total_of.binds (ps := ["values"]) fun _ _ _ _ _ _ us hl => match us, hl with | [_], _ => rfl
  have b_need_order := F_need_order.binds (ps := ["many", "order"]) fun _ _ _ _ _ _ us hl => match us, hl with | [_, _], _ => rfl
  have b_are_positive := F_are_positive.binds (ps := ["value", "least", "most"]) fun _ _ _ _ _ _ us hl => match us, hl with | [_, _, _], _ => rfl
  have b_need_search := F_need_search.binds (ps := ["chances", "costs"]) fun _ _ _ _ _ _ us hl => match us, hl with | [_, _], _ => rfl
  have b_cost_of := F_cost_of.binds (ps := ["chances", "costs", "order"]) fun _ _ _ _ _ _ us hl => match us, hl with | [_, _, _], _ => rfl
  have b_search_cost := F_search_cost.binds (ps := ["chances", "costs", "order"]) fun _ _ _ _ _ _ us hl => match us, hl with | [_, _, _], _ => rfl
  have b_comes_before := F_comes_before.binds (ps := ["chances", "costs", "i", "j"]) fun _ _ _ _ _ _ us hl => match us, hl with | [_, _, _, _], _ => rfl
  have b_best_search := F_best_search.binds (ps := ["chances", "costs"]) fun _ _ _ _ _ _ us hl => match us, hl with | [_, _], _ => rfl
  have b_ltaken := F_ltaken.binds (ps := ["_law_row", "_law_many"]) fun _ _ _ _ _ _ us hl => match us, hl with | [_, _], _ => rfl
  have b_lpick := F_lpick.binds (ps := ["_law_row", "_law_things"]) fun _ _ _ _ _ _ us hl => match us, hl with | [_, _], _ => rfl
  have b_lgcd := F_lgcd.binds (ps := ["_law_one", "_law_other"]) fun _ _ _ _ _ _ us hl => match us, hl with | [_, _], _ => rfl
  have b_lratio := F_lratio.binds (ps := ["_law_numerator", "_law_denominator"]) fun _ _ _ _ _ _ us hl => match us, hl with | [_, _], _ => rfl
  have b_lrate := F_lrate.binds (ps := ["_law_row"]) fun _ _ _ _ _ _ us hl => match us, hl with | [_], _ => rfl
  have b_lorders := F_lorders.binds (ps := ["_law_many"]) fun _ _ _ _ _ _ us hl => match us, hl with | [_], _ => rfl
  have b_lplus := F_lplus.binds (ps := ["_law_one", "_law_other"]) fun _ _ _ _ _ _ us hl => match us, hl with | [_, _], _ => rfl
  have b_lsum := F_lsum.binds (ps := ["_law_values"]) fun _ _ _ _ _ _ us hl => match us, hl with | [_], _ => rfl
  have b_ltimes := F_ltimes.binds (ps := ["_law_one", "_law_other"]) fun _ _ _ _ _ _ us hl => match us, hl with | [_, _], _ => rfl
  have b_lless := F_lless.binds (ps := ["_law_one", "_law_other"]) fun _ _ _ _ _ _ us hl => match us, hl with | [_, _], _ => rfl
  have b_lover := F_lover.binds (ps := ["_law_one", "_law_other"]) fun _ _ _ _ _ _ us hl => match us, hl with | [_, _], _ => rfl
  have b_lalike := F_lalike.binds (ps := ["_law_found", "_law_due"]) fun _ _ _ _ _ _ us hl => match us, hl with | [_, _], _ => rfl
  have N_abs := PySem.W.mg_none_of X G n_abs
  have N_int := PySem.W.mg_none_of X G n_int
  have N_bool := PySem.W.mg_none_of X G n_bool
  have N_isinstance := PySem.W.mg_none_of X G n_isinstance
  have N_tuple := PySem.W.mg_none_of X G n_tuple
  have N_len := PySem.W.mg_none_of X G n_len
  have N_list := PySem.W.mg_none_of X G n_list
  have N_range := PySem.W.mg_none_of X G n_range
  have N_sorted := PySem.W.mg_none_of X G n_sorted
  have N_sum := PySem.W.mg_none_of X G n_sum
  have N_min := PySem.W.mg_none_of X G n_min
  have N_str := PySem.W.mg_none_of X G n_str
  have Z0 : ∀ H, SqT K H z0 (rv 0) := fun H => .inr ⟨_, _, _, l_z0, rfl, rfl, by show 2 ≤ sizeLine; decide, .cons ⟨_, rfl⟩ (.cons ⟨_, rfl⟩ .nil)⟩
  have Z1 : ∀ H, SqT K H z1 (rv 1) := fun H => .inr ⟨_, _, _, l_z1, rfl, rfl, by show 2 ≤ sizeLine; decide, .cons ⟨_, rfl⟩ (.cons ⟨_, rfl⟩ .nil)⟩
  refine ⟨_, fun s v => .of_eq rfl, fun base _ _ => ok_law F_law
    (ok_ltaken (k := 5) F_ltaken N_int N_len) (PySem.W.mg_of X G a_ltaken) F_ltaken.kp b_ltaken
    (ok_lpick (k := 5) F_lpick N_len (ok_ltaken (k := 4) F_ltaken N_int N_len) (PySem.W.mg_of X G a_ltaken) F_ltaken.kp b_ltaken) (PySem.W.mg_of X G a_lpick) F_lpick.kp b_lpick
    (ok_lratio (k := 5) F_lratio (ok_lgcd (k := 4) F_lgcd N_abs N_int) (PySem.W.mg_of X G a_lgcd) F_lgcd.kp b_lgcd) (PySem.W.mg_of X G a_lratio) F_lratio.kp b_lratio
    (ok_lrate (k := 5) F_lrate (ok_ltaken (k := 4) F_ltaken N_int N_len) (PySem.W.mg_of X G a_ltaken) F_ltaken.kp b_ltaken (ok_lratio (k := 4) F_lratio (ok_lgcd (k := 3) F_lgcd N_abs N_int) (PySem.W.mg_of X G a_lgcd) F_lgcd.kp b_lgcd) (PySem.W.mg_of X G a_lratio) F_lratio.kp b_lratio) (PySem.W.mg_of X G a_lrate) F_lrate.kp b_lrate
    (ok_lorders (k := 5) F_lorders N_range) (PySem.W.mg_of X G a_lorders) F_lorders.kp b_lorders
    (ok_lplus (k := 5) F_lplus (ok_lratio (k := 4) F_lratio (ok_lgcd (k := 3) F_lgcd N_abs N_int) (PySem.W.mg_of X G a_lgcd) F_lgcd.kp b_lgcd) (PySem.W.mg_of X G a_lratio) F_lratio.kp b_lratio) (PySem.W.mg_of X G a_lplus) F_lplus.kp b_lplus
    (ok_lsum (k := 5) F_lsum (ok_lplus (k := 4) F_lplus (ok_lratio (k := 3) F_lratio (ok_lgcd (k := 2) F_lgcd N_abs N_int) (PySem.W.mg_of X G a_lgcd) F_lgcd.kp b_lgcd) (PySem.W.mg_of X G a_lratio) F_lratio.kp b_lratio) (PySem.W.mg_of X G a_lplus) F_lplus.kp b_lplus) (PySem.W.mg_of X G a_lsum) F_lsum.kp b_lsum
    (ok_ltimes (k := 5) F_ltimes (ok_lratio (k := 4) F_lratio (ok_lgcd (k := 3) F_lgcd N_abs N_int) (PySem.W.mg_of X G a_lgcd) F_lgcd.kp b_lgcd) (PySem.W.mg_of X G a_lratio) F_lratio.kp b_lratio) (PySem.W.mg_of X G a_ltimes) F_ltimes.kp b_ltimes
    (ok_lless (k := 5) F_lless) (PySem.W.mg_of X G a_lless) F_lless.kp b_lless
    (ok_lover (k := 5) F_lover (ok_lratio (k := 4) F_lratio (ok_lgcd (k := 3) F_lgcd N_abs N_int) (PySem.W.mg_of X G a_lgcd) F_lgcd.kp b_lgcd) (PySem.W.mg_of X G a_lratio) F_lratio.kp b_lratio) (PySem.W.mg_of X G a_lover) F_lover.kp b_lover
    (ok_lalike F_lalike N_isinstance N_tuple N_list N_str N_int N_bool N_len N_range (PySem.W.mg_of X G a_lalike) b_lalike 5) (PySem.W.mg_of X G a_lalike) F_lalike.kp b_lalike
    (ok_best_search (k := 5) F_best_search N_len N_list N_range N_tuple (ok_need_search (k := 4) F_need_search N_len (PySem.W.mg_of X G a_most) (PySem.W.mg_of X G a_z1) Z1 (ok_are_positive (k := 3) F_are_positive N_isinstance N_tuple N_len (ok_is_ratio (k := 2) F_is_ratio N_isinstance N_int N_bool N_tuple N_len (ok_gcd (k := 1) F_gcd N_abs) (PySem.W.mg_of X G a_gcd) F_gcd.kp b_gcd) (PySem.W.mg_of X G a_is_ratio) F_is_ratio.kp b_is_ratio) (PySem.W.mg_of X G a_are_positive) F_are_positive.kp b_are_positive (ok_total_of (k := 3) F_total_of (ok_plus (k := 2) F_plus (ok_reduced (k := 1) F_reduced (ok_gcd (k := 0) F_gcd N_abs) (PySem.W.mg_of X G a_gcd) F_gcd.kp b_gcd) (PySem.W.mg_of X G a_reduced) F_reduced.kp b_reduced) (PySem.W.mg_of X G a_plus) F_plus.kp b_plus (PySem.W.mg_of X G a_z0) Z0) (PySem.W.mg_of X G a_total_of) F_total_of.kp b_total_of) (PySem.W.mg_of X G a_need_search) F_need_search.kp b_need_search (ok_comes_before (k := 4) F_comes_before (ok_is_below (k := 3) F_is_below) (PySem.W.mg_of X G a_is_below) F_is_below.kp b_is_below (ok_times (k := 3) F_times (ok_reduced (k := 2) F_reduced (ok_gcd (k := 1) F_gcd N_abs) (PySem.W.mg_of X G a_gcd) F_gcd.kp b_gcd) (PySem.W.mg_of X G a_reduced) F_reduced.kp b_reduced) (PySem.W.mg_of X G a_times) F_times.kp b_times) (PySem.W.mg_of X G a_comes_before) F_comes_before.kp b_comes_before (ok_cost_of (k := 4) F_cost_of (ok_plus (k := 3) F_plus (ok_reduced (k := 2) F_reduced (ok_gcd (k := 1) F_gcd N_abs) (PySem.W.mg_of X G a_gcd) F_gcd.kp b_gcd) (PySem.W.mg_of X G a_reduced) F_reduced.kp b_reduced) (PySem.W.mg_of X G a_plus) F_plus.kp b_plus (ok_times (k := 3) F_times (ok_reduced (k := 2) F_reduced (ok_gcd (k := 1) F_gcd N_abs) (PySem.W.mg_of X G a_gcd) F_gcd.kp b_gcd) (PySem.W.mg_of X G a_reduced) F_reduced.kp b_reduced) (PySem.W.mg_of X G a_times) F_times.kp b_times (PySem.W.mg_of X G a_z0) Z0) (PySem.W.mg_of X G a_cost_of) F_cost_of.kp b_cost_of) (PySem.W.mg_of X G a_best_search) F_best_search.kp b_best_search
    (ok_search_cost (k := 5) F_search_cost N_len (ok_need_search (k := 4) F_need_search N_len (PySem.W.mg_of X G a_most) (PySem.W.mg_of X G a_z1) Z1 (ok_are_positive (k := 3) F_are_positive N_isinstance N_tuple N_len (ok_is_ratio (k := 2) F_is_ratio N_isinstance N_int N_bool N_tuple N_len (ok_gcd (k := 1) F_gcd N_abs) (PySem.W.mg_of X G a_gcd) F_gcd.kp b_gcd) (PySem.W.mg_of X G a_is_ratio) F_is_ratio.kp b_is_ratio) (PySem.W.mg_of X G a_are_positive) F_are_positive.kp b_are_positive (ok_total_of (k := 3) F_total_of (ok_plus (k := 2) F_plus (ok_reduced (k := 1) F_reduced (ok_gcd (k := 0) F_gcd N_abs) (PySem.W.mg_of X G a_gcd) F_gcd.kp b_gcd) (PySem.W.mg_of X G a_reduced) F_reduced.kp b_reduced) (PySem.W.mg_of X G a_plus) F_plus.kp b_plus (PySem.W.mg_of X G a_z0) Z0) (PySem.W.mg_of X G a_total_of) F_total_of.kp b_total_of) (PySem.W.mg_of X G a_need_search) F_need_search.kp b_need_search (ok_need_order (k := 4) F_need_order N_isinstance N_tuple N_sorted N_list N_range (ok_is_in (k := 3) F_is_in N_isinstance N_int N_bool) (PySem.W.mg_of X G a_is_in) F_is_in.kp b_is_in) (PySem.W.mg_of X G a_need_order) F_need_order.kp b_need_order (ok_cost_of (k := 4) F_cost_of (ok_plus (k := 3) F_plus (ok_reduced (k := 2) F_reduced (ok_gcd (k := 1) F_gcd N_abs) (PySem.W.mg_of X G a_gcd) F_gcd.kp b_gcd) (PySem.W.mg_of X G a_reduced) F_reduced.kp b_reduced) (PySem.W.mg_of X G a_plus) F_plus.kp b_plus (ok_times (k := 3) F_times (ok_reduced (k := 2) F_reduced (ok_gcd (k := 1) F_gcd N_abs) (PySem.W.mg_of X G a_gcd) F_gcd.kp b_gcd) (PySem.W.mg_of X G a_reduced) F_reduced.kp b_reduced) (PySem.W.mg_of X G a_times) F_times.kp b_times (PySem.W.mg_of X G a_z0) Z0) (PySem.W.mg_of X G a_cost_of) F_cost_of.kp b_cost_of) (PySem.W.mg_of X G a_search_cost) F_search_cost.kp b_search_cost
    N_range N_tuple N_sum N_min⟩
end K96

open PySem PySem.W PyProof.Rows
set_option maxRecDepth 100000 in
set_option maxHeartbeats 0 in
theorem PySem.Challenge.cw_faultworks_k96_whole_searches_holds : PySem.Challenge.rw_faultworks_k96_whole_searches.Holds := by
  w_on; o_law; k_head; (case hw => w_witness2)
  k_fill
  refine L2.walk_of (l := PySem.Challenge.rw_faultworks_k96_whole_searches) (n := 63) (k := 7) (x := "_law_script") (CX := fun _ => L2.CX0) (sp := fun w => K96.spLaw _) rfl (by decide) rfl ⟨rfl, by decide, by decide⟩ (fun w h Y => PySem.W.kIn_of Y) ?F (fun _ _ a ns hl _ hS => ⟨a, ns, rfl, hS, fun _ => rfl⟩) (fun _ _ _ _ _ h => h)
  case F =>
    intro w mg fa h KX G hmg
    refine' K96.all_mk KX G hmg ?a_is_in ?l_is_in ?c_is_in ?k_is_in ?a_gcd ?l_gcd ?c_gcd ?k_gcd ?a_reduced ?l_reduced ?c_reduced ?k_reduced ?a_plus ?l_plus ?c_plus ?k_plus ?a_times ?l_times ?c_times ?k_times ?a_is_below ?l_is_below ?c_is_below ?k_is_below ?a_is_ratio ?l_is_ratio ?c_is_ratio ?k_is_ratio ?a_total_of ?l_total_of ?c_total_of ?k_total_of ?a_need_order ?l_need_order ?c_need_order ?k_need_order ?a_are_positive ?l_are_positive ?c_are_positive ?k_are_positive ?a_need_search ?l_need_search ?c_need_search ?k_need_search ?a_cost_of ?l_cost_of ?c_cost_of ?k_cost_of ?a_search_cost ?l_search_cost ?c_search_cost ?k_search_cost ?a_comes_before ?l_comes_before ?c_comes_before ?k_comes_before ?a_best_search ?l_best_search ?c_best_search ?k_best_search ?a_ltaken ?l_ltaken ?c_ltaken ?k_ltaken ?a_lpick ?l_lpick ?c_lpick ?k_lpick ?a_lgcd ?l_lgcd ?c_lgcd ?k_lgcd ?a_lratio ?l_lratio ?c_lratio ?k_lratio ?a_lrate ?l_lrate ?c_lrate ?k_lrate ?a_lorders ?l_lorders ?c_lorders ?k_lorders ?a_lplus ?l_lplus ?c_lplus ?k_lplus ?a_lsum ?l_lsum ?c_lsum ?k_lsum ?a_ltimes ?l_ltimes ?c_ltimes ?k_ltimes ?a_lless ?l_lless ?c_lless ?k_lless ?a_lover ?l_lover ?c_lover ?k_lover ?a_lalike ?l_lalike ?c_lalike ?k_lalike ?a_law ?l_law ?c_law ?k_law ?a_z0 ?l_z0 ?a_z1 ?l_z1 ?a_most ?n_abs ?n_int ?n_bool ?n_isinstance ?n_tuple ?n_len ?n_list ?n_range ?n_sorted ?n_sum ?n_min ?n_str
    (case a_is_in => k_is)
    (case l_is_in => k_is)
    (case c_is_in => k_is)
    (case k_is_in => k_is)
    (case a_gcd => k_is)
    (case l_gcd => k_is)
    (case c_gcd => k_is)
    (case k_gcd => k_is)
    (case a_reduced => k_is)
    (case l_reduced => k_is)
    (case c_reduced => k_is)
    (case k_reduced => k_is)
    (case a_plus => k_is)
    (case l_plus => k_is)
    (case c_plus => k_is)
    (case k_plus => k_is)
    (case a_times => k_is)
    (case l_times => k_is)
    (case c_times => k_is)
    (case k_times => k_is)
    (case a_is_below => k_is)
    (case l_is_below => k_is)
    (case c_is_below => k_is)
    (case k_is_below => k_is)
    (case a_is_ratio => k_is)
    (case l_is_ratio => k_is)
    (case c_is_ratio => k_is)
    (case k_is_ratio => k_is)
    (case a_total_of => k_is)
    (case l_total_of => k_is)
    (case c_total_of => k_is)
    (case k_total_of => k_is)
    (case a_need_order => k_is)
    (case l_need_order => k_is)
    (case c_need_order => k_is)
    (case k_need_order => k_is)
    (case a_are_positive => k_is)
    (case l_are_positive => k_is)
    (case c_are_positive => k_is)
    (case k_are_positive => k_is)
    (case a_need_search => k_is)
    (case l_need_search => k_is)
    (case c_need_search => k_is)
    (case k_need_search => k_is)
    (case a_cost_of => k_is)
    (case l_cost_of => k_is)
    (case c_cost_of => k_is)
    (case k_cost_of => k_is)
    (case a_search_cost => k_is)
    (case l_search_cost => k_is)
    (case c_search_cost => k_is)
    (case k_search_cost => k_is)
    (case a_comes_before => k_is)
    (case l_comes_before => k_is)
    (case c_comes_before => k_is)
    (case k_comes_before => k_is)
    (case a_best_search => k_is)
    (case l_best_search => k_is)
    (case c_best_search => k_is)
    (case k_best_search => k_is)
    (case a_ltaken => k_is)
    (case l_ltaken => k_is)
    (case c_ltaken => k_is)
    (case k_ltaken => k_is)
    (case a_lpick => k_is)
    (case l_lpick => k_is)
    (case c_lpick => k_is)
    (case k_lpick => k_is)
    (case a_lgcd => k_is)
    (case l_lgcd => k_is)
    (case c_lgcd => k_is)
    (case k_lgcd => k_is)
    (case a_lratio => k_is)
    (case l_lratio => k_is)
    (case c_lratio => k_is)
    (case k_lratio => k_is)
    (case a_lrate => k_is)
    (case l_lrate => k_is)
    (case c_lrate => k_is)
    (case k_lrate => k_is)
    (case a_lorders => k_is)
    (case l_lorders => k_is)
    (case c_lorders => k_is)
    (case k_lorders => k_is)
    (case a_lplus => k_is)
    (case l_lplus => k_is)
    (case c_lplus => k_is)
    (case k_lplus => k_is)
    (case a_lsum => k_is)
    (case l_lsum => k_is)
    (case c_lsum => k_is)
    (case k_lsum => k_is)
    (case a_ltimes => k_is)
    (case l_ltimes => k_is)
    (case c_ltimes => k_is)
    (case k_ltimes => k_is)
    (case a_lless => k_is)
    (case l_lless => k_is)
    (case c_lless => k_is)
    (case k_lless => k_is)
    (case a_lover => k_is)
    (case l_lover => k_is)
    (case c_lover => k_is)
    (case k_lover => k_is)
    (case a_lalike => k_is)
    (case l_lalike => k_is)
    (case c_lalike => k_is)
    (case k_lalike => k_is)
    (case a_law => k_is)
    (case l_law => k_is)
    (case c_law => k_is)
    (case k_law => k_is)
    (case a_z0 => k_is)
    (case l_z0 => k_is)
    (case a_z1 => k_is)
    (case l_z1 => k_is)
    (case a_most => k_is)
    (case n_abs => k_is)
    (case n_int => k_is)
    (case n_bool => k_is)
    (case n_isinstance => k_is)
    (case n_tuple => k_is)
    (case n_len => k_is)
    (case n_list => k_is)
    (case n_range => k_is)
    (case n_sorted => k_is)
    (case n_sum => k_is)
    (case n_min => k_is)
    (case n_str => k_is)
