import PyProof.Rows.All
import Wide.All
import OpenK.AllK
import Wide.FinOn
import HandS.ForMost
import HandS.HeadHook4
import HandS.HeadWalk
import HandS.Head2
import HandS.Lambda
import HandS.AnyAll
import HandS.IsInst
import PyProof.GenCompD
import KE.KSortKey
import HandS.Conv
import HandS.Slots
import KE.GoesEnum
import HandS.Walk
import HandS.SetFor
import HandS.Strs
import HandS.ExcOwn
import HandS.Dict
import KE.KDictDisplayH
import HandS.TupAny
import KE.KEqDeep
import HandS.Style
import HandS.Zip
import HandS.TupMul
import HandS.CallLocal
import HandS.Codes
import KE.KNestM
import PySem.Challenge.RW_restlesshelf_k82_whole_kinds
set_option Elab.async false
set_option linter.all false
set_option maxRecDepth 100000
set_option maxHeartbeats 1000000
/-! the mathematics, 1: layouts, inverse, sorted lists -/
namespace Rm
abbrev LN := List Nat

structure Lay (n : Nat) (p : LN) : Prop where
  len : p.length = n
  nd : p.Nodup
  lt : ∀ x ∈ p, x < n

theorem Lay.mem {n : Nat} {p : LN} (h : Lay n p) {x : Nat} (hx : x < n) : x ∈ p := by
  apply Classical.byContradiction
  intro hn
  have h1 : (x :: p).Nodup := List.nodup_cons.mpr ⟨hn, h.nd⟩
  have h2 : (x :: p) ⊆ List.range n := by
    intro y hy
    rcases List.mem_cons.mp hy with rfl | hy
    · exact List.mem_range.mpr hx
    · exact List.mem_range.mpr (h.lt _ hy)
  have h3 := h1.length_le_of_subset h2
  rw [List.length_cons, List.length_range, h.len] at h3
  omega
theorem Lay.mem_iff {n : Nat} {p : LN} (h : Lay n p) {x : Nat} : x ∈ p ↔ x < n := ⟨h.lt x, h.mem⟩
theorem lay_range (n : Nat) : Lay n (List.range n) := ⟨List.length_range, List.nodup_range, fun _ hx => List.mem_range.mp hx⟩

/-- the name at each place -/
def inv (p : LN) : LN := (List.range p.length).map fun k => p.idxOf k
theorem inv_len (p : LN) : (inv p).length = p.length := by simp [inv]
theorem inv_get {p : LN} {k : Nat} (hk : k < p.length) : (inv p)[k]? = some (p.idxOf k) := by
  simp [inv, hk]
theorem getD_idx {l : LN} {x : Nat} (h : x ∈ l) : l.getD (l.idxOf x) 0 = x := by
  have h1 : l.idxOf x < l.length := List.idxOf_lt_length_of_mem h
  rw [List.getD_eq_getElem?_getD, List.getElem?_eq_getElem h1, List.getElem_idxOf h1]
  rfl
theorem idx_getD {l : LN} (nd : l.Nodup) {i : Nat} (h : i < l.length) : l.idxOf (l.getD i 0) = i := by
  rw [List.getD_eq_getElem?_getD, List.getElem?_eq_getElem h]
  exact nd.idxOf_getElem i h
theorem inv_lay {n : Nat} {p : LN} (h : Lay n p) : Lay n (inv p) := by
  refine ⟨by rw [inv_len, h.len], ?_, ?_⟩
  · unfold inv
    rw [List.nodup_iff_pairwise_ne, List.pairwise_map]
    refine List.Pairwise.imp_of_mem ?_ (List.nodup_iff_pairwise_ne.mp (List.nodup_range (n := p.length)))
    intro a b ha hb hab e
    have ha' := List.mem_range.mp ha
    have hb' := List.mem_range.mp hb
    rw [h.len] at ha' hb'
    have e1 := getD_idx (h.mem ha')
    have e2 := getD_idx (h.mem hb')
    rw [e, e2] at e1
    exact hab e1.symm
  · intro x hx
    unfold inv at hx
    obtain ⟨k, hk, rfl⟩ := List.mem_map.mp hx
    have hk' := List.mem_range.mp hk
    rw [h.len] at hk'
    rw [← h.len]
    exact List.idxOf_lt_length_of_mem (h.mem hk')
theorem inv_at {n : Nat} {p : LN} (h : Lay n p) {x : Nat} (hx : x < n) : (inv p).getD (p.getD x 0) 0 = x := by
  have hl : x < p.length := by rw [h.len]; exact hx
  have hv : p.getD x 0 < p.length := by
    rw [List.getD_eq_getElem?_getD, List.getElem?_eq_getElem hl, h.len]
    exact h.lt _ (List.getElem_mem hl)
  rw [List.getD_eq_getElem?_getD, inv_get hv]
  exact idx_getD h.nd hl
theorem at_inv {n : Nat} {p : LN} (h : Lay n p) {k : Nat} (hk : k < n) : p.getD ((inv p).getD k 0) 0 = k := by
  have hl : k < p.length := by rw [h.len]; exact hk
  rw [List.getD_eq_getElem?_getD (l := inv p), inv_get hl]
  exact getD_idx (h.mem hk)
theorem ext_getD {a b : LN} (hl : a.length = b.length) (h : ∀ i, i < a.length → a.getD i 0 = b.getD i 0) : a = b := by
  apply List.ext_getElem hl
  intro i h1 h2
  have := h i h1
  rw [List.getD_eq_getElem?_getD, List.getD_eq_getElem?_getD, List.getElem?_eq_getElem h1, List.getElem?_eq_getElem h2] at this
  exact this
theorem getD_mem {l : LN} {i : Nat} (h : i < l.length) : l.getD i 0 ∈ l := by
  rw [List.getD_eq_getElem?_getD, List.getElem?_eq_getElem h]
  exact List.getElem_mem h
theorem inv_idx {n : Nat} {p : LN} (h : Lay n p) {x : Nat} (hx : x < n) : (inv p).idxOf x = p.getD x 0 := by
  have hl : x < p.length := by rw [h.len]; exact hx
  have hv : p.getD x 0 < (inv p).length := by rw [inv_len, h.len]; exact h.lt _ (getD_mem hl)
  have e := idx_getD (inv_lay h).nd hv
  rw [inv_at h hx] at e
  exact e
theorem inv_inv {n : Nat} {p : LN} (h : Lay n p) : inv (inv p) = p := by
  apply ext_getD
  · rw [inv_len, inv_len]
  · intro i hi
    rw [inv_len, inv_len, h.len] at hi
    rw [List.getD_eq_getElem?_getD, inv_get (by rw [inv_len, h.len]; exact hi)]
    exact inv_idx h hi
theorem inv_inj {n : Nat} {p q : LN} (h : Lay n p) (h' : Lay n q) (e : inv p = inv q) : p = q := by
  rw [← inv_inv h, e, inv_inv h']

/-! ### sorted lists are one -/
theorem sorted_one (f : Nat → Nat) : ∀ {l m : LN}, (∀ x, x ∈ l ↔ x ∈ m) → l.Pairwise (fun a b => f a < f b) → m.Pairwise (fun a b => f a < f b) → l = m
  | [], [], _, _, _ => rfl
  | [], b :: m, h, _, _ => absurd ((h b).mpr List.mem_cons_self) (by simp)
  | a :: l, [], h, _, _ => absurd ((h a).mp List.mem_cons_self) (by simp)
  | a :: l, b :: m, h, hl, hm => by
    have hl' := List.pairwise_cons.mp hl
    have hm' := List.pairwise_cons.mp hm
    have e : a = b := by
      rcases List.mem_cons.mp ((h a).mp List.mem_cons_self) with e | ha
      · exact e
      · rcases List.mem_cons.mp ((h b).mpr List.mem_cons_self) with e | hb
        · exact e.symm
        · have h1 := hl'.1 b hb
          have h2 := hm'.1 a ha
          omega
    subst e
    have na : a ∉ l := fun hx => Nat.lt_irrefl _ (hl'.1 a hx)
    have nb : a ∉ m := fun hx => Nat.lt_irrefl _ (hm'.1 a hx)
    rw [sorted_one f (l := l) (m := m) (fun x => ?_) hl'.2 hm'.2]
    constructor
    · intro hx
      rcases List.mem_cons.mp ((h x).mp (List.mem_cons_of_mem _ hx)) with e | q
      · subst e; exact absurd hx na
      · exact q
    · intro hx
      rcases List.mem_cons.mp ((h x).mpr (List.mem_cons_of_mem _ hx)) with e | q
      · subst e; exact absurd hx nb
      · exact q

/-- the names from the front on: by their places -/
theorem inv_sorted {n : Nat} {p : LN} (h : Lay n p) : (inv p).Pairwise fun a b => p.getD a 0 < p.getD b 0 := by
  rw [List.pairwise_iff_getElem]
  intro i j hi hj hij
  have hi' : i < n := by rw [← h.len, ← inv_len p]; exact hi
  have hj' : j < n := by rw [← h.len, ← inv_len p]; exact hj
  have e1 := at_inv h hi'
  have e2 := at_inv h hj'
  rw [List.getD_eq_getElem?_getD (l := inv p), List.getElem?_eq_getElem hi] at e1
  rw [List.getD_eq_getElem?_getD (l := inv p), List.getElem?_eq_getElem hj] at e2
  have e1' : p.getD (inv p)[i] 0 = i := e1
  have e2' : p.getD (inv p)[j] 0 = j := e2
  rw [e1', e2']
  exact hij
/-- keys of unlike names are unlike -/
theorem Lay.inj {n : Nat} {p : LN} (h : Lay n p) {x y : Nat} (hx : x < n) (hy : y < n) (e : p.getD x 0 = p.getD y 0) : x = y := by
  have e1 := inv_at h hx
  have e2 := inv_at h hy
  rw [e, e2] at e1
  exact e1.symm
theorem strict_of {n : Nat} {p : LN} (h : Lay n p) {l : LN} (nd : l.Nodup) (hl : ∀ x ∈ l, x < n) (hs : l.Pairwise fun a b => p.getD a 0 ≤ p.getD b 0) : l.Pairwise fun a b => p.getD a 0 < p.getD b 0 := by
  have h1 := List.Pairwise.and hs (List.nodup_iff_pairwise_ne.mp nd)
  refine List.Pairwise.imp_of_mem ?_ h1
  intro a b ha hb q
  rcases Nat.lt_or_eq_of_le q.1 with z | z
  · exact z
  · exact absurd (h.inj (hl a ha) (hl b hb) z) q.2
/-- sorting the names by their places gives them from the front on -/
theorem sort_inv {n : Nat} {p : LN} (h : Lay n p) {l : LN} (hp : l.Perm (List.range n)) (hs : l.Pairwise fun a b => p.getD a 0 ≤ p.getD b 0) : l = inv p := by
  have nd : l.Nodup := hp.nodup_iff.mpr List.nodup_range
  have hlt : ∀ x ∈ l, x < n := fun x hx => List.mem_range.mp (hp.mem_iff.mp hx)
  refine sorted_one (fun x => p.getD x 0) (fun x => ?_) (strict_of h nd hlt hs) (inv_sorted h)
  rw [hp.mem_iff, List.mem_range, (inv_lay h).mem_iff]
end Rm
set_option maxHeartbeats 1000000
/-! the mathematics, 2: the kept end, words to the front -/
namespace Rm
/-- the end that is kept: names backwards, what is found -/
def kgo (f : Nat → Nat) : LN → LN → LN
  | [], r => r
  | x :: xs, r => if r ≠ [] ∧ f (r.headD 0) < f x then r else kgo f xs (x :: r)
def kept (one other : LN) : LN := kgo (fun x => one.getD x 0) (inv other).reverse []

abbrev Inc (f : Nat → Nat) (l : LN) : Prop := l.Pairwise fun a b => f a < f b
theorem inc_head {f : Nat → Nat} {a b : Nat} {l : LN} (h : Inc f (a :: b :: l)) : f a < f b := (List.pairwise_cons.mp h).1 b List.mem_cons_self
theorem inc_cons {f : Nat → Nat} {a b : Nat} {l : LN} (h : f a < f b) (h2 : Inc f (b :: l)) : Inc f (a :: b :: l) := by
  refine List.pairwise_cons.mpr ⟨fun x hx => ?_, h2⟩
  rcases List.mem_cons.mp hx with rfl | hx
  · exact h
  · exact Nat.lt_trans h ((List.pairwise_cons.mp h2).1 x hx)
/-- no longer end is rising -/
def Best (f : Nat → Nat) (all k : LN) : Prop := ∀ pre s, all = pre ++ s → Inc f s → s.length ≤ k.length
theorem kgo_spec (f : Nat → Nat) : ∀ (xs r : LN), Inc f r → (∀ a ∈ xs, ∀ b ∈ r, f a ≠ f b) → (xs.Pairwise fun a b => f a ≠ f b) →
    (∃ pre, xs.reverse ++ r = pre ++ kgo f xs r) ∧ Inc f (kgo f xs r) ∧ Best f (xs.reverse ++ r) (kgo f xs r)
  | [], r, hr, _, _ => ⟨⟨[], rfl⟩, hr, fun pre s e _ => by
      have := congrArg List.length e
      simp at this
      show s.length ≤ r.length
      omega⟩
  | x :: xs, r, hr, hn, hp => by
    have hp' := List.pairwise_cons.mp hp
    by_cases c : r ≠ [] ∧ f (r.headD 0) < f x
    · have e : kgo f (x :: xs) r = r := by
        show (if r ≠ [] ∧ f (r.headD 0) < f x then r else kgo f xs (x :: r)) = r
        rw [if_pos c]
      rw [e]
      refine ⟨⟨(x :: xs).reverse, rfl⟩, hr, fun pre s es hs => ?_⟩
      apply Classical.byContradiction
      intro hlt
      cases r with
      | nil => exact c.1 rfl
      | cons b r' =>
        have c2 : f b < f x := c.2
        -- s is longer than b :: r': it holds x ahead of b
        have es' : xs.reverse ++ (x :: b :: r') = pre ++ s := by
          rw [← es]
          simp
        have hl : (x :: b :: r').length ≤ s.length := by
          simp only [List.length_cons] at hlt ⊢
          omega
        have hsuf : (x :: b :: r') <:+ s := by
          have h1 : (x :: b :: r') <:+ pre ++ s := ⟨xs.reverse, es'⟩
          have h2 : s <:+ pre ++ s := ⟨pre, rfl⟩
          exact List.suffix_of_suffix_length_le h1 h2 hl
        have h3 : Inc f (x :: b :: r') := hs.sublist hsuf.sublist
        have := inc_head h3
        omega
    · have e : kgo f (x :: xs) r = kgo f xs (x :: r) := by
        show (if r ≠ [] ∧ f (r.headD 0) < f x then r else kgo f xs (x :: r)) = _
        rw [if_neg c]
      rw [e]
      have hr2 : Inc f (x :: r) := by
        cases r with
        | nil => simp [Inc]
        | cons b r' =>
          refine inc_cons ?_ hr
          have h1 : ¬ f b < f x := fun z => c ⟨by simp, z⟩
          have h2 := hn x List.mem_cons_self b List.mem_cons_self
          omega
      have ih := kgo_spec f xs (x :: r) hr2 (fun a ha b hb => ?_) hp'.2
      · have el : (x :: xs).reverse ++ r = xs.reverse ++ (x :: r) := by simp
        rw [el]
        exact ih
      · rcases List.mem_cons.mp hb with rfl | hb
        · exact fun z => hp'.1 a ha z.symm
        · exact hn a (List.mem_cons_of_mem _ ha) b hb
theorem kept_spec {n : Nat} {one other : LN} (h1 : Lay n one) (h2 : Lay n other) :
    (∃ pre, inv other = pre ++ kept one other) ∧ Inc (fun x => one.getD x 0) (kept one other) ∧ Best (fun x => one.getD x 0) (inv other) (kept one other) := by
  have hl := inv_lay h2
  have hp : ((inv other).reverse).Pairwise fun a b => one.getD a 0 ≠ one.getD b 0 := by
    rw [List.pairwise_reverse]
    refine List.Pairwise.imp_of_mem ?_ (List.nodup_iff_pairwise_ne.mp hl.nd)
    intro a b ha hb hab e
    exact hab (h1.inj (hl.lt a ha) (hl.lt b hb) e.symm).symm.symm
  have := kgo_spec (fun x => one.getD x 0) (inv other).reverse [] List.Pairwise.nil (fun a _ b hb => by cases hb) hp
  rw [List.reverse_reverse, List.append_nil] at this
  exact this
theorem kept_len {n : Nat} {one other : LN} (h1 : Lay n one) (h2 : Lay n other) : (kept one other).length ≤ n := by
  obtain ⟨⟨pre, e⟩, _, _⟩ := kept_spec h1 h2
  have := congrArg List.length e
  rw [(inv_lay h2).len, List.length_append] at this
  omega
/-- what is moved, from the front on -/
def moved (one other : LN) : LN := (inv other).take (other.length - (kept one other).length)
theorem moved_kept {n : Nat} {one other : LN} (h1 : Lay n one) (h2 : Lay n other) : inv other = moved one other ++ kept one other := by
  obtain ⟨⟨pre, e⟩, _, _⟩ := kept_spec h1 h2
  have hl := congrArg List.length e
  rw [(inv_lay h2).len, List.length_append] at hl
  have ep : other.length - (kept one other).length = pre.length := by rw [h2.len]; omega
  unfold moved
  rw [ep]
  conv => lhs; rw [e]
  conv => rhs; rw [e]
  rw [List.take_left]

/-! ### the touched book comes to the front -/
def mtf (row : LN) (k : Nat) : LN := row.getD k 0 :: (row.take k ++ row.drop (k + 1))
theorem eraseIdx_parts (l : LN) (k : Nat) : l.eraseIdx k = l.take k ++ l.drop (k + 1) := List.eraseIdx_eq_take_drop_succ l k
theorem mtf_idx {row : LN} {x : Nat} (h : x ∈ row) : mtf row (row.idxOf x) = x :: row.erase x := by
  unfold mtf
  rw [getD_idx h, List.erase_eq_eraseIdx_of_idxOf (by rfl), eraseIdx_parts]
def toFront (row : LN) (x : Nat) : LN := x :: row.erase x
/-- the word that brings names to the front, one after another -/
def fwGo : LN → LN → LN
  | _, [] => []
  | row, x :: xs => row.idxOf x :: fwGo (toFront row x) xs
theorem fwGo_len : ∀ (xs row : LN), (fwGo row xs).length = xs.length
  | [], _ => rfl
  | x :: xs, row => congrArg (· + 1) (fwGo_len xs _)
theorem toFront_perm {row : LN} {x : Nat} (h : x ∈ row) : (toFront row x).Perm row := (List.perm_cons_erase h).symm
theorem fwGo_app : ∀ (xs ys row : LN), fwGo row (xs ++ ys) = fwGo row xs ++ fwGo (xs.foldl toFront row) ys
  | [], _, _ => rfl
  | x :: xs, ys, row => congrArg (row.idxOf x :: ·) (fwGo_app xs ys (toFront row x))
theorem front_perm : ∀ (xs row : LN), (∀ x ∈ xs, x ∈ row) → (xs.foldl toFront row).Perm row
  | [], row, _ => .refl _
  | x :: xs, row, h => by
    have h1 := toFront_perm (h x List.mem_cons_self)
    exact (front_perm xs (toFront row x) fun y hy => h1.mem_iff.mpr (h y (List.mem_cons_of_mem _ hy))).trans h1
theorem fwGo_run : ∀ (xs row : LN), (∀ x ∈ xs, x ∈ row) → (fwGo row xs).foldl mtf row = xs.foldl toFront row
  | [], _, _ => rfl
  | x :: xs, row, h => by
    show (fwGo (toFront row x) xs).foldl mtf (mtf row (row.idxOf x)) = xs.foldl toFront (toFront row x)
    rw [mtf_idx (h x List.mem_cons_self)]
    exact fwGo_run xs (toFront row x) fun y hy => (toFront_perm (h x List.mem_cons_self)).mem_iff.mpr (h y (List.mem_cons_of_mem _ hy))
theorem fwGo_lt : ∀ (xs row : LN), (∀ x ∈ xs, x ∈ row) → ∀ k ∈ fwGo row xs, k < row.length
  | [], _, _, k, hk => by cases hk
  | x :: xs, row, h, k, hk => by
    rcases List.mem_cons.mp hk with rfl | hk
    · exact List.idxOf_lt_length_of_mem (h x List.mem_cons_self)
    · have h1 := toFront_perm (h x List.mem_cons_self)
      have := fwGo_lt xs (toFront row x) (fun y hy => h1.mem_iff.mpr (h y (List.mem_cons_of_mem _ hy))) k hk
      rw [h1.length_eq] at this
      exact this
/-- behind it the named ones stand first, in their order, the others behind them as they were -/
theorem front_rev (row : LN) (nd : row.Nodup) : ∀ m : LN, m.Nodup → (∀ x ∈ m, x ∈ row) → m.reverse.foldl toFront row = m ++ row.filter (fun x => decide (x ∉ m))
  | [], _, _ => by
    show row = [] ++ row.filter (fun x => decide (x ∉ ([] : LN)))
    rw [List.nil_append, List.filter_eq_self.mpr (fun a _ => by simp)]
  | a :: t, hn, hm => by
    have hn' := List.nodup_cons.mp hn
    have ih := front_rev row nd t hn'.2 fun x hx => hm x (List.mem_cons_of_mem _ hx)
    rw [List.reverse_cons, List.foldl_append, ih]
    show toFront (t ++ row.filter (fun x => decide (x ∉ t))) a = _
    unfold toFront
    rw [List.erase_append_right _ hn'.1]
    have nd2 : (row.filter fun x => decide (x ∉ t)).Nodup := nd.filter _
    rw [nd2.erase_eq_filter, List.filter_filter]
    show a :: (t ++ _) = a :: (t ++ _)
    congr 2
    apply List.filter_congr
    intro x hx
    by_cases e : x = a
    · subst e; simp
    · simp [e, bne]
def frontWord (one other : LN) : LN := fwGo (inv one) (moved one other).reverse
theorem frontWord_len {n : Nat} {one other : LN} (h1 : Lay n one) (h2 : Lay n other) : (frontWord one other).length = n - (kept one other).length := by
  unfold frontWord
  rw [fwGo_len, List.length_reverse]
  unfold moved
  rw [List.length_take, (inv_lay h2).len, h2.len]
  omega
theorem moved_mem {n : Nat} {one other : LN} (h1 : Lay n one) (h2 : Lay n other) : ∀ x ∈ (moved one other).reverse, x ∈ inv one := fun x hx => by
  have hx' := List.mem_reverse.mp hx
  have : x ∈ inv other := List.mem_of_mem_take hx'
  exact (inv_lay h1).mem ((inv_lay h2).lt x this)
theorem frontWord_lt {n : Nat} {one other : LN} (h1 : Lay n one) (h2 : Lay n other) : ∀ k ∈ frontWord one other, k < n := fun k hk => by
  have := fwGo_lt _ _ (moved_mem h1 h2) k hk
  rw [(inv_lay h1).len] at this
  exact this
/-- the word leads there -/
theorem frontWord_run {n : Nat} {one other : LN} (h1 : Lay n one) (h2 : Lay n other) : (frontWord one other).foldl mtf (inv one) = inv other := by
  have hm := moved_mem h1 h2
  have e0 := moved_kept h1 h2
  have nd := (inv_lay h2).nd
  rw [e0] at nd
  have ndm := (List.nodup_append.mp nd).1
  have apart := (List.nodup_append.mp nd).2.2
  unfold frontWord
  rw [fwGo_run _ _ hm, front_rev (inv one) (inv_lay h1).nd _ ndm fun x hx => hm x (List.mem_reverse.mpr hx), e0]
  congr 1
  refine sorted_one (fun x => one.getD x 0) (fun x => ?_) ((inv_sorted h1).filter _) (kept_spec h1 h2).2.1
  rw [List.mem_filter, (inv_lay h1).mem_iff]
  have hx : x ∈ inv other ↔ x < n := (inv_lay h2).mem_iff
  rw [e0, List.mem_append] at hx
  constructor
  · rintro ⟨hlt, hn⟩
    have hn' : x ∉ moved one other := of_decide_eq_true hn
    rcases hx.mpr hlt with q | q
    · exact absurd q hn'
    · exact q
  · intro hk
    refine ⟨hx.mp (.inr hk), decide_eq_true fun q => ?_⟩
    exact apart x q x hk rfl

/-! ### no shorter word -/
theorem getD_left {T U : LN} {k : Nat} (h : k < T.length) : (T ++ U).getD k 0 = T.getD k 0 := by
  rw [List.getD_eq_getElem?_getD, List.getElem?_append_left h, ← List.getD_eq_getElem?_getD]
theorem getD_right {T U : LN} {k : Nat} (h : T.length ≤ k) : (T ++ U).getD k 0 = U.getD (k - T.length) 0 := by
  rw [List.getD_eq_getElem?_getD, List.getElem?_append_right h, ← List.getD_eq_getElem?_getD]
/-- behind a word the touched ones stand first, the untouched in their order -/
theorem mtf_parts : ∀ (w row : LN), (∀ k ∈ w, k < row.length) → ∃ T U, w.foldl mtf row = T ++ U ∧ T.length ≤ w.length ∧ U.Sublist row ∧ (w.foldl mtf row).length = row.length := by
  intro w
  have gen : ∀ (v : LN) (row : LN), (∀ k ∈ v.reverse, k < row.length) → ∃ T U, v.reverse.foldl mtf row = T ++ U ∧ T.length ≤ v.length ∧ U.Sublist row ∧ (v.reverse.foldl mtf row).length = row.length := by
    intro v row
    induction v with
    | nil => exact fun _ => ⟨[], row, rfl, Nat.le_refl _, List.Sublist.refl _, rfl⟩
    | cons k v ih =>
      intro h
      rw [List.reverse_cons] at h ⊢
      obtain ⟨T, U, e, hT, hU, hl⟩ := ih fun j hj => h j (List.mem_append_left _ hj)
      have hk : k < row.length := h k (List.mem_append_right _ List.mem_cons_self)
      rw [List.foldl_append, e]
      show ∃ T' U', mtf (T ++ U) k = T' ++ U' ∧ _ ∧ _ ∧ (mtf (T ++ U) k).length = _
      have hl2 : (T ++ U).length = row.length := by rw [← e]; exact hl
      have hl3 : (mtf (T ++ U) k).length = row.length := by
        unfold mtf
        rw [List.length_cons, List.length_append, List.length_take, List.length_drop, hl2]
        omega
      by_cases c : k < T.length
      · refine ⟨mtf T k, U, ?_, ?_, hU, hl3⟩
        · unfold mtf
          rw [getD_left c, List.take_append_of_le_length (Nat.le_of_lt c), List.drop_append_of_le_length c]
          simp
        · unfold mtf
          rw [List.length_cons, List.length_append, List.length_take, List.length_drop, List.length_cons]
          omega
      · have c' : T.length ≤ k := Nat.le_of_not_lt c
        refine ⟨U.getD (k - T.length) 0 :: T, U.take (k - T.length) ++ U.drop (k - T.length + 1), ?_, ?_, ?_, hl3⟩
        · unfold mtf
          rw [getD_right c', List.take_append, List.drop_append]
          rw [List.take_of_length_le c', List.drop_of_length_le (by omega)]
          rw [show k + 1 - T.length = k - T.length + 1 by omega]
          simp
        · rw [List.length_cons, List.length_cons]; omega
        · rw [← eraseIdx_parts]
          exact (List.eraseIdx_sublist _ _).trans hU
  have g := gen w.reverse
  rw [List.reverse_reverse] at g
  intro row h
  obtain ⟨T, U, a, b, c, d⟩ := g row h
  exact ⟨T, U, a, by rw [List.length_reverse] at b; exact b, c, d⟩
theorem front_least {n : Nat} {one other : LN} (h1 : Lay n one) (h2 : Lay n other) {w : LN} (hw : ∀ k ∈ w, k < n) (e : w.foldl mtf (inv one) = inv other) : n - (kept one other).length ≤ w.length := by
  obtain ⟨T, U, e1, hT, hU, _⟩ := mtf_parts w (inv one) (by rw [(inv_lay h1).len]; exact hw)
  rw [e] at e1
  have hb := (kept_spec h1 h2).2.2 T U e1 ((inv_sorted h1).sublist hU)
  have hl := congrArg List.length e1
  rw [(inv_lay h2).len, List.length_append] at hl
  omega

/-! ### the law's own end -/
/-- the first of the ends, the longest first, that is rising -/
def endGo (f : Nat → Nat) (names : LN) : Nat → LN
  | 0 => []
  | s + 1 => if Inc f (names.drop (names.length - (s + 1))) then names.drop (names.length - (s + 1)) else endGo f names s
theorem endGo_best (f : Nat → Nat) (names k : LN) (hk : ∃ pre, names = pre ++ k) (hi : Inc f k) (hb : Best f names k) : ∀ s, k.length ≤ s → s ≤ names.length → endGo f names s = k
  | 0, h, _ => by
    have : k = [] := List.length_eq_zero_iff.mp (by omega)
    rw [this]; rfl
  | s + 1, h, hs => by
    show (if Inc f (names.drop (names.length - (s + 1))) then names.drop (names.length - (s + 1)) else endGo f names s) = k
    by_cases c : k.length = s + 1
    · obtain ⟨pre, e⟩ := hk
      have ed : names.drop (names.length - (s + 1)) = k := by
        have hl := congrArg List.length e
        rw [List.length_append] at hl
        rw [show names.length - (s + 1) = pre.length by omega, e, List.drop_left]
      rw [ed, if_pos hi]
    · have hn : ¬ Inc f (names.drop (names.length - (s + 1))) := fun z => by
        have := hb (names.take (names.length - (s + 1))) (names.drop (names.length - (s + 1))) (List.take_append_drop _ _).symm z
        rw [List.length_drop] at this
        omega
      rw [if_neg hn]
      exact endGo_best f names k hk hi hb s (by omega) (by omega)
theorem lawEnd {n : Nat} {one other : LN} (h1 : Lay n one) (h2 : Lay n other) : endGo (fun x => one.getD x 0) (inv other) n = kept one other := by
  obtain ⟨a, b, c⟩ := kept_spec h1 h2
  exact endGo_best _ _ _ a b c n (kept_len h1 h2) (by rw [(inv_lay h2).len]; exact Nat.le_refl _)
/-- sorting an end by its keys gives it back just if it is rising -/
theorem sort_back {n : Nat} {p : LN} (h : Lay n p) {e l : LN} (nd : e.Nodup) (he : ∀ x ∈ e, x < n) (hp : l.Perm e) (hs : l.Pairwise fun a b => p.getD a 0 ≤ p.getD b 0) : l = e ↔ Inc (fun x => p.getD x 0) e := by
  have hl : Inc (fun x => p.getD x 0) l := strict_of h (hp.nodup_iff.mpr nd) (fun x hx => he x (hp.mem_iff.mp hx)) hs
  constructor
  · intro q
    rw [q] at hl
    exact hl
  · intro q
    exact sorted_one _ (fun x => hp.mem_iff) hl q
end Rm
set_option maxHeartbeats 1000000
/-! the mathematics, 3: touches of layouts; the front's, the neighbours', the turning habit -/
namespace Rm
/-- a habit as rows -/
abbrev Hab := List LN
def touch (h : Hab) (p : LN) (k : Nat) : LN := p.map fun s => (h.getD k []).getD s 0
def run (h : Hab) (p : LN) (w : LN) : LN := w.foldl (touch h) p
theorem run_snoc (h : Hab) (p : LN) (w : LN) (k : Nat) : run h p (w ++ [k]) = touch h (run h p w) k := by
  unfold run
  rw [List.foldl_append]
  rfl
/-- a habit of a shelf of n places -/
structure HabOk (n : Nat) (h : Hab) : Prop where
  len : h.length = n
  lay : ∀ k, k < n → Lay n (h.getD k [])
theorem map_lay {n : Nat} {p q : LN} (h : Lay n p) (hq : Lay n q) : Lay n (p.map fun s => q.getD s 0) := by
  refine ⟨by rw [List.length_map, h.len], ?_, ?_⟩
  · rw [List.nodup_iff_pairwise_ne, List.pairwise_map]
    refine List.Pairwise.imp_of_mem ?_ (List.nodup_iff_pairwise_ne.mp h.nd)
    intro a b ha hb hab e
    exact hab (hq.inj (h.lt a ha) (h.lt b hb) e)
  · intro x hx
    obtain ⟨s, hs, rfl⟩ := List.mem_map.mp hx
    exact hq.lt _ (getD_mem (by rw [hq.len]; exact h.lt s hs))
theorem touch_lay {n : Nat} {h : Hab} {p : LN} (ok : HabOk n h) (hp : Lay n p) {k : Nat} (hk : k < n) : Lay n (touch h p k) := map_lay hp (ok.lay k hk)
theorem run_lay {n : Nat} {h : Hab} (ok : HabOk n h) : ∀ {w p : LN}, Lay n p → (∀ k ∈ w, k < n) → Lay n (run h p w)
  | [], _, hp, _ => hp
  | k :: w, p, hp, hw => run_lay ok (w := w) (touch_lay ok hp (hw k List.mem_cons_self)) fun j hj => hw j (List.mem_cons_of_mem _ hj)
/-- a step of the line of names that goes with a habit -/
def Goes (n : Nat) (h : Hab) (step : LN → Nat → LN) : Prop := ∀ p k, Lay n p → k < n → inv (touch h p k) = step (inv p) k
theorem goes_run {n : Nat} {h : Hab} {step : LN → Nat → LN} (ok : HabOk n h) (g : Goes n h step) : ∀ {w p : LN}, Lay n p → (∀ k ∈ w, k < n) → inv (run h p w) = w.foldl step (inv p)
  | [], _, _, _ => rfl
  | k :: w, p, hp, hw => by
    have hk := hw k List.mem_cons_self
    have ih := goes_run ok g (w := w) (touch_lay ok hp hk) fun j hj => hw j (List.mem_cons_of_mem _ hj)
    rw [g p k hp hk] at ih
    exact ih
theorem goes_reach {n : Nat} {h : Hab} {step : LN → Nat → LN} (ok : HabOk n h) (g : Goes n h step) {w p q : LN} (hp : Lay n p) (hq : Lay n q) (hw : ∀ k ∈ w, k < n) : run h p w = q ↔ w.foldl step (inv p) = inv q := by
  rw [← goes_run ok g hp hw]
  exact ⟨fun e => by rw [e], fun e => inv_inj (run_lay ok hp hw) hq e⟩

/-- a habit by a function of the place and what stands there; a step of the line that says the same -/
theorem goes_of {n : Nat} {h : Hab} {step : LN → Nat → LN} {f : Nat → Nat → Nat} (hf : ∀ k s, k < n → s < n → (h.getD k []).getD s 0 = f k s)
    (hs : ∀ row k, Lay n row → k < n → Lay n (step row k)) (hi : ∀ row k x, Lay n row → k < n → x < n → (step row k).idxOf x = f k (row.idxOf x)) : Goes n h step := by
  intro p k hp hk
  have hl := inv_lay hp
  have h2 := hs _ k hl hk
  have e : inv (step (inv p) k) = touch h p k := by
    apply ext_getD
    · rw [inv_len, h2.len]; unfold touch; rw [List.length_map, hp.len]
    · intro x hx
      rw [inv_len, h2.len] at hx
      have hxl : x < p.length := by rw [hp.len]; exact hx
      rw [List.getD_eq_getElem?_getD (l := inv (step (inv p) k)), inv_get (by rw [h2.len]; exact hx)]
      show (step (inv p) k).idxOf x = _
      rw [hi _ k x hl hk hx, inv_idx hp hx]
      have hv : p.getD x 0 < n := hp.lt _ (getD_mem hxl)
      rw [← hf k _ hk hv]
      unfold touch
      rw [List.getD_eq_getElem?_getD (l := p.map _), List.getElem?_map, List.getElem?_eq_getElem hxl]
      show _ = (h.getD k []).getD p[x] 0
      rw [List.getD_eq_getElem?_getD (l := p), List.getElem?_eq_getElem hxl]
      rfl
  rw [← e, inv_inv h2]

theorem idx_lt {row : LN} {x : Nat} (h : x ∈ row) : row.idxOf x < row.length := List.idxOf_lt_length_of_mem h
theorem idx_of {row : LN} (nd : row.Nodup) {x i : Nat} (hi : i < row.length) (e : row.getD i 0 = x) : row.idxOf x = i := by
  rw [← e]; exact idx_getD nd hi
theorem getD_map {α : Type} {d : α} {l : LN} {f : Nat → α} {i : Nat} (h : i < l.length) : (l.map f).getD i d = f (l.getD i 0) := by
  rw [List.getD_eq_getElem?_getD, List.getElem?_map, List.getElem?_eq_getElem h, List.getD_eq_getElem?_getD, List.getElem?_eq_getElem h]
  rfl
theorem getD_range {n i : Nat} (h : i < n) : (List.range n).getD i 0 = i := by
  rw [List.getD_eq_getElem?_getD, List.getElem?_range h]
  rfl
theorem getD_take {l : LN} {k i : Nat} (h : i < k) : (l.take k).getD i 0 = l.getD i 0 := by
  rw [List.getD_eq_getElem?_getD, List.getElem?_take_of_lt h, ← List.getD_eq_getElem?_getD]
theorem getD_drop {l : LN} {k i : Nat} : (l.drop k).getD i 0 = l.getD (k + i) 0 := by
  rw [List.getD_eq_getElem?_getD, List.getElem?_drop, ← List.getD_eq_getElem?_getD]

/-! ### to the front -/
def frontRow (n k : Nat) : LN := ((List.range k).map (· + 1)) ++ ([0] ++ ((List.range (n - (k + 1))).map fun i => k + 1 + i))
def frontHab (n : Nat) : Hab := (List.range n).map (frontRow n)
def fF (k s : Nat) : Nat := if s < k then s + 1 else if s = k then 0 else s
theorem getD_hab {n : Nat} {r : Nat → LN} {k : Nat} (hk : k < n) : ((List.range n).map r).getD k [] = r k := by
  rw [getD_map (d := []) (by rw [List.length_range]; exact hk), getD_range hk]
theorem frontRow_at {n k s : Nat} (hk : k < n) (hs : s < n) : (frontRow n k).getD s 0 = fF k s := by
  unfold frontRow fF
  by_cases h : s < k
  · rw [getD_left (by simpa using h), getD_map (by simpa using h), getD_range h, if_pos h]
  · rw [if_neg h, getD_right (by simpa using h)]
    simp only [List.length_map, List.length_range]
    by_cases h2 : s = k
    · subst h2; simp
    · rw [if_neg h2, getD_right (by simp; omega)]
      simp only [List.length_cons, List.length_nil]
      rw [getD_map (by simp; omega), getD_range (by omega)]
      omega
theorem mtf_perm {row : LN} {k : Nat} (hk : k < row.length) : (mtf row k).Perm row := by
  have e : row = row.take k ++ row.getD k 0 :: row.drop (k + 1) := by
    rw [List.getD_eq_getElem?_getD, List.getElem?_eq_getElem hk]
    show row = row.take k ++ row[k] :: row.drop (k + 1)
    rw [List.getElem_cons_drop, List.take_append_drop]
  unfold mtf
  conv => rhs; rw [e]
  exact List.perm_middle.symm
theorem lay_perm {n : Nat} {p q : LN} (h : Lay n p) (hp : q.Perm p) : Lay n q := ⟨by rw [hp.length_eq, h.len], hp.nodup_iff.mpr h.nd, fun x hx => h.lt x (hp.mem_iff.mp hx)⟩
theorem mtf_lay {n : Nat} {row : LN} {k : Nat} (h : Lay n row) (hk : k < n) : Lay n (mtf row k) := lay_perm h (mtf_perm (by rw [h.len]; exact hk))
theorem mtf_at {n : Nat} {row : LN} {k i : Nat} (h : Lay n row) (hk : k < n) (hi : i < n) : (mtf row k).getD (fF k i) 0 = row.getD i 0 := by
  unfold fF mtf
  by_cases c : i < k
  · rw [if_pos c]
    show (row.take k ++ row.drop (k + 1)).getD i 0 = _
    rw [getD_left (by rw [List.length_take, h.len]; omega), getD_take c]
  · rw [if_neg c]
    by_cases c2 : i = k
    · rw [if_pos c2, c2]; rfl
    · rw [if_neg c2]
      obtain ⟨j, rfl⟩ : ∃ j, i = j + 1 := ⟨i - 1, by omega⟩
      show (row.take k ++ row.drop (k + 1)).getD j 0 = _
      have hl : (row.take k).length = k := by rw [List.length_take, h.len]; omega
      rw [getD_right (by omega), hl, getD_drop]
      rw [show k + 1 + (j - k) = j + 1 by omega]
theorem fF_lt {n k s : Nat} (hk : k < n) (hs : s < n) : fF k s < n := by
  unfold fF
  split
  · omega
  · split <;> omega
theorem front_goes (n : Nat) : Goes n (frontHab n) mtf := by
  refine goes_of (f := fF) (fun k s hk hs => ?_) (fun row k h hk => mtf_lay h hk) (fun row k x h hk hx => ?_)
  · unfold frontHab
    rw [getD_hab hk, frontRow_at hk hs]
  · have hx' := h.mem hx
    have hi : row.idxOf x < n := by rw [← h.len]; exact idx_lt hx'
    refine idx_of (mtf_lay h hk).nd (by rw [(mtf_lay h hk).len]; exact fF_lt hk hi) ?_
    rw [mtf_at h hk hi, getD_idx hx']
/-- a row that a one-to-one function of places gives -/
theorem row_lay {n : Nat} {l : LN} {f : Nat → Nat} (hl : l.length = n) (hf : ∀ s, s < n → l.getD s 0 = f s) (lt : ∀ s, s < n → f s < n) (inj : ∀ s t, s < n → t < n → f s = f t → s = t) : Lay n l := by
  have e : l = (List.range n).map f := by
    apply ext_getD
    · rw [List.length_map, List.length_range, hl]
    · intro i hi
      rw [hl] at hi
      rw [hf i hi, getD_map (by rw [List.length_range]; exact hi), getD_range hi]
  refine ⟨hl, ?_, ?_⟩
  · rw [e, List.nodup_iff_pairwise_ne, List.pairwise_map]
    refine List.Pairwise.imp_of_mem ?_ (List.nodup_iff_pairwise_ne.mp List.nodup_range)
    intro a b ha hb hab q
    exact hab (inj a b (List.mem_range.mp ha) (List.mem_range.mp hb) q)
  · rw [e]
    intro x hx
    obtain ⟨s, hs, rfl⟩ := List.mem_map.mp hx
    exact lt s (List.mem_range.mp hs)
theorem frontRow_lay {n k : Nat} (hk : k < n) : Lay n (frontRow n k) := by
  refine row_lay (f := fF k) ?_ (fun s hs => frontRow_at hk hs) (fun s hs => fF_lt hk hs) (fun s t hs ht e => ?_)
  · unfold frontRow; simp; omega
  · unfold fF at e
    split at e <;> split at e <;> (try split at e) <;> (try split at e) <;> omega
theorem front_ok (n : Nat) : HabOk n (frontHab n) := by
  refine ⟨by simp [frontHab], fun k hk => ?_⟩
  unfold frontHab
  rw [getD_hab hk]
  exact frontRow_lay hk

/-! ### neighbours -/
def nbRow (n k : Nat) : LN := (List.range (k - 1)) ++ ([k, k - 1] ++ ((List.range (n - (k + 1))).map fun i => k + 1 + i))
def nbHab (n : Nat) : Hab := (List.range n).map fun k => if k = 0 then List.range n else nbRow n k
def fN (k s : Nat) : Nat := if k = 0 then s else if s + 1 = k then k else if s = k then k - 1 else s
def swp (row : LN) (k : Nat) : LN := if k = 0 then row else row.take (k - 1) ++ (row.getD k 0 :: row.getD (k - 1) 0 :: row.drop (k + 1))
theorem nbRow_at {n k s : Nat} (h0 : 0 < k) (hk : k < n) (hs : s < n) : (nbRow n k).getD s 0 = fN k s := by
  unfold nbRow fN
  rw [if_neg (by omega)]
  by_cases h : s < k - 1
  · rw [getD_left (by simpa using h), getD_range h, if_neg (by omega), if_neg (by omega)]
  · rw [getD_right (by simpa using h)]
    simp only [List.length_range]
    by_cases h2 : s + 1 = k
    · rw [if_pos h2, show s - (k - 1) = 0 by omega]; rfl
    · rw [if_neg h2]
      by_cases h3 : s = k
      · rw [if_pos h3, show s - (k - 1) = 1 by omega]; rfl
      · rw [if_neg h3, getD_right (by simp; omega)]
        simp only [List.length_cons, List.length_nil]
        rw [getD_map (by simp; omega), getD_range (by omega)]
        omega
theorem parts2 {row : LN} {k : Nat} (h0 : 0 < k) (hk : k < row.length) : row = row.take (k - 1) ++ (row.getD (k - 1) 0 :: row.getD k 0 :: row.drop (k + 1)) := by
  have h1 : k - 1 < row.length := by omega
  have e1 : row.getD k 0 = row[k] := by rw [List.getD_eq_getElem?_getD, List.getElem?_eq_getElem hk]; rfl
  have e2 : row.getD (k - 1) 0 = row[k - 1] := by rw [List.getD_eq_getElem?_getD, List.getElem?_eq_getElem h1]; rfl
  rw [e1, e2, List.getElem_cons_drop]
  have e : row[k - 1] :: row.drop k = row.drop (k - 1) := by
    have := List.getElem_cons_drop (as := row) (i := k - 1) h1
    rw [show k - 1 + 1 = k by omega] at this
    exact this
  rw [e, List.take_append_drop]
theorem swp_perm {row : LN} {k : Nat} (hk : k < row.length) : (swp row k).Perm row := by
  unfold swp
  by_cases h0 : k = 0
  · rw [if_pos h0]
  · rw [if_neg h0]
    conv => rhs; rw [parts2 (by omega) hk]
    exact List.Perm.append_left _ (List.Perm.swap _ _ _)
theorem swp_lay {n : Nat} {row : LN} {k : Nat} (h : Lay n row) (hk : k < n) : Lay n (swp row k) := lay_perm h (swp_perm (by rw [h.len]; exact hk))
theorem fN_lt {n k s : Nat} (hk : k < n) (hs : s < n) : fN k s < n := by
  unfold fN
  split
  · omega
  · split
    · omega
    · split <;> omega
theorem swp_at {n : Nat} {row : LN} {k i : Nat} (h : Lay n row) (hk : k < n) (hi : i < n) : (swp row k).getD (fN k i) 0 = row.getD i 0 := by
  unfold fN swp
  by_cases h0 : k = 0
  · rw [if_pos h0, if_pos h0]
  · rw [if_neg h0, if_neg h0]
    have hl : (row.take (k - 1)).length = k - 1 := by rw [List.length_take, h.len]; omega
    by_cases c1 : i + 1 = k
    · rw [if_pos c1, getD_right (by omega), hl, show k - (k - 1) = 1 by omega, show i = k - 1 by omega]
      rfl
    · rw [if_neg c1]
      by_cases c2 : i = k
      · rw [if_pos c2, getD_right (by omega), hl, show k - 1 - (k - 1) = 0 by omega, c2]
        rfl
      · rw [if_neg c2]
        by_cases c3 : i < k - 1
        · rw [getD_left (by omega), getD_take c3]
        · rw [getD_right (by omega), hl]
          obtain ⟨j, ej⟩ : ∃ j, i - (k - 1) = j + 2 := ⟨i - (k - 1) - 2, by omega⟩
          rw [ej]
          show (row.drop (k + 1)).getD j 0 = _
          rw [getD_drop, show k + 1 + j = i by omega]
theorem nb_goes (n : Nat) : Goes n (nbHab n) swp := by
  refine goes_of (f := fN) (fun k s hk hs => ?_) (fun row k h hk => swp_lay h hk) (fun row k x h hk hx => ?_)
  · unfold nbHab
    rw [getD_hab hk]
    by_cases h0 : k = 0
    · rw [if_pos h0, getD_range hs]; unfold fN; rw [if_pos h0]
    · rw [if_neg h0]; exact nbRow_at (by omega) hk hs
  · have hx' := h.mem hx
    have hi : row.idxOf x < n := by rw [← h.len]; exact idx_lt hx'
    refine idx_of (swp_lay h hk).nd (by rw [(swp_lay h hk).len]; exact fN_lt hk hi) ?_
    rw [swp_at h hk hi, getD_idx hx']
theorem nbRow_lay {n k : Nat} (h0 : 0 < k) (hk : k < n) : Lay n (nbRow n k) := by
  refine row_lay (f := fN k) ?_ (fun s hs => nbRow_at h0 hk hs) (fun s hs => fN_lt hk hs) (fun s t hs ht e => ?_)
  · unfold nbRow; simp; omega
  · unfold fN at e
    have hk0 : ¬ k = 0 := by omega
    rw [if_neg hk0, if_neg hk0] at e
    split at e <;> split at e <;> (try split at e) <;> (try split at e) <;> omega
theorem nb_ok (n : Nat) : HabOk n (nbHab n) := by
  refine ⟨by simp [nbHab], fun k hk => ?_⟩
  unfold nbHab
  rw [getD_hab hk]
  by_cases h0 : k = 0
  · rw [if_pos h0]; exact lay_range n
  · rw [if_neg h0]; exact nbRow_lay (by omega) hk

/-! ### turning -/
def tuHab (n : Nat) : Hab := (List.range n).map fun k => (List.range n).map fun s => (s + k) % n
theorem tu_at {n k s : Nat} (hk : k < n) (hs : s < n) : ((tuHab n).getD k []).getD s 0 = (s + k) % n := by
  unfold tuHab
  rw [getD_hab hk, getD_map (by rw [List.length_range]; exact hs), getD_range hs]
theorem mod_inj {n k s t : Nat} (hs : s < n) (ht : t < n) (e : (s + k) % n = (t + k) % n) : s = t := by
  have key : ∀ a, a < n → ((a + k) % n + (k * n - k)) % n = a := fun a ha => by
    have hle : k ≤ k * n := Nat.le_mul_of_pos_right k (by omega)
    rw [Nat.mod_add_mod, show a + k + (k * n - k) = a + k * n by omega, Nat.add_mul_mod_self_right, Nat.mod_eq_of_lt ha]
  have h1 := key s hs
  rw [e, key t ht] at h1
  exact h1.symm
theorem tu_ok (n : Nat) : HabOk n (tuHab n) := by
  refine ⟨by simp [tuHab], fun k hk => ?_⟩
  refine row_lay (f := fun s => (s + k) % n) ?_ (fun s hs => tu_at hk hs) (fun s hs => Nat.mod_lt _ (by omega)) (fun s t hs ht e => mod_inj hs ht e)
  unfold tuHab
  rw [getD_hab hk]
  simp
theorem tu_touch {n k : Nat} {p : LN} (hp : Lay n p) (hk : k < n) : touch (tuHab n) p k = p.map fun s => (s + k) % n := by
  unfold touch
  apply List.map_congr_left
  intro s hs
  exact tu_at hk (hp.lt s hs)
/-- a word turns the shelf by the sum of its places -/
theorem tu_run {n : Nat} : ∀ {w p : LN}, Lay n p → (∀ k ∈ w, k < n) → run (tuHab n) p w = p.map fun s => (s + w.sum) % n
  | [], p, hp, _ => by
    show p = p.map fun s => (s + 0) % n
    conv => lhs; rw [← List.map_id p]
    apply List.map_congr_left
    intro s hs
    show s = (s + 0) % n
    rw [Nat.add_zero, Nat.mod_eq_of_lt (hp.lt s hs)]
  | k :: w, p, hp, hw => by
    have hk := hw k List.mem_cons_self
    show run (tuHab n) (touch (tuHab n) p k) w = _
    rw [tu_run (touch_lay (tu_ok n) hp hk) fun j hj => hw j (List.mem_cons_of_mem _ hj), tu_touch hp hk, List.map_map]
    apply List.map_congr_left
    intro s _
    show ((s + k) % n + w.sum) % n = (s + (k :: w).sum) % n
    rw [List.sum_cons, Nat.mod_add_mod, Nat.add_assoc]
end Rm
set_option maxHeartbeats 1000000
/-! the mathematics, 4: pairs in unlike order, words of neighbours -/
namespace Rm
def invs (f : Nat → Nat) : LN → Nat
  | [] => 0
  | x :: r => r.countP (fun y => decide (f y < f x)) + invs f r
theorem invs_inc {f : Nat → Nat} : ∀ {l : LN}, Inc f l → invs f l = 0
  | [], _ => rfl
  | x :: r, h => by
    have h' := List.pairwise_cons.mp h
    show r.countP _ + invs f r = 0
    rw [invs_inc h'.2, List.countP_eq_zero.mpr]
    intro y hy
    have := h'.1 y hy
    simp
    omega
theorem invs_swap (f : Nat → Nat) {x y : Nat} (h : f x < f y) (c : LN) : ∀ a : LN, invs f (a ++ y :: x :: c) = invs f (a ++ x :: y :: c) + 1
  | [] => by
    show (x :: c).countP (fun z => decide (f z < f y)) + (c.countP (fun z => decide (f z < f x)) + invs f c) = (y :: c).countP (fun z => decide (f z < f x)) + (c.countP (fun z => decide (f z < f y)) + invs f c) + 1
    rw [List.countP_cons, List.countP_cons]
    have e1 : decide (f x < f y) = true := decide_eq_true h
    have e2 : decide (f y < f x) = false := decide_eq_false (by omega)
    rw [e1, e2]
    simp
    omega
  | b :: a => by
    have ih := invs_swap f h c a
    show (a ++ y :: x :: c).countP _ + invs f (a ++ y :: x :: c) = (a ++ x :: y :: c).countP _ + invs f (a ++ x :: y :: c) + 1
    rw [ih]
    have hp : (a ++ y :: x :: c).Perm (a ++ x :: y :: c) := List.Perm.append_left _ (List.Perm.swap _ _ _)
    rw [hp.countP_eq]
    omega
/-- a swap at k, its two names told -/
theorem swp_parts {row : LN} {k : Nat} (h0 : 0 < k) (hk : k < row.length) :
    row = row.take (k - 1) ++ (row.getD (k - 1) 0 :: row.getD k 0 :: row.drop (k + 1)) ∧ swp row k = row.take (k - 1) ++ (row.getD k 0 :: row.getD (k - 1) 0 :: row.drop (k + 1)) :=
  ⟨parts2 h0 hk, by unfold swp; rw [if_neg (by omega)]⟩
theorem invs_step {f : Nat → Nat} {row : LN} {k : Nat} (hk : k < row.length) (inj : ∀ a ∈ row, ∀ b ∈ row, f a = f b → a = b) : invs f row ≤ invs f (swp row k) + 1 := by
  by_cases h0 : k = 0
  · unfold swp; rw [if_pos h0]; omega
  · obtain ⟨e1, e2⟩ := swp_parts (by omega : 0 < k) hk
    generalize row.getD (k - 1) 0 = x at e1 e2
    generalize row.getD k 0 = y at e1 e2
    generalize row.take (k - 1) = a at e1 e2
    generalize row.drop (k + 1) = c at e1 e2
    rw [e2]
    by_cases c1 : f x < f y
    · have := invs_swap f c1 c a
      rw [e1]; omega
    · by_cases c2 : f y < f x
      · have := invs_swap f c2 c a
        rw [e1]; omega
      · have e : x = y := inj x (by rw [e1]; simp) y (by rw [e1]; simp) (by omega)
        rw [e1, e]; omega
theorem swp_len {row : LN} {k : Nat} (hk : k < row.length) : (swp row k).length = row.length := (swp_perm hk).length_eq
theorem invs_run {f : Nat → Nat} : ∀ {w row : LN}, (∀ k ∈ w, k < row.length) → (∀ a ∈ row, ∀ b ∈ row, f a = f b → a = b) → invs f row ≤ invs f (w.foldl swp row) + w.length
  | [], row, _, _ => Nat.le_refl _
  | k :: w, row, hw, inj => by
    have hk := hw k List.mem_cons_self
    have hp := swp_perm hk
    have ih := invs_run (f := f) (w := w) (row := swp row k) (fun j hj => by rw [hp.length_eq]; exact hw j (List.mem_cons_of_mem _ hj)) fun a ha b hb => inj a (hp.mem_iff.mp ha) b (hp.mem_iff.mp hb)
    have h1 := invs_step hk inj
    show invs f row ≤ invs f (w.foldl swp (swp row k)) + (w.length + 1)
    omega
/-- pairs in unlike order of two layouts -/
def crossed (one other : LN) : Nat := invs (fun x => other.getD x 0) (inv one)
theorem nb_least {n : Nat} {one other : LN} (h1 : Lay n one) (h2 : Lay n other) {w : LN} (hw : ∀ k ∈ w, k < n) (e : w.foldl swp (inv one) = inv other) : crossed one other ≤ w.length := by
  have h := invs_run (f := fun x => other.getD x 0) (w := w) (row := inv one) (by rw [(inv_lay h1).len]; exact hw) fun a ha b hb q => h2.inj ((inv_lay h1).lt a ha) ((inv_lay h1).lt b hb) q
  rw [e, invs_inc (inv_sorted h2), Nat.zero_add] at h
  exact h

/-! ### the word -/
/-- from place i down to the place behind goal -/
def down (i goal : Nat) : LN := (List.range (i - goal)).map fun t => i - t
theorem down_len (i goal : Nat) : (down i goal).length = i - goal := by simp [down]
theorem down_succ {i goal : Nat} (h : goal < i) : down i goal = i :: down (i - 1) goal := by
  unfold down
  rw [show i - goal = (i - 1 - goal) + 1 by omega, List.range_succ_eq_map, List.map_cons, List.map_map]
  congr 1
  apply List.map_congr_left
  intro t _
  show i - (t + 1) = i - 1 - t
  omega
theorem down_nil {i goal : Nat} (h : i ≤ goal) : down i goal = [] := by
  unfold down
  rw [show i - goal = 0 by omega]; rfl
theorem down_mem {i goal k : Nat} (h : k ∈ down i goal) : goal < k ∧ k ≤ i := by
  unfold down at h
  obtain ⟨t, ht, rfl⟩ := List.mem_map.mp h
  have := List.mem_range.mp ht
  omega
/-- swapping on the way down brings the name to the goal -/
theorem down_run {x : Nat} {c : LN} : ∀ (b a : LN), (down (a.length + b.length) a.length).foldl swp (a ++ (b ++ x :: c)) = a ++ x :: (b ++ c) := by
  intro b
  have gen : ∀ (m : Nat) (b a c : LN), b.length = m → (down (a.length + b.length) a.length).foldl swp (a ++ (b ++ x :: c)) = a ++ x :: (b ++ c) := by
    intro m
    induction m with
    | zero =>
      intro b a c hb
      have e : b = [] := List.length_eq_zero_iff.mp hb
      subst e
      rw [down_nil (by simp)]
      rfl
    | succ m ih =>
      intro b a c hb
      have hne : b ≠ [] := by intro z; rw [z] at hb; simp at hb
      obtain ⟨b', y, rfl⟩ : ∃ b' y, b = b' ++ [y] := ⟨b.dropLast, b.getLast hne, (List.dropLast_concat_getLast hne).symm⟩
      have hb' : b'.length = m := by simpa using hb
      rw [down_succ (by rw [hb]; omega), show a.length + (b' ++ [y]).length - 1 = a.length + b'.length by simp]
      show (down (a.length + b'.length) a.length).foldl swp (swp (a ++ ((b' ++ [y]) ++ x :: c)) (a.length + (b' ++ [y]).length)) = _
      have e1 : swp (a ++ ((b' ++ [y]) ++ x :: c)) (a.length + (b' ++ [y]).length) = a ++ (b' ++ x :: (y :: c)) := by
        have el : a ++ ((b' ++ [y]) ++ x :: c) = (a ++ b') ++ (y :: x :: c) := by simp
        have ek : a.length + (b' ++ [y]).length = (a ++ b').length + 1 := by simp; omega
        rw [el, ek]
        unfold swp
        rw [if_neg (by omega)]
        rw [show (a ++ b').length + 1 - 1 = (a ++ b').length by omega, List.take_left, getD_right (by omega), getD_right (Nat.le_refl _)]
        rw [show (a ++ b').length + 1 - (a ++ b').length = 1 by omega, show (a ++ b').length - (a ++ b').length = 0 by omega]
        rw [show (a ++ b').length + 1 + 1 = (a ++ b').length + 2 by omega, ← List.drop_drop, List.drop_left]
        simp
      rw [e1, ih b' a (y :: c) hb']
      simp
  intro a
  exact gen b.length b a c rfl
/-- names brought to their goals, one after another: the word, the row -/
def nbGo : LN → Nat → LN → LN
  | _, _, [] => []
  | row, g, x :: xs => down (row.idxOf x) g ++ nbGo ((down (row.idxOf x) g).foldl swp row) (g + 1) xs
/-- what the inner loop leaves, step by step -/
theorem nb_turn {f : Nat → Nat} {done rest names : LN} {x : Nat} (hd : done.Nodup) (hx : x ∈ rest) (hn : x ∉ done) (nr : rest.Nodup) (hf : ∀ y ∈ rest, y ≠ x → f x < f y) :
    (down ((done ++ rest).idxOf x) done.length).foldl swp (done ++ rest) = (done ++ [x]) ++ rest.erase x ∧
    invs f (done ++ rest) = invs f ((done ++ [x]) ++ rest.erase x) + (down ((done ++ rest).idxOf x) done.length).length := by
  obtain ⟨b, c, e, hb⟩ : ∃ b c, rest = b ++ x :: c ∧ x ∉ b := List.append_of_mem hx |> fun ⟨b, c, e⟩ => ⟨b, c, e, fun z => by
    rw [e] at nr
    exact (List.nodup_append.mp nr).2.2 x z x List.mem_cons_self rfl⟩
  subst e
  have ei : (done ++ (b ++ x :: c)).idxOf x = done.length + b.length := by
    rw [List.idxOf_append, if_neg hn, List.idxOf_append, if_neg hb, List.idxOf_cons_self]
    omega
  have ee : (b ++ x :: c).erase x = b ++ c := by
    rw [List.erase_append_right _ hb, List.erase_cons_head]
  rw [ei, ee, down_run, down_len]
  refine ⟨by simp, ?_⟩
  have key : ∀ (b a : LN), (∀ y ∈ b, f x < f y) → invs f (a ++ (b ++ x :: c)) = invs f (a ++ x :: (b ++ c)) + b.length := by
    intro b
    induction b with
    | nil => intro a _; simp
    | cons y b ih =>
      intro a hb
      have h1 := ih (a ++ [y]) fun z hz => hb z (List.mem_cons_of_mem _ hz)
      have h2 := invs_swap f (hb y List.mem_cons_self) (b ++ c) a
      rw [List.length_cons]
      have e1 : a ++ (y :: b ++ x :: c) = (a ++ [y]) ++ (b ++ x :: c) := by simp
      have e2 : (a ++ [y]) ++ x :: (b ++ c) = a ++ y :: x :: (b ++ c) := by simp
      have e3 : a ++ x :: (y :: b ++ c) = a ++ x :: y :: (b ++ c) := by simp
      rw [e1, h1, e2, h2, e3]
      omega
  have nx : ∀ y ∈ b, f x < f y := fun y hy => hf y (by simp [hy]) fun z => hb (z ▸ hy)
  rw [key b done nx]
  simp
theorem nbGo_spec {f : Nat → Nat} : ∀ (names done rest : LN), (done ++ rest).Nodup → rest.Perm names → Inc f names →
    (nbGo (done ++ rest) done.length names).foldl swp (done ++ rest) = done ++ names ∧ (nbGo (done ++ rest) done.length names).length + invs f (done ++ names) = invs f (done ++ rest) ∧
    ∀ k ∈ nbGo (done ++ rest) done.length names, k < (done ++ rest).length
  | [], done, rest, _, hp, _ => by
    have e : rest = [] := List.length_eq_zero_iff.mp (by rw [hp.length_eq]; rfl)
    subst e
    exact ⟨rfl, by simp [nbGo], fun k hk => by cases hk⟩
  | x :: xs, done, rest, nd, hp, hi => by
    have nd' := List.nodup_append.mp nd
    have hi' := List.pairwise_cons.mp hi
    have hx : x ∈ rest := hp.mem_iff.mpr List.mem_cons_self
    have hn : x ∉ done := fun z => nd'.2.2 x z x hx rfl
    obtain ⟨e1, e2⟩ := nb_turn (f := f) (names := xs) nd'.1 hx hn nd'.2.1 fun y hy hne => by
      rcases List.mem_cons.mp (hp.mem_iff.mp hy) with q | q
      · exact absurd q hne
      · exact hi'.1 y q
    have hp2 : (rest.erase x).Perm xs := by
      have := hp.erase x
      rw [List.erase_cons_head] at this
      exact this
    have hpd : ((done ++ [x]) ++ rest.erase x).Perm (done ++ rest) := by
      rw [List.append_assoc]
      exact List.Perm.append_left _ (List.perm_cons_erase hx).symm
    obtain ⟨i1, i2, i3⟩ := nbGo_spec (f := f) xs (done ++ [x]) (rest.erase x) (hpd.nodup_iff.mpr nd) hp2 hi'.2
    have el : (done ++ [x]).length = done.length + 1 := by simp
    rw [el] at i1 i2 i3
    have eg : nbGo (done ++ rest) done.length (x :: xs) = down ((done ++ rest).idxOf x) done.length ++ nbGo ((done ++ [x]) ++ rest.erase x) (done.length + 1) xs := by
      show down _ _ ++ nbGo ((down ((done ++ rest).idxOf x) done.length).foldl swp (done ++ rest)) (done.length + 1) xs = _
      rw [e1]
    have ea : done ++ x :: xs = (done ++ [x]) ++ xs := by simp
    rw [eg, ea]
    refine ⟨?_, ?_, ?_⟩
    · rw [List.foldl_append, e1, i1]
    · rw [List.length_append, e2]; omega
    · intro k hk
      rcases List.mem_append.mp hk with hk | hk
      · have h1 := (down_mem hk).2
        have h2 : (done ++ rest).idxOf x < (done ++ rest).length := idx_lt (List.mem_append_right _ hx)
        omega
      · have := i3 k hk
        rw [hpd.length_eq] at this
        exact this
def nbWord (one other : LN) : LN := nbGo (inv one) 0 (inv other)
theorem inv_perm {n : Nat} {one other : LN} (h1 : Lay n one) (h2 : Lay n other) : (inv one).Perm (inv other) := by
  rw [List.perm_ext_iff_of_nodup (inv_lay h1).nd (inv_lay h2).nd]
  intro x
  rw [(inv_lay h1).mem_iff, (inv_lay h2).mem_iff]
theorem nbWord_spec {n : Nat} {one other : LN} (h1 : Lay n one) (h2 : Lay n other) : (nbWord one other).foldl swp (inv one) = inv other ∧ (nbWord one other).length = crossed one other ∧ ∀ k ∈ nbWord one other, k < n := by
  obtain ⟨a, b, c⟩ := nbGo_spec (f := fun x => other.getD x 0) (inv other) [] (inv one) (by simpa using (inv_lay h1).nd) (inv_perm h1 h2) (inv_sorted h2)
  simp only [List.nil_append, List.length_nil] at a b c
  rw [invs_inc (inv_sorted h2)] at b
  rw [(inv_lay h1).len] at c
  exact ⟨a, b, c⟩

/-! ### counted name by name -/
def behind (near far : LN) (n x : Nat) : Nat := ((List.range n).filter fun y => decide (near.getD x 0 < near.getD y 0)).countP fun y => decide (far.getD y 0 < far.getD x 0)
theorem invs_sum (f : Nat → Nat) (c : Nat → Nat) : ∀ l : LN, (∀ pre x r, l = pre ++ x :: r → c x = r.countP fun y => decide (f y < f x)) → invs f l = (l.map c).sum
  | [], _ => rfl
  | x :: r, h => by
    show r.countP _ + invs f r = ((x :: r).map c).sum
    rw [List.map_cons, List.sum_cons, ← h [] x r rfl, invs_sum f c r fun pre y q e => h (x :: pre) y q (by rw [e]; rfl)]
theorem crossed_sum {n : Nat} {near far : LN} (h1 : Lay n near) (h2 : Lay n far) : crossed near far = ((List.range n).map (behind near far n)).sum := by
  unfold crossed
  rw [invs_sum (fun x => far.getD x 0) (behind near far n) (inv near) ?_]
  · have hp : (inv near).Perm (List.range n) := by
      rw [List.perm_ext_iff_of_nodup (inv_lay h1).nd List.nodup_range]
      intro x
      rw [(inv_lay h1).mem_iff, List.mem_range]
    exact (hp.map _).sum_nat
  · intro pre x r e
    unfold behind
    apply List.Perm.countP_eq
    have nd := (inv_lay h1).nd
    rw [e] at nd
    have nr : r.Nodup := (List.nodup_cons.mp (List.nodup_append.mp nd).2.1).2
    rw [List.perm_ext_iff_of_nodup (List.nodup_range.filter _) nr]
    intro y
    have hs := inv_sorted h1
    rw [e] at hs
    have hs2 := List.pairwise_append.mp hs
    have hs3 := List.pairwise_cons.mp hs2.2.1
    have hm : y ∈ inv near ↔ y < n := (inv_lay h1).mem_iff
    rw [e] at hm
    rw [List.mem_filter, List.mem_range]
    constructor
    · rintro ⟨hy, hlt⟩
      have hlt' := of_decide_eq_true hlt
      rcases List.mem_append.mp (hm.mpr hy) with q | q
      · have := hs2.2.2 y q x List.mem_cons_self
        omega
      · rcases List.mem_cons.mp q with q | q
        · subst q; omega
        · exact q
    · intro hy
      refine ⟨hm.mp (List.mem_append_right _ (List.mem_cons_of_mem _ hy)), decide_eq_true ?_⟩
      exact hs3.1 y hy
end Rm
set_option maxHeartbeats 1000000
/-! the mathematics, 5: layer by layer; turns -/
namespace Rm
abbrev Fd := List (LN × LN)
def look (F : Fd) (l : LN) : Option LN := (F.find? fun e => decide (e.1 = l)).map (·.2)
theorem look_mem {F : Fd} {l w : LN} (h : look F l = some w) : (l, w) ∈ F := by
  unfold look at h
  obtain ⟨e, h1, h2⟩ := Option.map_eq_some_iff.mp h
  have h3 := List.find?_some h1
  have h4 : e.1 = l := of_decide_eq_true h3
  have h5 := List.mem_of_find?_eq_some h1
  obtain ⟨a, b⟩ := e
  cases h4; cases h2
  exact h5
theorem look_none {F : Fd} {l : LN} (h : look F l = none) : l ∉ F.map (·.1) := by
  unfold look at h
  have h1 := Option.map_eq_none_iff.mp h
  intro hm
  obtain ⟨e, he, e1⟩ := List.mem_map.mp hm
  have := List.find?_eq_none.mp h1 e he
  exact this (decide_eq_true e1)
theorem mem_look {F : Fd} {l w : LN} (nd : (F.map (·.1)).Nodup) (h : (l, w) ∈ F) : look F l = some w := by
  cases e : look F l with
  | none => exact absurd (List.mem_map.mpr ⟨_, h, rfl⟩) (look_none e)
  | some v =>
    have h2 := look_mem e
    have key : ∀ (F : Fd), (F.map (·.1)).Nodup → (l, w) ∈ F → (l, v) ∈ F → v = w := by
      intro F
      induction F with
      | nil => intro _ h; cases h
      | cons a F ih =>
        intro nd h1 h2
        rw [List.map_cons] at nd
        have nd' := List.nodup_cons.mp nd
        rcases List.mem_cons.mp h1 with q1 | q1 <;> rcases List.mem_cons.mp h2 with q2 | q2
        · rw [← q1] at q2; cases q2; rfl
        · exact absurd (List.mem_map.mpr ⟨_, q2, by rw [← q1]⟩) nd'.1
        · exact absurd (List.mem_map.mpr ⟨_, q1, by rw [← q2]⟩) nd'.1
        · exact ih nd'.2 q1 q2
    rw [key F nd h h2]
/-- from a found layout a touch leads to a found one, by a word that is not longer than this way -/
def Cl (h : Hab) (F : Fd) (e : LN × LN) (p : Nat) : Prop := ∃ w, (touch h e.1 p, w) ∈ F ∧ w.length ≤ e.2.length + 1
structure Bf (n : Nat) (h : Hab) (st : LN) (d : Nat) (F : Fd) (lay later : List LN) (dn : LN → Nat → Prop) : Prop where
  nd : (F.map (·.1)).Nodup
  first : (st, []) ∈ F
  sound : ∀ e ∈ F, run h st e.2 = e.1 ∧ (∀ k ∈ e.2, k < n) ∧ e.2.length ≤ d + 1
  inLay : ∀ l ∈ lay, ∃ w, (l, w) ∈ F ∧ w.length = d
  ofLay : ∀ e ∈ F, e.2.length = d → e.1 ∈ lay
  inLater : ∀ l ∈ later, ∃ w, (l, w) ∈ F ∧ w.length = d + 1
  ofLater : ∀ e ∈ F, e.2.length = d + 1 → e.1 ∈ later
  closed : ∀ e ∈ F, e.2.length < d → ∀ p, p < n → Cl h F e p
  done : ∀ e ∈ F, e.2.length = d → ∀ p, dn e.1 p → Cl h F e p
section
variable {n : Nat} {h : Hab} {st : LN} {d : Nat} {F : Fd} {lay later : List LN} {dn dn' : LN → Nat → Prop}
theorem Bf.start : Bf n h st 0 [(st, [])] [st] [] (fun _ _ => False) where
  nd := by simp
  first := by simp
  sound := fun e he => by
    have : e = (st, []) := by simpa using he
    subst this
    exact ⟨rfl, fun k hk => (by cases hk), Nat.zero_le _⟩
  inLay := fun l hl => ⟨[], by
    have : l = st := by simpa using hl
    rw [this]; simp, rfl⟩
  ofLay := fun e he _ => by
    have : e = (st, []) := by simpa using he
    subst this; simp
  inLater := fun l hl => by cases hl
  ofLater := fun e he z => by
    have : e = (st, []) := by simpa using he
    subst this; simp at z
  closed := fun e _ z => absurd z (Nat.not_lt_zero _)
  done := fun _ _ _ _ z => z.elim
theorem Bf.mono (b : Bf n h st d F lay later dn) (m : ∀ l p, dn' l p → dn l p) : Bf n h st d F lay later dn' :=
  ⟨b.nd, b.first, b.sound, b.inLay, b.ofLay, b.inLater, b.ofLater, b.closed, fun e he hd p z => b.done e he hd p (m _ _ z)⟩
/-- a touch leads to what was found -/
theorem Bf.old (b : Bf n h st d F lay later dn) {one : LN} {p : Nat} (hm : touch h one p ∈ F.map (·.1)) : Bf n h st d F lay later (fun l q => dn l q ∨ (l = one ∧ q = p)) :=
  ⟨b.nd, b.first, b.sound, b.inLay, b.ofLay, b.inLater, b.ofLater, b.closed, fun e he hd q z => by
    rcases z with z | ⟨z1, z2⟩
    · exact b.done e he hd q z
    · obtain ⟨e', he', e1⟩ := List.mem_map.mp hm
      obtain ⟨a, w⟩ := e'
      have e1 : a = touch h one p := e1
      subst e1
      refine ⟨w, ?_, ?_⟩
      · rw [z1, z2]; exact he'
      · have := (b.sound _ he').2.2
        show w.length ≤ e.2.length + 1
        rw [hd]; exact this⟩
/-- .. to what is new -/
theorem Bf.new (b : Bf n h st d F lay later dn) {one w : LN} {p : Nat} (h1 : (one, w) ∈ F) (hd : w.length = d) (hp : p < n) (hm : touch h one p ∉ F.map (·.1)) :
    Bf n h st d (F ++ [(touch h one p, w ++ [p])]) lay (later ++ [touch h one p]) (fun l q => dn l q ∨ (l = one ∧ q = p)) := by
  have hs := b.sound _ h1
  have mem : ∀ {e}, e ∈ F ++ [(touch h one p, w ++ [p])] → e ∈ F ∨ e = (touch h one p, w ++ [p]) := fun {e} he => by
    rcases List.mem_append.mp he with q | q
    · exact .inl q
    · exact .inr (by simpa using q)
  have wl : (w ++ [p]).length = d + 1 := by rw [List.length_append, hd]; rfl
  have sub : ∀ {e q}, Cl h F e q → Cl h (F ++ [(touch h one p, w ++ [p])]) e q := fun {e q} ⟨v, a, c⟩ => ⟨v, List.mem_append_left _ a, c⟩
  refine ⟨?_, List.mem_append_left _ b.first, fun e he => ?_, fun l hl => ?_, fun e he z => ?_, fun l hl => ?_, fun e he z => ?_, fun e he z q hq => ?_, fun e he z q hq => ?_⟩
  · rw [List.map_append, List.nodup_append]
    refine ⟨b.nd, by simp, fun x hx y hy e => ?_⟩
    have : y = touch h one p := by simpa using hy
    rw [e, this] at hx
    exact hm hx
  · rcases mem he with q | rfl
    · exact b.sound e q
    · refine ⟨?_, ?_, Nat.le_of_eq wl⟩
      · show run h st (w ++ [p]) = touch h one p
        rw [run_snoc, hs.1]
      · intro k hk
        rcases List.mem_append.mp hk with q | q
        · exact hs.2.1 k q
        · have : k = p := by simpa using q
          omega
  · obtain ⟨v, a, c⟩ := b.inLay l hl
    exact ⟨v, List.mem_append_left _ a, c⟩
  · rcases mem he with q | rfl
    · exact b.ofLay e q z
    · have z' : (w ++ [p]).length = d := z
      omega
  · rcases List.mem_append.mp hl with q | q
    · obtain ⟨v, a, c⟩ := b.inLater l q
      exact ⟨v, List.mem_append_left _ a, c⟩
    · have : l = touch h one p := by simpa using q
      subst this
      exact ⟨w ++ [p], List.mem_append_right _ (by simp), wl⟩
  · rcases mem he with q | rfl
    · exact List.mem_append_left _ (b.ofLater e q z)
    · exact List.mem_append_right _ (by simp)
  · rcases mem he with q' | rfl
    · exact sub (b.closed e q' z q hq)
    · have z' : (w ++ [p]).length < d := z
      omega
  · rcases mem he with q' | rfl
    · rcases hq with hq | ⟨hq1, hq2⟩
      · exact sub (b.done e q' z q hq)
      · refine ⟨w ++ [p], ?_, ?_⟩
        · rw [hq1, hq2]; exact List.mem_append_right _ (by simp)
        · rw [wl, z]; exact Nat.le_refl _
    · have z' : (w ++ [p]).length = d := z
      omega
/-- the layer is through -/
theorem Bf.next (b : Bf n h st d F lay later dn) (all : ∀ l ∈ lay, ∀ p, p < n → dn l p) : Bf n h st (d + 1) F later [] (fun _ _ => False) := by
  refine ⟨b.nd, b.first, fun e he => ?_, b.inLater, b.ofLater, fun l hl => (by cases hl), fun e he z => ?_, fun e he z p hp => ?_, fun _ _ _ _ z => z.elim⟩
  · obtain ⟨a, c, e1⟩ := b.sound e he
    exact ⟨a, c, by omega⟩
  · have := (b.sound e he).2.2
    omega
  · by_cases c : e.2.length < d
    · exact b.closed e he c p hp
    · have hd : e.2.length = d := by omega
      exact b.done e he hd p (all _ (b.ofLay e he hd) p hp)
/-- nothing new: all is found, by shortest words -/
theorem Bf.full (b : Bf n h st d F [] [] dn) : ∀ v : LN, (∀ k ∈ v, k < n) → ∃ w, (run h st v, w) ∈ F ∧ w.length ≤ v.length := by
  have cl : ∀ e ∈ F, ∀ p, p < n → Cl h F e p := fun e he p hp => by
    have h1 := (b.sound e he).2.2
    have h2 : e.2.length ≠ d + 1 := fun z => by cases b.ofLater e he z
    have h3 : e.2.length ≠ d := fun z => by cases b.ofLay e he z
    exact b.closed e he (by omega) p hp
  have gen : ∀ v : LN, (∀ k ∈ v.reverse, k < n) → ∃ w, (run h st v.reverse, w) ∈ F ∧ w.length ≤ v.length := by
    intro v
    induction v with
    | nil => exact fun _ => ⟨[], b.first, Nat.le_refl _⟩
    | cons k v ih =>
      intro hv
      rw [List.reverse_cons] at hv ⊢
      obtain ⟨w, h1, h2⟩ := ih fun j hj => hv j (List.mem_append_left _ hj)
      obtain ⟨w', h3, h4⟩ := cl _ h1 k (hv k (by simp))
      rw [run_snoc]
      refine ⟨w', h3, ?_⟩
      rw [List.length_cons]
      have h4' : w'.length ≤ w.length + 1 := h4
      omega
  intro v hv
  have := gen v.reverse
  rw [List.reverse_reverse, List.length_reverse] at this
  exact this hv
/-- what is told of a way -/
structure Dist (n : Nat) (h : Hab) (one other : LN) (r : Option LN) : Prop where
  some : ∀ w, r = some w → run h one w = other ∧ (∀ k ∈ w, k < n) ∧ ∀ v, (∀ k ∈ v, k < n) → run h one v = other → w.length ≤ v.length
  none : r = none → ∀ v, (∀ k ∈ v, k < n) → run h one v ≠ other
theorem Bf.dist (b : Bf n h st d F [] [] dn) (other : LN) : Dist n h st other (look F other) where
  some := fun w e => by
    have hm := look_mem e
    obtain ⟨a, c, _⟩ := b.sound _ hm
    refine ⟨a, c, fun v hv ev => ?_⟩
    obtain ⟨w', h1, h2⟩ := b.full v hv
    rw [ev] at h1
    have e2 := mem_look b.nd h1
    rw [e] at e2
    cases e2
    exact h2
  none := fun e v hv ev => by
    obtain ⟨w', h1, _⟩ := b.full v hv
    rw [ev] at h1
    exact look_none e (List.mem_map.mpr ⟨_, h1, rfl⟩)
end
/-! ### no more than so many -/
def tups (n : Nat) : Nat → List LN
  | 0 => [[]]
  | k + 1 => (List.range n).flatMap fun a => (tups n k).map (a :: ·)
theorem tups_len (n : Nat) : ∀ k, (tups n k).length = n ^ k
  | 0 => rfl
  | k + 1 => by
    have ih := tups_len n k
    have key : ∀ l : LN, (l.flatMap fun a => (tups n k).map (a :: ·)).length = l.length * n ^ k := by
      intro l
      induction l with
      | nil => simp
      | cons a l ihl =>
        rw [List.flatMap_cons, List.length_append, List.length_map, ih, ihl, List.length_cons, Nat.succ_mul]
        omega
    show ((List.range n).flatMap fun a => (tups n k).map (a :: ·)).length = _
    rw [key, List.length_range, Nat.pow_succ, Nat.mul_comm]
theorem mem_tups {n : Nat} : ∀ {k : Nat} {l : LN}, l.length = k → (∀ x ∈ l, x < n) → l ∈ tups n k
  | 0, l, hl, _ => by
    rw [List.length_eq_zero_iff.mp hl]
    exact List.mem_cons_self
  | k + 1, [], hl, _ => by simp at hl
  | k + 1, a :: l, hl, h => by
    have ih := mem_tups (n := n) (k := k) (l := l) (by simpa using hl) fun x hx => h x (List.mem_cons_of_mem _ hx)
    exact List.mem_flatMap.mpr ⟨a, List.mem_range.mpr (h a List.mem_cons_self), List.mem_map.mpr ⟨l, ih, rfl⟩⟩
theorem Bf.few {n : Nat} {h : Hab} {st : LN} {d : Nat} {F : Fd} {lay later : List LN} {dn : LN → Nat → Prop} (b : Bf n h st d F lay later dn) (ok : HabOk n h) (hs : Lay n st) : F.length ≤ n ^ n := by
  have h1 := b.nd.length_le_of_subset (l₂ := tups n n) fun x hx => by
    obtain ⟨e, he, rfl⟩ := List.mem_map.mp hx
    obtain ⟨a, c, _⟩ := b.sound e he
    have hl := run_lay ok hs c
    rw [a] at hl
    exact mem_tups hl.len hl.lt
  rw [List.length_map, tups_len] at h1
  exact h1
theorem pow_small {n : Nat} (h : n ≤ 5) : n ^ n ≤ 3125 := by
  have : n = 0 ∨ n = 1 ∨ n = 2 ∨ n = 3 ∨ n = 4 ∨ n = 5 := by omega
  rcases this with rfl | rfl | rfl | rfl | rfl | rfl <;> decide

/-! ### the three kinds -/
theorem dist_some {n : Nat} {h : Hab} {one other w : LN} {r : Option LN} (D : Dist n h one other r) (hw : ∀ k ∈ w, k < n) (e : run h one w = other) (least : ∀ v, (∀ k ∈ v, k < n) → run h one v = other → w.length ≤ v.length) :
    ∃ v, r = some v ∧ v.length = w.length := by
  cases q : r with
  | none => exact absurd e (D.none q w hw)
  | some v =>
    obtain ⟨a, b, c⟩ := D.some v q
    exact ⟨v, rfl, Nat.le_antisymm (c w hw e) (least v b a)⟩
theorem front_dist {n : Nat} {one other : LN} {r : Option LN} (h1 : Lay n one) (h2 : Lay n other) (D : Dist n (frontHab n) one other r) : ∃ v, r = some v ∧ v.length = n - (kept one other).length := by
  have hw := frontWord_lt h1 h2
  have g := goes_reach (front_ok n) (front_goes n) h1 h2 (w := frontWord one other) hw
  obtain ⟨v, a, b⟩ := dist_some D hw (g.mpr (frontWord_run h1 h2)) fun v hv ev => by
    rw [frontWord_len h1 h2]
    exact front_least h1 h2 hv ((goes_reach (front_ok n) (front_goes n) h1 h2 hv).mp ev)
  exact ⟨v, a, by rw [b, frontWord_len h1 h2]⟩
theorem nb_dist {n : Nat} {one other : LN} {r : Option LN} (h1 : Lay n one) (h2 : Lay n other) (D : Dist n (nbHab n) one other r) : ∃ v, r = some v ∧ v.length = crossed one other := by
  obtain ⟨e, el, hw⟩ := nbWord_spec h1 h2
  have g := goes_reach (nb_ok n) (nb_goes n) h1 h2 (w := nbWord one other) hw
  obtain ⟨v, a, b⟩ := dist_some D hw (g.mpr e) fun v hv ev => by
    rw [el]
    exact nb_least h1 h2 hv ((goes_reach (nb_ok n) (nb_goes n) h1 h2 hv).mp ev)
  exact ⟨v, a, by rw [b, el]⟩
theorem front_after {n : Nat} {one other : LN} (h1 : Lay n one) (h2 : Lay n other) : run (frontHab n) one (frontWord one other) = other :=
  (goes_reach (front_ok n) (front_goes n) h1 h2 (frontWord_lt h1 h2)).mpr (frontWord_run h1 h2)
theorem nb_after {n : Nat} {one other : LN} (h1 : Lay n one) (h2 : Lay n other) : run (nbHab n) one (nbWord one other) = other :=
  (goes_reach (nb_ok n) (nb_goes n) h1 h2 (nbWord_spec h1 h2).2.2).mpr (nbWord_spec h1 h2).1
/-- the differences, place by place -/
def diffs (n : Nat) (one other : LN) : LN := (one.zip other).map fun q => (q.2 + n - q.1) % n
theorem diffs_len {n : Nat} {one other : LN} (h1 : Lay n one) (h2 : Lay n other) : (diffs n one other).length = n := by
  unfold diffs
  rw [List.length_map, List.length_zip, h1.len, h2.len, Nat.min_self]
theorem zip_getD {a b : LN} {i : Nat} (h1 : i < a.length) (h2 : i < b.length) : (a.zip b)[i]? = some (a.getD i 0, b.getD i 0) := by
  rw [List.getElem?_eq_getElem (by rw [List.length_zip]; omega), List.getElem_zip, List.getD_eq_getElem?_getD, List.getD_eq_getElem?_getD, List.getElem?_eq_getElem h1, List.getElem?_eq_getElem h2]
  rfl
theorem diffs_at {n : Nat} {one other : LN} (h1 : Lay n one) (h2 : Lay n other) {i : Nat} (hi : i < n) : (diffs n one other).getD i 0 = (other.getD i 0 + n - one.getD i 0) % n := by
  unfold diffs
  rw [List.getD_eq_getElem?_getD, List.getElem?_map, zip_getD (by rw [h1.len]; exact hi) (by rw [h2.len]; exact hi)]
  rfl
theorem turn_iff {n c : Nat} {one other : LN} (h1 : Lay n one) (h2 : Lay n other) (hc : c < n) : (one.map fun s => (s + c) % n) = other ↔ ∀ x ∈ diffs n one other, x = c := by
  constructor
  · intro e x hx
    obtain ⟨i, hi, ei⟩ := List.getElem_of_mem hx
    have hi' : i < n := by rw [diffs_len h1 h2] at hi; exact hi
    have d := diffs_at h1 h2 hi'
    rw [List.getD_eq_getElem?_getD, List.getElem?_eq_getElem hi] at d
    have d' : x = (other.getD i 0 + n - one.getD i 0) % n := by rw [← ei]; exact d
    have hl : i < one.length := by rw [h1.len]; exact hi'
    have eo : other.getD i 0 = (one.getD i 0 + c) % n := by
      rw [← e, List.getD_eq_getElem?_getD, List.getElem?_map, List.getD_eq_getElem?_getD, List.getElem?_eq_getElem hl]
      rfl
    have hs : one.getD i 0 < n := h1.lt _ (getD_mem hl)
    generalize one.getD i 0 = s at *
    rw [eo] at d'
    by_cases q : s + c < n
    · rw [Nat.mod_eq_of_lt q, show s + c + n - s = c + n by omega, Nat.add_mod_right, Nat.mod_eq_of_lt hc] at d'
      exact d'
    · have em : (s + c) % n = s + c - n := by rw [Nat.mod_eq_sub_mod (by omega), Nat.mod_eq_of_lt (by omega)]
      rw [em, show s + c - n + n - s = c by omega, Nat.mod_eq_of_lt hc] at d'
      exact d'
  · intro h
    apply ext_getD
    · rw [List.length_map, h1.len, h2.len]
    · intro i hi
      rw [List.length_map, h1.len] at hi
      have hl : i < one.length := by rw [h1.len]; exact hi
      have hl2 : i < other.length := by rw [h2.len]; exact hi
      have d := h _ (getD_mem (l := diffs n one other) (i := i) (by rw [diffs_len h1 h2]; exact hi))
      rw [diffs_at h1 h2 hi] at d
      have e1 : (one.map fun s => (s + c) % n).getD i 0 = (one.getD i 0 + c) % n := by
        rw [List.getD_eq_getElem?_getD, List.getElem?_map, List.getD_eq_getElem?_getD, List.getElem?_eq_getElem hl]
        rfl
      rw [e1]
      have hs : one.getD i 0 < n := h1.lt _ (getD_mem hl)
      have ht : other.getD i 0 < n := h2.lt _ (getD_mem hl2)
      generalize one.getD i 0 = s at *
      generalize other.getD i 0 = t at *
      rw [← d, Nat.add_mod_mod, show s + (t + n - s) = t + n by omega, Nat.add_mod_right, Nat.mod_eq_of_lt ht]
/-- what turning_word answers -/
def turnOf (ds : LN) : Option LN := match ds with
  | [] => none
  | c :: r => if ∀ x ∈ r, x = c then (if c = 0 then some [] else some [c]) else none
theorem turn_spec {n : Nat} {one other : LN} (hn : 0 < n) (h1 : Lay n one) (h2 : Lay n other) :
    (∀ w, turnOf (diffs n one other) = some w → run (tuHab n) one w = other ∧ (∀ k ∈ w, k < n) ∧ ∀ v, (∀ k ∈ v, k < n) → run (tuHab n) one v = other → w.length ≤ v.length) ∧
    (turnOf (diffs n one other) = none → ∀ v, (∀ k ∈ v, k < n) → run (tuHab n) one v ≠ other) := by
  have hl := diffs_len h1 h2
  have hlt : ∀ x ∈ diffs n one other, x < n := fun x hx => by
    unfold diffs at hx
    obtain ⟨q, _, rfl⟩ := List.mem_map.mp hx
    exact Nat.mod_lt _ hn
  cases e : diffs n one other with
  | nil => rw [e] at hl; simp at hl; omega
  | cons c r =>
    have hc : c < n := hlt c (by rw [e]; exact List.mem_cons_self)
    have reach : ∀ v, (∀ k ∈ v, k < n) → run (tuHab n) one v = other → ∀ x ∈ diffs n one other, x = v.sum % n := fun v hv ev => by
      rw [tu_run h1 hv] at ev
      refine (turn_iff h1 h2 (Nat.mod_lt _ hn)).mp ?_
      rw [← ev]
      apply List.map_congr_left
      intro s _
      rw [Nat.add_mod_mod]
    by_cases q : ∀ x ∈ r, x = c
    · have all : ∀ x ∈ diffs n one other, x = c := fun x hx => by
        rw [e] at hx
        rcases List.mem_cons.mp hx with z | z
        · exact z
        · exact q x z
      have ec := (turn_iff h1 h2 hc).mpr all
      by_cases z : c = 0
      · have et : turnOf (c :: r) = some [] := by show (if ∀ x ∈ r, x = c then (if c = 0 then some [] else some [c]) else none) = _; rw [if_pos q, if_pos z]
        rw [et]
        refine ⟨fun w ew => ?_, fun z => by cases z⟩
        cases ew
        refine ⟨?_, fun k hk => (by cases hk), fun v _ _ => Nat.zero_le _⟩
        rw [tu_run h1 (fun k hk => by cases hk)]
        rw [← ec, z]; rfl
      · have et : turnOf (c :: r) = some [c] := by show (if ∀ x ∈ r, x = c then (if c = 0 then some [] else some [c]) else none) = _; rw [if_pos q, if_neg z]
        rw [et]
        refine ⟨fun w ew => ?_, fun z => by cases z⟩
        cases ew
        refine ⟨?_, fun k hk => ?_, fun v hv ev => ?_⟩
        · rw [tu_run h1 (fun k hk => by have : k = c := by simpa using hk
                                        omega)]
          show (one.map fun s => (s + (c + 0)) % n) = other
          rw [Nat.add_zero]; exact ec
        · have : k = c := by simpa using hk
          omega
        · cases v with
          | nil =>
            have := reach [] hv ev c (by rw [e]; exact List.mem_cons_self)
            simp at this
            omega
          | cons k v => simp
    · have et : turnOf (c :: r) = none := by show (if ∀ x ∈ r, x = c then (if c = 0 then some [] else some [c]) else none) = _; rw [if_neg q]
      rw [et]
      refine ⟨fun w ew => (by cases ew), fun _ v hv ev => q fun x hx => ?_⟩
      have a1 := reach v hv ev c (by rw [e]; exact List.mem_cons_self)
      have a2 := reach v hv ev x (by rw [e]; exact List.mem_cons_of_mem _ hx)
      rw [a1, a2]
theorem turn_dist {n : Nat} {one other : LN} {r : Option LN} (hn : 0 < n) (h1 : Lay n one) (h2 : Lay n other) (D : Dist n (tuHab n) one other r) :
    (turnOf (diffs n one other) = none ∧ r = none) ∨ ∃ w v, turnOf (diffs n one other) = some w ∧ r = some v ∧ v.length = w.length ∧ run (tuHab n) one w = other ∧ ∀ k ∈ w, k < n := by
  obtain ⟨hs, hno⟩ := turn_spec hn h1 h2
  cases e : turnOf (diffs n one other) with
  | none =>
    refine .inl ⟨rfl, ?_⟩
    cases q : r with
    | none => rfl
    | some v =>
      obtain ⟨a, b, _⟩ := D.some v q
      exact absurd a (hno e v b)
  | some w =>
    obtain ⟨a, b, c⟩ := hs w e
    obtain ⟨v, h3, h4⟩ := dist_some D b a c
    exact .inr ⟨w, v, rfl, h3, h4, a, b⟩
/-- a layout turned by hand -/
theorem turn_shift {n c : Nat} {one : LN} (hn : 0 < n) (h1 : Lay n one) (hc : c < n) : turnOf (diffs n one (one.map fun s => (s + c) % n)) = if c = 0 then some [] else some [c] := by
  have h2 : Lay n (one.map fun s => (s + c) % n) := by
    have := touch_lay (tu_ok n) h1 hc
    rw [tu_touch h1 hc] at this
    exact this
  have all := (turn_iff h1 h2 hc).mp rfl
  have hl := diffs_len h1 h2
  cases e : diffs n one (one.map fun s => (s + c) % n) with
  | nil => rw [e] at hl; simp at hl; omega
  | cons a r =>
    rw [e] at all
    have ea : a = c := all a List.mem_cons_self
    subst ea
    show (if ∀ x ∈ r, x = a then (if a = 0 then some [] else some [a]) else none) = _
    rw [if_pos fun x hx => all x (List.mem_cons_of_mem _ hx)]
theorem shift_lay {n c : Nat} {one : LN} (h1 : Lay n one) (hc : c < n) : Lay n (one.map fun s => (s + c) % n) := by
  have := touch_lay (tu_ok n) h1 hc
  rw [tu_touch h1 hc] at this
  exact this
end Rm
set_option maxHeartbeats 4000000
/-! the text by places; the data of the head -/
namespace Rs
open PySem PySem.Spec PyProof.Rows L2
def topS (i : Nat) : Stmt := PySem.Challenge.pw_restlesshelf_k82_whole_kinds.main.body.getD i (.Pass ⟨0, 0, 0, 0⟩)
abbrev s_is_number : Stmt := topS 10
abbrev s_need_number : Stmt := topS 11
abbrev s_is_permutation : Stmt := topS 12
abbrev s_need_habit : Stmt := topS 13
abbrev s_need_layout : Stmt := topS 14
abbrev s_need_shelf : Stmt := topS 15
abbrev s_behind_touch : Stmt := topS 16
abbrev s_behind_word : Stmt := topS 17
abbrev s_after : Stmt := topS 18
abbrev s_words_from : Stmt := topS 19
abbrev s_word_between : Stmt := topS 20
abbrev s_distance : Stmt := topS 21
abbrev s_front_habit : Stmt := topS 22
abbrev s_neighbour_habit : Stmt := topS 23
abbrev s_turning_habit : Stmt := topS 24
abbrev s_need_layouts : Stmt := topS 27
abbrev s_from_front : Stmt := topS 28
abbrev s_end_kept : Stmt := topS 29
abbrev s_kept_end : Stmt := topS 30
abbrev s_front_word : Stmt := topS 31
abbrev s_front_distance : Stmt := topS 32
abbrev s_neighbour_word : Stmt := topS 33
abbrev s_neighbour_distance : Stmt := topS 34
abbrev s_turning_word : Stmt := topS 35
abbrev s_law_taken : Stmt := topS 37
abbrev s_law_pick : Stmt := topS 38
abbrev s_law_alike : Stmt := topS 39
abbrev s_law_permutation : Stmt := topS 40
abbrev s_law_end : Stmt := topS 41
abbrev s_law_goes : Stmt := topS 42
abbrev s_law : Stmt := topS 43
def d_is_number : He.DefD := ⟨("is_number", none), "is_number", "is_number", defArgs s_is_number, defBody s_is_number, defScope s_is_number, [], []⟩
def d_need_number : He.DefD := ⟨("need_number", none), "need_number", "need_number", defArgs s_need_number, defBody s_need_number, defScope s_need_number, [], []⟩
def d_is_permutation : He.DefD := ⟨("is_permutation", none), "is_permutation", "is_permutation", defArgs s_is_permutation, defBody s_is_permutation, defScope s_is_permutation, [], []⟩
def d_need_habit : He.DefD := ⟨("need_habit", none), "need_habit", "need_habit", defArgs s_need_habit, defBody s_need_habit, defScope s_need_habit, [], []⟩
def d_need_layout : He.DefD := ⟨("need_layout", none), "need_layout", "need_layout", defArgs s_need_layout, defBody s_need_layout, defScope s_need_layout, [], []⟩
def d_need_shelf : He.DefD := ⟨("need_shelf", none), "need_shelf", "need_shelf", defArgs s_need_shelf, defBody s_need_shelf, defScope s_need_shelf, [], []⟩
def d_behind_touch : He.DefD := ⟨("behind_touch", none), "behind_touch", "behind_touch", defArgs s_behind_touch, defBody s_behind_touch, defScope s_behind_touch, [], []⟩
def d_behind_word : He.DefD := ⟨("behind_word", none), "behind_word", "behind_word", defArgs s_behind_word, defBody s_behind_word, defScope s_behind_word, [], []⟩
def d_after : He.DefD := ⟨("after", none), "after", "after", defArgs s_after, defBody s_after, defScope s_after, [], []⟩
def d_words_from : He.DefD := ⟨("words_from", none), "words_from", "words_from", defArgs s_words_from, defBody s_words_from, defScope s_words_from, [], []⟩
def d_word_between : He.DefD := ⟨("word_between", none), "word_between", "word_between", defArgs s_word_between, defBody s_word_between, defScope s_word_between, [], []⟩
def d_distance : He.DefD := ⟨("distance", none), "distance", "distance", defArgs s_distance, defBody s_distance, defScope s_distance, [], []⟩
def d_front_habit : He.DefD := ⟨("front_habit", none), "front_habit", "front_habit", defArgs s_front_habit, defBody s_front_habit, defScope s_front_habit, [], []⟩
def d_neighbour_habit : He.DefD := ⟨("neighbour_habit", none), "neighbour_habit", "neighbour_habit", defArgs s_neighbour_habit, defBody s_neighbour_habit, defScope s_neighbour_habit, [], []⟩
def d_turning_habit : He.DefD := ⟨("turning_habit", none), "turning_habit", "turning_habit", defArgs s_turning_habit, defBody s_turning_habit, defScope s_turning_habit, [], []⟩
def d_need_layouts : He.DefD := ⟨("need_layouts", none), "need_layouts", "need_layouts", defArgs s_need_layouts, defBody s_need_layouts, defScope s_need_layouts, [], []⟩
def d_from_front : He.DefD := ⟨("from_front", none), "from_front", "from_front", defArgs s_from_front, defBody s_from_front, defScope s_from_front, [], []⟩
def d_end_kept : He.DefD := ⟨("end_kept", none), "end_kept", "end_kept", defArgs s_end_kept, defBody s_end_kept, defScope s_end_kept, [], []⟩
def d_kept_end : He.DefD := ⟨("kept_end", none), "kept_end", "kept_end", defArgs s_kept_end, defBody s_kept_end, defScope s_kept_end, [], []⟩
def d_front_word : He.DefD := ⟨("front_word", none), "front_word", "front_word", defArgs s_front_word, defBody s_front_word, defScope s_front_word, [], []⟩
def d_front_distance : He.DefD := ⟨("front_distance", none), "front_distance", "front_distance", defArgs s_front_distance, defBody s_front_distance, defScope s_front_distance, [], []⟩
def d_neighbour_word : He.DefD := ⟨("neighbour_word", none), "neighbour_word", "neighbour_word", defArgs s_neighbour_word, defBody s_neighbour_word, defScope s_neighbour_word, [], []⟩
def d_neighbour_distance : He.DefD := ⟨("neighbour_distance", none), "neighbour_distance", "neighbour_distance", defArgs s_neighbour_distance, defBody s_neighbour_distance, defScope s_neighbour_distance, [], []⟩
def d_turning_word : He.DefD := ⟨("turning_word", none), "turning_word", "turning_word", defArgs s_turning_word, defBody s_turning_word, defScope s_turning_word, [], []⟩
def d_law_taken : He.DefD := ⟨("_law_taken", none), "_law_taken", "_law_taken", defArgs s_law_taken, defBody s_law_taken, defScope s_law_taken, [], []⟩
def d_law_pick : He.DefD := ⟨("_law_pick", none), "_law_pick", "_law_pick", defArgs s_law_pick, defBody s_law_pick, defScope s_law_pick, [], []⟩
def d_law_alike : He.DefD := ⟨("_law_alike", none), "_law_alike", "_law_alike", defArgs s_law_alike, defBody s_law_alike, defScope s_law_alike, [], []⟩
def d_law_permutation : He.DefD := ⟨("_law_permutation", none), "_law_permutation", "_law_permutation", defArgs s_law_permutation, defBody s_law_permutation, defScope s_law_permutation, [], []⟩
def d_law_end : He.DefD := ⟨("_law_end", none), "_law_end", "_law_end", defArgs s_law_end, defBody s_law_end, defScope s_law_end, [], []⟩
def d_law_goes : He.DefD := ⟨("_law_goes", none), "_law_goes", "_law_goes", defArgs s_law_goes, defBody s_law_goes, defScope s_law_goes, [], []⟩
def d_law : He.DefD := ⟨("law", none), "law", "law", defArgs s_law, defBody s_law, defScope s_law, [], []⟩
def fn1 : List He.DefD := [d_is_number, d_need_number, d_is_permutation, d_need_habit, d_need_layout, d_need_shelf, d_behind_touch, d_behind_word, d_after, d_words_from, d_word_between, d_distance, d_front_habit, d_neighbour_habit, d_turning_habit]
def fn2 : List He.DefD := [d_need_layouts, d_from_front, d_end_kept, d_kept_end, d_front_word, d_front_distance, d_neighbour_word, d_neighbour_distance, d_turning_word, d_law_taken, d_law_pick, d_law_alike, d_law_permutation, d_law_end, d_law_goes, d_law]
def fnA : List He.DefD := fn1 ++ fn2
def faG : List He.Fa := [.glo "is_number", .glo "need_number", .glo "is_permutation", .glo "need_habit", .glo "need_layout", .glo "need_shelf", .glo "behind_touch", .glo "behind_word", .glo "after", .glo "words_from", .glo "word_between", .glo "distance", .glo "front_habit", .glo "neighbour_habit", .glo "turning_habit", .glo "need_layouts", .glo "from_front", .glo "end_kept", .glo "kept_end", .glo "front_word", .glo "front_distance", .glo "neighbour_word", .glo "neighbour_distance", .glo "turning_word", .glo "_law_taken", .glo "_law_pick", .glo "_law_alike", .glo "_law_permutation", .glo "_law_end", .glo "_law_goes", .glo "law"]
def faB : List He.Fa := [.free "isinstance", .free "int", .free "bool", .free "tuple", .free "list", .free "len", .free "all", .free "set", .free "range", .free "enumerate", .free "sorted", .free "zip", .free "str"]
def faC : List He.Fa := [.int "LEAST_PLACES" 2, .int "MOST_PLACES_shelves" 5, .int "MOST_WORD" 400, .int "MOST_PLACES_kinds" 40, .glo "BadLayout", .exc "BadLayout", .exm "BadLayout" "BadLayout" true]
def faA : List He.Fa := faG ++ (faB ++ faC)
def tfA : List He.Defn := [("is_permutation", none), ("after", none), ("from_front", none), ("_law_end", none), ("_law_goes", none)]
def loose1 : List Str := ["ShelfError", "BadHabit", "BadLayout", "BadWord", "BadNumber", "LEAST_PLACES", "MOST_PLACES_shelves", "MOST_WORD", "MOST_PLACES_kinds", "is_number", "need_number", "is_permutation", "need_habit", "need_layout", "need_shelf", "behind_touch", "behind_word", "after", "words_from"]
def loose2 : List Str := ["word_between", "distance", "front_habit", "neighbour_habit", "turning_habit", "need_layouts", "from_front", "end_kept", "kept_end", "front_word", "front_distance", "neighbour_word", "neighbour_distance", "turning_word", "_law_taken", "_law_pick", "_law_alike", "_law_permutation", "_law_end", "_law_goes"]
def looseA : List Str := loose1 ++ loose2
abbrev RR : PySem.W.OpenRow := PySem.W.OpenLaw.row PySem.Challenge.rw_restlesshelf_k82_whole_kinds
def exA (K : PySem.W.Frag) : Bool := decide (tfA.map fun d => (He.cT K d).2).Nodup
abbrev hkA : PySem.W.Hook := He.hookX 4 faA fnA [] tfA exA
def obA (s : PySem.W.SharedT) : He.AlX := He.obsX 4 faA fnA [] tfA exA (HandSHeadRun.getT s)
theorem obA_eq (s : PySem.W.SharedT) : obA s = hkA.obs s.abs := He.obsX_eq (HandSHeadRun.getT_eq s)
end Rs
set_option maxHeartbeats 0
namespace Rs
open PySem PySem.Spec PyProof.Rows L2
theorem runA (w : World) : HandSHeadRun.RunEq RR (PySem.W.view RR.prog [43]) hkA obA 6000 looseA w := by
  intro os
  kernel_rfl
end Rs
set_option maxHeartbeats 4000000
/-! what the head leaves, as one structure -/
namespace Rs
open PySem PySem.Spec PyProof.Rows L2
/-- the function object of the module's def x -/
def fdO (K : PySem.W.Frag) (x : Str) : FuncData := match K.lookup (He.ga K x) with
  | some ⟨_, _, .func fd, _⟩ => fd
  | _ => PySem.W.fnOf x x (defArgs s_law) [] (defScope s_law) .none .none .none .none none .none .none
theorem fdO_eq {K : PySem.W.Frag} {x : Str} {oc : Value} {od : Option Addr} {fd : FuncData} {osl : Array (Option Value)} (h : K.lookup (He.ga K x) = some ⟨oc, od, .func fd, osl⟩) : fdO K x = fd := by
  unfold fdO
  rw [h]
abbrev FD (K : PySem.W.Frag) (x : Str) (st : Stmt) : Prop := FunD K x x (defArgs st) (defBody st) (defScope st) [] [] (He.ga K x) (fdO K x)
theorem fd_of {K : PySem.W.Frag} {x : Str} {st : Stmt} (h : ∃ fd, FunD K x x (defArgs st) (defBody st) (defScope st) [] [] (He.ga K x) fd) : FD K x st := by
  obtain ⟨fd, F⟩ := h
  obtain ⟨oc, od, dV, kV, doc, pm, an, cdv, ct, osl, _, lk, _⟩ := F.ex
  show FunD K x x (defArgs st) (defBody st) (defScope st) [] [] (He.ga K x) (fdO K x)
  rw [fdO_eq lk]
  exact F
/-- the table of the def x, its code object -/
def tbA (K : PySem.W.Frag) (x : Str) : Addr := (He.cT K (x, none)).2
def cdA (K : PySem.W.Frag) (x : Str) : Addr := (He.cT K (x, none)).1
structure Tx (K : PySem.W.Frag) (mg : Str → Option Value) : Prop where
  F_is_number : FD K "is_number" s_is_number
  F_need_number : FD K "need_number" s_need_number
  F_is_permutation : FD K "is_permutation" s_is_permutation
  F_need_habit : FD K "need_habit" s_need_habit
  F_need_layout : FD K "need_layout" s_need_layout
  F_need_shelf : FD K "need_shelf" s_need_shelf
  F_behind_touch : FD K "behind_touch" s_behind_touch
  F_behind_word : FD K "behind_word" s_behind_word
  F_after : FD K "after" s_after
  F_words_from : FD K "words_from" s_words_from
  F_word_between : FD K "word_between" s_word_between
  F_distance : FD K "distance" s_distance
  F_front_habit : FD K "front_habit" s_front_habit
  F_neighbour_habit : FD K "neighbour_habit" s_neighbour_habit
  F_turning_habit : FD K "turning_habit" s_turning_habit
  F_need_layouts : FD K "need_layouts" s_need_layouts
  F_from_front : FD K "from_front" s_from_front
  F_end_kept : FD K "end_kept" s_end_kept
  F_kept_end : FD K "kept_end" s_kept_end
  F_front_word : FD K "front_word" s_front_word
  F_front_distance : FD K "front_distance" s_front_distance
  F_neighbour_word : FD K "neighbour_word" s_neighbour_word
  F_neighbour_distance : FD K "neighbour_distance" s_neighbour_distance
  F_turning_word : FD K "turning_word" s_turning_word
  F_law_taken : FD K "_law_taken" s_law_taken
  F_law_pick : FD K "_law_pick" s_law_pick
  F_law_alike : FD K "_law_alike" s_law_alike
  F_law_permutation : FD K "_law_permutation" s_law_permutation
  F_law_end : FD K "_law_end" s_law_end
  F_law_goes : FD K "_law_goes" s_law_goes
  F_law : FD K "law" s_law
  g_is_number : mg "is_number" = some (.ref (He.ga K "is_number"))
  g_need_number : mg "need_number" = some (.ref (He.ga K "need_number"))
  g_is_permutation : mg "is_permutation" = some (.ref (He.ga K "is_permutation"))
  g_need_habit : mg "need_habit" = some (.ref (He.ga K "need_habit"))
  g_need_layout : mg "need_layout" = some (.ref (He.ga K "need_layout"))
  g_need_shelf : mg "need_shelf" = some (.ref (He.ga K "need_shelf"))
  g_behind_touch : mg "behind_touch" = some (.ref (He.ga K "behind_touch"))
  g_behind_word : mg "behind_word" = some (.ref (He.ga K "behind_word"))
  g_after : mg "after" = some (.ref (He.ga K "after"))
  g_words_from : mg "words_from" = some (.ref (He.ga K "words_from"))
  g_word_between : mg "word_between" = some (.ref (He.ga K "word_between"))
  g_distance : mg "distance" = some (.ref (He.ga K "distance"))
  g_front_habit : mg "front_habit" = some (.ref (He.ga K "front_habit"))
  g_neighbour_habit : mg "neighbour_habit" = some (.ref (He.ga K "neighbour_habit"))
  g_turning_habit : mg "turning_habit" = some (.ref (He.ga K "turning_habit"))
  g_need_layouts : mg "need_layouts" = some (.ref (He.ga K "need_layouts"))
  g_from_front : mg "from_front" = some (.ref (He.ga K "from_front"))
  g_end_kept : mg "end_kept" = some (.ref (He.ga K "end_kept"))
  g_kept_end : mg "kept_end" = some (.ref (He.ga K "kept_end"))
  g_front_word : mg "front_word" = some (.ref (He.ga K "front_word"))
  g_front_distance : mg "front_distance" = some (.ref (He.ga K "front_distance"))
  g_neighbour_word : mg "neighbour_word" = some (.ref (He.ga K "neighbour_word"))
  g_neighbour_distance : mg "neighbour_distance" = some (.ref (He.ga K "neighbour_distance"))
  g_turning_word : mg "turning_word" = some (.ref (He.ga K "turning_word"))
  g_law_taken : mg "_law_taken" = some (.ref (He.ga K "_law_taken"))
  g_law_pick : mg "_law_pick" = some (.ref (He.ga K "_law_pick"))
  g_law_alike : mg "_law_alike" = some (.ref (He.ga K "_law_alike"))
  g_law_permutation : mg "_law_permutation" = some (.ref (He.ga K "_law_permutation"))
  g_law_end : mg "_law_end" = some (.ref (He.ga K "_law_end"))
  g_law_goes : mg "_law_goes" = some (.ref (He.ga K "_law_goes"))
  g_law : mg "law" = some (.ref (He.ga K "law"))
  b_is_number : Binds K (fdO K "is_number") ["value", "low", "high"] []
  b_need_number : Binds K (fdO K "need_number") ["value", "low", "high"] []
  b_is_permutation : Binds K (fdO K "is_permutation") ["value", "many"] []
  b_need_habit : Binds K (fdO K "need_habit") ["value"] []
  b_need_layout : Binds K (fdO K "need_layout") ["habit", "value"] []
  b_need_shelf : Binds K (fdO K "need_shelf") ["habit", "layout"] []
  b_behind_touch : Binds K (fdO K "behind_touch") ["habit", "layout", "place"] []
  b_behind_word : Binds K (fdO K "behind_word") ["habit", "layout", "word"] []
  b_after : Binds K (fdO K "after") ["habit", "layout", "word"] []
  b_words_from : Binds K (fdO K "words_from") ["habit", "layout"] []
  b_word_between : Binds K (fdO K "word_between") ["habit", "one", "other"] []
  b_distance : Binds K (fdO K "distance") ["habit", "one", "other"] []
  b_front_habit : Binds K (fdO K "front_habit") ["places"] []
  b_neighbour_habit : Binds K (fdO K "neighbour_habit") ["places"] []
  b_turning_habit : Binds K (fdO K "turning_habit") ["places"] []
  b_need_layouts : Binds K (fdO K "need_layouts") ["one", "other"] []
  b_from_front : Binds K (fdO K "from_front") ["layout"] []
  b_end_kept : Binds K (fdO K "end_kept") ["one", "other"] []
  b_kept_end : Binds K (fdO K "kept_end") ["one", "other"] []
  b_front_word : Binds K (fdO K "front_word") ["one", "other"] []
  b_front_distance : Binds K (fdO K "front_distance") ["one", "other"] []
  b_neighbour_word : Binds K (fdO K "neighbour_word") ["one", "other"] []
  b_neighbour_distance : Binds K (fdO K "neighbour_distance") ["one", "other"] []
  b_turning_word : Binds K (fdO K "turning_word") ["one", "other"] []
  b_law_taken : Binds K (fdO K "_law_taken") ["_law_row", "_law_many"] []
  b_law_pick : Binds K (fdO K "_law_pick") ["_law_row", "_law_things"] []
  b_law_alike : Binds K (fdO K "_law_alike") ["_law_found", "_law_due"] []
  b_law_permutation : Binds K (fdO K "_law_permutation") ["_law_row", "_law_many"] []
  b_law_end : Binds K (fdO K "_law_end") ["_law_one", "_law_other"] []
  b_law_goes : Binds K (fdO K "_law_goes") ["_law_layout", "_law_word"] []
  b_law : Binds K (fdO K "law") ["_law_script"] []
  z_isinstance : mg "isinstance" = none
  z_int : mg "int" = none
  z_bool : mg "bool" = none
  z_tuple : mg "tuple" = none
  z_list : mg "list" = none
  z_len : mg "len" = none
  z_all : mg "all" = none
  z_set : mg "set" = none
  z_range : mg "range" = none
  z_enumerate : mg "enumerate" = none
  z_sorted : mg "sorted" = none
  z_zip : mg "zip" = none
  z_str : mg "str" = none
  i_LEAST_PLACES : ∃ t, mg "LEAST_PLACES" = some (.int 2 t)
  i_MOST_PLACES_shelves : ∃ t, mg "MOST_PLACES_shelves" = some (.int 5 t)
  i_MOST_WORD : ∃ t, mg "MOST_WORD" = some (.int 400 t)
  i_MOST_PLACES_kinds : ∃ t, mg "MOST_PLACES_kinds" = some (.int 40 t)
  gBL : mg "BadLayout" = some (.ref (He.ga K "BadLayout"))
  xBL : PySem.W.excIn K (He.ga K "BadLayout") He.veBase "ValueError.__new__" = true
  kBL : PySem.W.keepIn K (.ref (He.ga K "BadLayout")) = true
  sBL : PySem.W.subIn K (.ref (He.ga K "BadLayout")) (.type "BaseException") = some true
  tBL : PySem.W.typeIn K (.ref (He.ga K "BadLayout")) = some (.type "type")
  eBL : PySem.W.exmOne K (.ref (He.ga K "BadLayout")) (.ref (He.ga K "BadLayout")) = some true
  apart : [tbA K "is_permutation", tbA K "after", tbA K "from_front", tbA K "_law_end", tbA K "_law_goes"].Nodup
theorem tx_of {K : PySem.W.Frag} {mg : Str → Option Value} {h : Heap} (X : K.In h) (G : h.Ns mainGlobals mg) (c : He.SaysD faA fnA K) (ap : [tbA K "is_permutation", tbA K "after", tbA K "from_front", tbA K "_law_end", tbA K "_law_goes"].Nodup) : Tx K mg :=
  have nox := c.fact 49 (f := .exc "BadLayout") rfl
  have f0 : FD K "is_number" s_is_number := fd_of (c.def_ 0 (d := d_is_number) rfl)
  have f1 : FD K "need_number" s_need_number := fd_of (c.def_ 1 (d := d_need_number) rfl)
  have f2 : FD K "is_permutation" s_is_permutation := fd_of (c.def_ 2 (d := d_is_permutation) rfl)
  have f3 : FD K "need_habit" s_need_habit := fd_of (c.def_ 3 (d := d_need_habit) rfl)
  have f4 : FD K "need_layout" s_need_layout := fd_of (c.def_ 4 (d := d_need_layout) rfl)
  have f5 : FD K "need_shelf" s_need_shelf := fd_of (c.def_ 5 (d := d_need_shelf) rfl)
  have f6 : FD K "behind_touch" s_behind_touch := fd_of (c.def_ 6 (d := d_behind_touch) rfl)
  have f7 : FD K "behind_word" s_behind_word := fd_of (c.def_ 7 (d := d_behind_word) rfl)
  have f8 : FD K "after" s_after := fd_of (c.def_ 8 (d := d_after) rfl)
  have f9 : FD K "words_from" s_words_from := fd_of (c.def_ 9 (d := d_words_from) rfl)
  have f10 : FD K "word_between" s_word_between := fd_of (c.def_ 10 (d := d_word_between) rfl)
  have f11 : FD K "distance" s_distance := fd_of (c.def_ 11 (d := d_distance) rfl)
  have f12 : FD K "front_habit" s_front_habit := fd_of (c.def_ 12 (d := d_front_habit) rfl)
  have f13 : FD K "neighbour_habit" s_neighbour_habit := fd_of (c.def_ 13 (d := d_neighbour_habit) rfl)
  have f14 : FD K "turning_habit" s_turning_habit := fd_of (c.def_ 14 (d := d_turning_habit) rfl)
  have f15 : FD K "need_layouts" s_need_layouts := fd_of (c.def_ 15 (d := d_need_layouts) rfl)
  have f16 : FD K "from_front" s_from_front := fd_of (c.def_ 16 (d := d_from_front) rfl)
  have f17 : FD K "end_kept" s_end_kept := fd_of (c.def_ 17 (d := d_end_kept) rfl)
  have f18 : FD K "kept_end" s_kept_end := fd_of (c.def_ 18 (d := d_kept_end) rfl)
  have f19 : FD K "front_word" s_front_word := fd_of (c.def_ 19 (d := d_front_word) rfl)
  have f20 : FD K "front_distance" s_front_distance := fd_of (c.def_ 20 (d := d_front_distance) rfl)
  have f21 : FD K "neighbour_word" s_neighbour_word := fd_of (c.def_ 21 (d := d_neighbour_word) rfl)
  have f22 : FD K "neighbour_distance" s_neighbour_distance := fd_of (c.def_ 22 (d := d_neighbour_distance) rfl)
  have f23 : FD K "turning_word" s_turning_word := fd_of (c.def_ 23 (d := d_turning_word) rfl)
  have f24 : FD K "_law_taken" s_law_taken := fd_of (c.def_ 24 (d := d_law_taken) rfl)
  have f25 : FD K "_law_pick" s_law_pick := fd_of (c.def_ 25 (d := d_law_pick) rfl)
  have f26 : FD K "_law_alike" s_law_alike := fd_of (c.def_ 26 (d := d_law_alike) rfl)
  have f27 : FD K "_law_permutation" s_law_permutation := fd_of (c.def_ 27 (d := d_law_permutation) rfl)
  have f28 : FD K "_law_end" s_law_end := fd_of (c.def_ 28 (d := d_law_end) rfl)
  have f29 : FD K "_law_goes" s_law_goes := fd_of (c.def_ 29 (d := d_law_goes) rfl)
  have f30 : FD K "law" s_law := fd_of (c.def_ 30 (d := d_law) rfl)
  {
    F_is_number := f0
    g_is_number := He.glo_ok X G (c.fact 0 (f := .glo "is_number") rfl)
    b_is_number := (f0).bindsN fun _ _ _ _ _ _ us hl => match us, hl with | [_, _, _], _ => rfl
    F_need_number := f1
    g_need_number := He.glo_ok X G (c.fact 1 (f := .glo "need_number") rfl)
    b_need_number := (f1).bindsN fun _ _ _ _ _ _ us hl => match us, hl with | [_, _, _], _ => rfl
    F_is_permutation := f2
    g_is_permutation := He.glo_ok X G (c.fact 2 (f := .glo "is_permutation") rfl)
    b_is_permutation := (f2).bindsN fun _ _ _ _ _ _ us hl => match us, hl with | [_, _], _ => rfl
    F_need_habit := f3
    g_need_habit := He.glo_ok X G (c.fact 3 (f := .glo "need_habit") rfl)
    b_need_habit := (f3).bindsN fun _ _ _ _ _ _ us hl => match us, hl with | [_], _ => rfl
    F_need_layout := f4
    g_need_layout := He.glo_ok X G (c.fact 4 (f := .glo "need_layout") rfl)
    b_need_layout := (f4).bindsN fun _ _ _ _ _ _ us hl => match us, hl with | [_, _], _ => rfl
    F_need_shelf := f5
    g_need_shelf := He.glo_ok X G (c.fact 5 (f := .glo "need_shelf") rfl)
    b_need_shelf := (f5).bindsN fun _ _ _ _ _ _ us hl => match us, hl with | [_, _], _ => rfl
    F_behind_touch := f6
    g_behind_touch := He.glo_ok X G (c.fact 6 (f := .glo "behind_touch") rfl)
    b_behind_touch := (f6).bindsN fun _ _ _ _ _ _ us hl => match us, hl with | [_, _, _], _ => rfl
    F_behind_word := f7
    g_behind_word := He.glo_ok X G (c.fact 7 (f := .glo "behind_word") rfl)
    b_behind_word := (f7).bindsN fun _ _ _ _ _ _ us hl => match us, hl with | [_, _, _], _ => rfl
    F_after := f8
    g_after := He.glo_ok X G (c.fact 8 (f := .glo "after") rfl)
    b_after := (f8).bindsN fun _ _ _ _ _ _ us hl => match us, hl with | [_, _, _], _ => rfl
    F_words_from := f9
    g_words_from := He.glo_ok X G (c.fact 9 (f := .glo "words_from") rfl)
    b_words_from := (f9).bindsN fun _ _ _ _ _ _ us hl => match us, hl with | [_, _], _ => rfl
    F_word_between := f10
    g_word_between := He.glo_ok X G (c.fact 10 (f := .glo "word_between") rfl)
    b_word_between := (f10).bindsN fun _ _ _ _ _ _ us hl => match us, hl with | [_, _, _], _ => rfl
    F_distance := f11
    g_distance := He.glo_ok X G (c.fact 11 (f := .glo "distance") rfl)
    b_distance := (f11).bindsN fun _ _ _ _ _ _ us hl => match us, hl with | [_, _, _], _ => rfl
    F_front_habit := f12
    g_front_habit := He.glo_ok X G (c.fact 12 (f := .glo "front_habit") rfl)
    b_front_habit := (f12).bindsN fun _ _ _ _ _ _ us hl => match us, hl with | [_], _ => rfl
    F_neighbour_habit := f13
    g_neighbour_habit := He.glo_ok X G (c.fact 13 (f := .glo "neighbour_habit") rfl)
    b_neighbour_habit := (f13).bindsN fun _ _ _ _ _ _ us hl => match us, hl with | [_], _ => rfl
    F_turning_habit := f14
    g_turning_habit := He.glo_ok X G (c.fact 14 (f := .glo "turning_habit") rfl)
    b_turning_habit := (f14).bindsN fun _ _ _ _ _ _ us hl => match us, hl with | [_], _ => rfl
    F_need_layouts := f15
    g_need_layouts := He.glo_ok X G (c.fact 15 (f := .glo "need_layouts") rfl)
    b_need_layouts := (f15).bindsN fun _ _ _ _ _ _ us hl => match us, hl with | [_, _], _ => rfl
    F_from_front := f16
    g_from_front := He.glo_ok X G (c.fact 16 (f := .glo "from_front") rfl)
    b_from_front := (f16).bindsN fun _ _ _ _ _ _ us hl => match us, hl with | [_], _ => rfl
    F_end_kept := f17
    g_end_kept := He.glo_ok X G (c.fact 17 (f := .glo "end_kept") rfl)
    b_end_kept := (f17).bindsN fun _ _ _ _ _ _ us hl => match us, hl with | [_, _], _ => rfl
    F_kept_end := f18
    g_kept_end := He.glo_ok X G (c.fact 18 (f := .glo "kept_end") rfl)
    b_kept_end := (f18).bindsN fun _ _ _ _ _ _ us hl => match us, hl with | [_, _], _ => rfl
    F_front_word := f19
    g_front_word := He.glo_ok X G (c.fact 19 (f := .glo "front_word") rfl)
    b_front_word := (f19).bindsN fun _ _ _ _ _ _ us hl => match us, hl with | [_, _], _ => rfl
    F_front_distance := f20
    g_front_distance := He.glo_ok X G (c.fact 20 (f := .glo "front_distance") rfl)
    b_front_distance := (f20).bindsN fun _ _ _ _ _ _ us hl => match us, hl with | [_, _], _ => rfl
    F_neighbour_word := f21
    g_neighbour_word := He.glo_ok X G (c.fact 21 (f := .glo "neighbour_word") rfl)
    b_neighbour_word := (f21).bindsN fun _ _ _ _ _ _ us hl => match us, hl with | [_, _], _ => rfl
    F_neighbour_distance := f22
    g_neighbour_distance := He.glo_ok X G (c.fact 22 (f := .glo "neighbour_distance") rfl)
    b_neighbour_distance := (f22).bindsN fun _ _ _ _ _ _ us hl => match us, hl with | [_, _], _ => rfl
    F_turning_word := f23
    g_turning_word := He.glo_ok X G (c.fact 23 (f := .glo "turning_word") rfl)
    b_turning_word := (f23).bindsN fun _ _ _ _ _ _ us hl => match us, hl with | [_, _], _ => rfl
    F_law_taken := f24
    g_law_taken := He.glo_ok X G (c.fact 24 (f := .glo "_law_taken") rfl)
    b_law_taken := (f24).bindsN fun _ _ _ _ _ _ us hl => match us, hl with | [_, _], _ => rfl
    F_law_pick := f25
    g_law_pick := He.glo_ok X G (c.fact 25 (f := .glo "_law_pick") rfl)
    b_law_pick := (f25).bindsN fun _ _ _ _ _ _ us hl => match us, hl with | [_, _], _ => rfl
    F_law_alike := f26
    g_law_alike := He.glo_ok X G (c.fact 26 (f := .glo "_law_alike") rfl)
    b_law_alike := (f26).bindsN fun _ _ _ _ _ _ us hl => match us, hl with | [_, _], _ => rfl
    F_law_permutation := f27
    g_law_permutation := He.glo_ok X G (c.fact 27 (f := .glo "_law_permutation") rfl)
    b_law_permutation := (f27).bindsN fun _ _ _ _ _ _ us hl => match us, hl with | [_, _], _ => rfl
    F_law_end := f28
    g_law_end := He.glo_ok X G (c.fact 28 (f := .glo "_law_end") rfl)
    b_law_end := (f28).bindsN fun _ _ _ _ _ _ us hl => match us, hl with | [_, _], _ => rfl
    F_law_goes := f29
    g_law_goes := He.glo_ok X G (c.fact 29 (f := .glo "_law_goes") rfl)
    b_law_goes := (f29).bindsN fun _ _ _ _ _ _ us hl => match us, hl with | [_, _], _ => rfl
    F_law := f30
    g_law := He.glo_ok X G (c.fact 30 (f := .glo "law") rfl)
    b_law := (f30).bindsN fun _ _ _ _ _ _ us hl => match us, hl with | [_], _ => rfl
    z_isinstance := He.free_ok X G (c.fact 31 (f := .free "isinstance") rfl)
    z_int := He.free_ok X G (c.fact 32 (f := .free "int") rfl)
    z_bool := He.free_ok X G (c.fact 33 (f := .free "bool") rfl)
    z_tuple := He.free_ok X G (c.fact 34 (f := .free "tuple") rfl)
    z_list := He.free_ok X G (c.fact 35 (f := .free "list") rfl)
    z_len := He.free_ok X G (c.fact 36 (f := .free "len") rfl)
    z_all := He.free_ok X G (c.fact 37 (f := .free "all") rfl)
    z_set := He.free_ok X G (c.fact 38 (f := .free "set") rfl)
    z_range := He.free_ok X G (c.fact 39 (f := .free "range") rfl)
    z_enumerate := He.free_ok X G (c.fact 40 (f := .free "enumerate") rfl)
    z_sorted := He.free_ok X G (c.fact 41 (f := .free "sorted") rfl)
    z_zip := He.free_ok X G (c.fact 42 (f := .free "zip") rfl)
    z_str := He.free_ok X G (c.fact 43 (f := .free "str") rfl)
    i_LEAST_PLACES := He.int_ok X G (c.fact 44 (f := .int "LEAST_PLACES" 2) rfl)
    i_MOST_PLACES_shelves := He.int_ok X G (c.fact 45 (f := .int "MOST_PLACES_shelves" 5) rfl)
    i_MOST_WORD := He.int_ok X G (c.fact 46 (f := .int "MOST_WORD" 400) rfl)
    i_MOST_PLACES_kinds := He.int_ok X G (c.fact 47 (f := .int "MOST_PLACES_kinds" 40) rfl)
    gBL := He.glo_ok X G (c.fact 48 (f := .glo "BadLayout") rfl)
    xBL := (He.exc_ok nox).1
    kBL := (He.exc_ok nox).2.1
    sBL := (He.exc_ok nox).2.2.1
    tBL := (He.exc_ok nox).2.2.2
    eBL := He.exm_ok (c.fact 50 (f := .exm "BadLayout" "BadLayout" true) rfl)
    apart := ap }
end Rs
set_option maxHeartbeats 4000000
/-! is_number, by the model's own rules: it keeps every object -/
namespace Rs
open PySem PySem.Spec PyProof.Rows L2
/-- what a heap holds of the head -/
structure RawH (K : PySem.W.Frag) (mg : Str → Option Value) (h : Heap) : Prop where
  kin : K.In h
  glob : h.Ns mainGlobals mg
  blt : ∃ mb, h.Ns builtinsNs mb ∧ ∀ x : Str, x ≠ "__name__" → mb x = bootBuiltins x
  lim : h.NoLimit
theorem RawH.keeps {K : PySem.W.Frag} {mg : Str → Option Value} {h h' : Heap} (r : RawH K mg h) (k : ∀ b o, h.get? b = some o → h'.get? b = some o) : RawH K mg h' := by
  obtain ⟨mb, h1, h2⟩ := r.blt
  exact ⟨r.kin.keeps k, r.glob.keeps k, ⟨mb, h1.keeps k, h2⟩, r.lim.keeps k⟩
theorem RawH.of {X : Cx} {pins : List (Addr × Obj)} {σ : L2.St} {H : Hp} {s : Shared} (I : Inv X pins σ H s) : RawH X.K X.mg s.heap := by
  obtain ⟨mb, h1, h2⟩ := I.mod.blt
  exact ⟨I.kIn, I.mod.glob.keeps I.bk, ⟨mb, h1.keeps I.bk, h2⟩, I.nolimit⟩
theorem keepsT (s : Shared) (k : Nat) : Keeps s { s with toks := k } := ⟨s.heap, k, rfl, fun _ _ e => e⟩
theorem keeps_trans {s s' s'' : Shared} (a : Keeps s s') (b : Keeps s' s'') : Keeps s s'' := by
  obtain ⟨h1, t1, rfl, k1⟩ := a
  obtain ⟨h2, t2, rfl, k2⟩ := b
  exact ⟨h2, t2, rfl, fun x o e => k2 x o (k1 x o e)⟩
section
variable {P : Program} {w : World} {K : PySem.W.Frag} {mg : Str → Option Value}
theorem kit_int_int : PySem.W.kitOne K (.type "int") (.type "int") = some true := by rfl
theorem kit_int_bool : PySem.W.kitOne K (.type "int") (.type "bool") = some false := by rfl
/-- between low and high -/
abbrev btw (i lo hi : Int) : Bool := decide (lo ≤ i) && decide (i ≤ hi)
theorem isnum_body (T : Tx K mg) {A : Around} {E : Value → Shared → Prop} {env : Env} {s : Shared} {m : Str → Option Value} {i lo hi : Int} {t1 t2 t3 : Tok} (R : RawH K mg s.heap)
    (hsc : env.scope = defScope s_is_number) (hg : env.globals = mainGlobals) (hb : env.builtins = builtinsNs) (hn : s.heap.Ns env.locals m)
    (h1 : m "value" = some (.int i t1)) (h2 : m "low" = some (.int lo t2)) (h3 : m "high" = some (.int hi t3)) :
    wpAny (model P w) A (execs (defBody s_is_number) env) (fun f s' => f = .ret (.bool (btw i lo hi)) ∧ Keeps s s') E s := by
  have hk : env.scope.kind = .function := by rw [hsc]; rfl
  have kl : ∀ x : Str, (defScope s_is_number).names.lookup x = some .local → env.kindOf x = some .local := fun x e => by
    show env.scope.names.lookup x = _
    rw [hsc]; exact e
  have kg : ∀ x : Str, (defScope s_is_number).names.lookup x = some .globalImplicit → env.kindOf x = some .globalImplicit := fun x e => by
    show env.scope.names.lookup x = _
    rw [hsc]; exact e
  obtain ⟨mb, hb1, hb2⟩ := R.blt
  have blt : ∀ {x : Str} {pos : Pos} {u : Value} {tk : Nat} {Q : Value → Shared → Prop} (hx : (defScope s_is_number).names.lookup x = some .globalImplicit) (hm : mg x = none) (hv : bootBuiltins x = some u) (hn : x ≠ "__name__") (hd : (x == ("__debug__" : Str)) = false)
      (q : Q u { s with toks := tk }), wpAny (model P w) A (eval (.Name x pos) env) Q E { s with toks := tk } := fun {x pos u tk Q} hx hm hv hn hd q =>
    Calls.Name_function_global hk (kg x hx) (Calls.loadGlobal_builtin (by rw [hg]; exact R.glob) hm (by rw [hb]; exact hb1) ((hb2 x hn).trans hv) q) hd
  have loc : ∀ {x : Str} {pos : Pos} {u : Value} {tk : Nat} {Q : Value → Shared → Prop} (hx : (defScope s_is_number).names.lookup x = some .local) (hm : m x = some u) (hd : (x == ("__debug__" : Str)) = false)
      (q : Q u { s with toks := tk }), wpAny (model P w) A (eval (.Name x pos) env) Q E { s with toks := tk } := fun {x pos u tk Q} hx hm hd q =>
    wpAny_Name (wpAny_loadName_local hk (kl x hx) hn hm q) hd
  refine wpAny_execs_cons (wpAny_mono (Q := fun f s' => f = .ret (.bool (btw i lo hi)) ∧ Keeps s s') (wpAny_Return_some ?_) (fun f s' ⟨e, k⟩ => by subst e; exact ⟨rfl, k⟩) fun _ _ e => e)
  refine BoolOp_and ?_
  -- isinstance(value, int)
  refine wpAny_Call_Name_kw (blt (tk := s.toks) rfl T.z_isinstance boot_isinstance (by decide) (by decide) ?_)
  refine PyProof.Rows.callWith_builtin1 (Calls.spliced_cons (loc (tk := s.toks) rfl h1 (by decide) (Calls.spliced_cons (blt (tk := s.toks) rfl T.z_int boot_int (by decide) (by decide) (Calls.spliced_nil ?_))))) (by rfl) (by rfl)
  refine PySem.W.kia_one PySem.W.kitx_int R.kin True.intro kit_int_int (fun z => nomatch z) fun tk => ?_
  refine wpAny_truthy_bool ?_
  show wpAny _ _ (eval (.BoolOp .And _ _) env) _ _ _
  refine BoolOp_and ?_
  -- not isinstance(value, bool)
  refine UnaryOp_ ?_
  refine wpAny_Call_Name_kw (blt (tk := tk) rfl T.z_isinstance boot_isinstance (by decide) (by decide) ?_)
  refine PyProof.Rows.callWith_builtin1 (Calls.spliced_cons (loc (tk := tk) rfl h1 (by decide) (Calls.spliced_cons (blt (tk := tk) rfl T.z_bool boot_bool (by decide) (by decide) (Calls.spliced_nil ?_))))) (by rfl) (by rfl)
  refine PySem.W.kia_one PySem.W.kitx_int R.kin True.intro kit_int_bool (fun z => nomatch z) fun tk2 => ?_
  refine not_of (wpAny_truthy_bool ?_)
  refine wpAny_truthy_bool ?_
  show wpAny _ _ (eval (.BoolOp .And _ _) env) _ _ _
  refine BoolOp_one ?_
  -- low <= value <= high
  refine Compare_chain (loc (tk := tk2) rfl h2 (by decide) (chain_link (loc (tk := tk2) rfl h1 (by decide) (le_int ?_)))) (by with_unfolding_all rfl)
  refine wpAny_truthy_bool ?_
  by_cases c : lo ≤ i
  · rw [decide_eq_true c, if_pos rfl]
    refine chain_last (loc (tk := tk2) rfl h3 (by decide) (le_int ⟨?_, keepsT _ _⟩))
    show Flow.ret (.bool (decide (i ≤ hi))) = .ret (.bool (btw i lo hi))
    unfold btw
    rw [decide_eq_true c, Bool.true_and]
  · rw [decide_eq_false c, if_neg Bool.false_ne_true]
    refine ⟨?_, keepsT _ _⟩
    unfold btw
    rw [decide_eq_false c, Bool.false_and]
theorem isnum_call (T : Tx K mg) {A : Around} {s : Shared} {i lo hi : Int} {t1 t2 t3 : Tok} {args : Args} (hroom : A.depth < recursionLimit) (R : RawH K mg s.heap)
    (hb : BindsTo s (fdO K "is_number") args ((["value", "low", "high"] : List Str).zip [.int i t1, .int lo t2, .int hi t3])) :
    codeAny (model P w) A (.call (.ref (He.ga K "is_number")) args) (fun r s' => r = .ok (.ret (.bool (btw i lo hi))) ∧ Keeps s s') s := by
  obtain ⟨oc, od, dV, kV, doc, pm, an, cdv, ct, osl, efd, lk, hcd, _, _⟩ := T.F_is_number.ex
  rw [efd] at lk hb
  have hk : (defScope s_is_number).kind = .function := rfl
  have hkind : ∀ y ∈ (["value", "low", "high"] : List Str).zip [Value.int i t1, .int lo t2, .int hi t3], (defScope s_is_number).names.lookup y.1 = some .local ∨ ((defScope s_is_number).names.lookup y.1 = some .cell ∧ ((cellsFrom (s.heap.objs.size + 1) (defScope s_is_number).names []).lookup y.1).isSome = true) := by
    intro y hy
    rcases List.mem_cons.mp hy with e | hy
    · rw [e]; exact .inl rfl
    · rcases List.mem_cons.mp hy with e | hy
      · rw [e]; exact .inl rfl
      · rcases List.mem_cons.mp hy with e | hy
        · rw [e]; exact .inl rfl
        · cases hy
  refine codeAny_call_function hroom (R.kin _ _ lk) rfl rfl rfl rfl (PySem.W.codeRec_of R.kin hcd) (hb _ _ _ _ ?_)
  refine wpAny_newFunctionEnv_cells hk hkind fun env he s1 x => ?_
  subst he
  have kp := x.toInCall.keep
  refine ⟨R.lim.keeps kp, codeAny_func ?_⟩
  obtain ⟨h1, tk, rfl, hk1⟩ := x.done
  refine wpAny_mono (isnum_body (i := i) (lo := lo) (hi := hi) (t1 := t1) (t2 := t2) (t3 := t3) T (R.keeps kp) rfl rfl rfl x.toInCall.ns ?_ ?_ ?_) (fun f s' ⟨e, k⟩ => ?_) (fun _ _ z => z)
  · rfl
  · rfl
  · rfl
  · subst e
    exact ⟨rfl, keeps_trans ⟨h1, tk, rfl, hk1⟩ k⟩
/-- as a promise -/
def spNum : Sp := fun vs H Q _ => ∃ i lo hi : Int, vs = [.int i, .int lo, .int hi] ∧ Q (.bl (btw i lo hi)) H
theorem vals3 {x y z : V} {us : List Value} (r : Vals [x, y, z] us) : ∃ u v w', us = [u, v, w'] ∧ RelV x u ∧ RelV y v ∧ RelV z w' := by
  cases r with
  | cons r1 r2 =>
    obtain ⟨v, w', rfl, a, b⟩ := vals2 r2
    exact ⟨_, v, w', rfl, r1, a, b⟩
theorem ok_number {base : Heap} (T : Tx K mg) : FnOk P w K mg base CX0 0 (He.ga K "is_number") (fdO K "is_number") ["value", "low", "high"] spNum := by
  refine ⟨fun vs H Q E h => ?_, fun A outer s H args us vs Q E hr e0 hb r h => ?_⟩
  · obtain ⟨i, lo, hi, rfl, _⟩ := h
    rfl
  · obtain ⟨i, lo, hi, rfl, q⟩ := h
    obtain ⟨u1, u2, u3, rfl, ⟨t1, rfl⟩, ⟨t2, rfl⟩, ⟨t3, rfl⟩⟩ := vals3 r
    have kb : ∀ b o, base.get? b = some o → s.heap.get? b = some o := fun b o e => (e0.bs b o e).1
    obtain ⟨mb, h1, h2⟩ := e0.mod.blt
    have R : RawH K mg s.heap := ⟨e0.mod.kin.keeps kb, e0.mod.glob.keeps kb, ⟨mb, h1.keeps kb, h2⟩, e0.mod.nolimit.keeps kb⟩
    refine codeAny_mono (isnum_call T hr.depth R hb) fun r s' hq => ?_
    obtain ⟨rfl, h', tk, rfl, kp⟩ := hq
    exact ⟨.bl _, H, rfl, e0.bare, Un.kept kp, e0.hok.kept kp, rfl, q⟩
end
end Rs
set_option maxHeartbeats 4000000
/-! all(f(x, ..) for x in a tuple of ints) -/
namespace Rs
open PySem PySem.Spec PyProof.Rows L2 GxR
/-- the element, at the item i: what it answers; R tells the answers from the slots -/
def EltG (X : Cx) (P : Addr) (scope : Scope) (x : Str) (elt : Expr) (R : (Int → Bool) → L2.St → Hp → Prop) : Prop :=
  ∀ (pins : List (Addr × Obj)) (s1 : Shared) (σ : L2.St) (H1 : Hp) (pb : Int → Bool), Inv X pins σ H1 s1 → R pb σ H1 →
    ∀ (cenv : Env) (A' : Around) (E' : Value → Shared → Prop) (i : Int) (t : Tok) (s₂ : Shared) (m₂ : Str → Option Value), cenv.scope = scope → cenv.globals = X.env.globals → cenv.builtins = builtinsNs →
      cenv.cells = cloFrom X.env.cells scope.names [] → A'.handled = none → A'.depth ≤ X.A.depth + 1 → RawH X.K X.mg s₂.heap → (∀ b o, b ≠ P → s1.heap.get? b = some o → s₂.heap.get? b = some o) →
      s₂.heap.Ns cenv.locals m₂ → m₂ x = some (.int i t) → wpAny (model X.prog X.w) A' (eval elt cenv) (fun y s₃ => y = .bool (pb i) ∧ Keeps s₂ s₃) E' s₂
/-- the answer at place j -/
def tgF (pb : Int → Bool) (l : List Int) (j : Nat) : Bool := match l[j]? with
  | some b => pb b
  | none => false
theorem tgF_some {pb : Int → Bool} {l : List Int} {j : Nat} {b : Int} (h : l[j]? = some b) : tgF pb l j = pb b := by
  unfold tgF; rw [h]
theorem all_tgF (l : List Int) (pb : Int → Bool) : (List.range l.length).all (tgF pb l) = l.all pb := by
  rw [Bool.eq_iff_iff, List.all_eq_true, List.all_eq_true]
  constructor
  · intro h b hb
    obtain ⟨j, hj, e⟩ := List.getElem_of_mem hb
    have q := h j (List.mem_range.mpr hj)
    rw [tgF_some (List.getElem?_eq_getElem hj), e] at q
    exact q
  · intro h j hj
    have hj' := List.mem_range.mp hj
    rw [tgF_some (List.getElem?_eq_getElem hj')]
    exact h _ (List.getElem_mem hj')
section
variable {X : Cx} {pins : List (Addr × Obj)} {σ : L2.St} {H : Hp} {s : Shared}
/-- the generator over the ints ns, ready -/
def ReadyT (X : Cx) (pins : List (Addr × Obj)) (σ : L2.St) (H1 : Hp) (P : Addr) (ns : List Int) (pb : Int → Bool) (g : Addr) (s5 : Shared) : Prop :=
  ∃ (fp wr : List Addr) (G : Array GenState → Array GenState → Prop) (F : Nat → Value → Prop) (St : Nat → Shared → Prop),
    WalksS X.prog X.w X.A.in1 g fp wr G ns.length F St ∧ St 0 s5 ∧ TruthOf X.prog X.w X.A.in1 F (tgF pb ns) ∧ ∀ s', Moved wr G s5 s' → ∃ H2, Tabbed P H1 H2 ∧ Inv X pins σ H2 s'
theorem ints_at {ns : List Int} : ∀ {its : List Value}, Vals (ns.map V.int) its → ∀ {i : Nat} {v : Value}, its[i]? = some v → ∃ n t, ns[i]? = some n ∧ v = .int n t := by
  intro its r i v hv
  have hl := r.length
  rw [List.length_map] at hl
  have hi : i < its.length := (List.getElem?_eq_some_iff.mp hv).1
  have hn : ns[i]? = some ns[i] := List.getElem?_eq_getElem (by omega)
  obtain ⟨u, hu, ru⟩ := Vals.get (i := i) (x := V.int ns[i]) r (by rw [List.getElem?_map, hn]; rfl)
  rw [hv] at hu
  cases hu
  obtain ⟨t, e⟩ := ru
  exact ⟨_, t, hn, e⟩
theorem gen_tup {c P : Addr} {elt iter : Expr} {x : Str} {px gpos : Pos} {scope : Scope} {Rb : (Int → Bool) → L2.St → Hp → Prop} {te : TE} {k : Nat} {Q' : Value → Shared → Prop} {R : (Int → Bool) → List Int → Hp → Prop}
    (hr : Room k X.A) (TB : GxR.TabB X.base X.mg c P) (hcode : X.env.code = .ref c) (S : GenS X.env scope x) (hi : PE X iter te) (hel : EltG X P scope x elt Rb)
    (hs : ∀ v, genFold iter X.env v = pure v) (I : Inv X pins σ H s) (h : te σ H fun v H1 => ∃ (a : Addr) (ns : List Int) (pb : Int → Bool), v = .ref a ∧ SqT X.K H1 a (ns.map V.int) ∧ Rb pb σ H1 ∧ TabG H1 P ∧ R pb ns H1)
    (hQ : ∀ pb ns H1 g s5, R pb ns H1 → ReadyT X pins σ H1 P ns pb g s5 → Q' (.ref g) s5) :
    wpAny (model X.prog X.w) X.A (eval (.GeneratorExp elt [⟨.Name x px, iter, [], 0⟩] scope gpos) X.env) Q' X.xe s := by
  refine wpAny_GeneratorExp_walksQD hr.hd S.co (closure_ok S.free) S.cell S.dot S.loc S.kind (by have := hr.dp; omega) ?_ hs
  refine thn (hi.run pins s σ H _ I h) fun xv s1 ⟨v, H1, I1, r1, q1⟩ => ?_
  obtain ⟨a, ns, pb, rfl, hT, hRb, ⟨ps, hP, ht⟩, q1⟩ := q1
  obtain rfl : xv = Value.ref a := r1
  obtain ⟨its, rv, htup, hz⟩ := I1.tuple hT
  have hlen := rv.length
  rw [List.length_map] at hlen
  have htup2 : s1.heap.IsTuple a its.toArray := htup
  refine wpAny_pyIter_tuple htup2 ?_
  generalize ho : ({ cls := .type "tuple_iterator", data := .fields #[.ref a, .int 0 0] } : Obj) = o
  have hPs : s1.heap.get? P = some { cls := .none, data := .fields ps } := I1.hok P _ hP
  have hPlt : P < s1.heap.objs.size := Heap.lt_size hPs
  have hP2 : (s1.heap.push o).get? P = some { cls := .none, data := .fields ps } := Heap.get?_push_of_some _ hPs
  have cd : PySem.W.CodeHd (s1.heap.push o) c P := TB.code.keeps fun b u e => Heap.get?_push_of_some _ (I1.bk b u e)
  have lim2 : (s1.heap.push o).NoLimit := I1.nolimit.push o
  have haP : a ≠ P := fun e => by
    obtain ⟨oa, e1, e2, _⟩ := htup
    rw [e, hPs] at e1
    cases e1
    cases e2
  have halt : a < s1.heap.objs.size := by
    obtain ⟨oa, e1, _⟩ := htup
    exact Heap.lt_size e1
  have sz2 : (s1.heap.push o).objs.size = s1.heap.objs.size + 1 := Heap.size_push ..
  have cont : ∀ (code : Value) (h3 : Heap) (tk : Nat) (ps' : Array Value), Heap.ExtBut P (s1.heap.push o) h3 → (s1.heap.push o).objs.size ≤ h3.objs.size → h3.get? P = some { cls := .none, data := .fields ps' } → (∃ more, ps' = ps ++ more) → TriplesOk ps'.toList →
      wpAny (model X.prog X.w) X.A (builtinsFor X.env.globals X.env.builtins) (fun bi s₄ =>
        ∃ Ia fp wr n₀ Pf St₀ pz F, Value.ref s1.heap.objs.size = .ref Ia ∧ (∀ A' : Around, A'.handled = none → Walks X.prog X.w A' Ia fp wr n₀ Pf St₀) ∧ St₀ 0 s₄.heap ∧ (∀ b ∈ fp, b < s₄.heap.objs.size) ∧ s₄.heap.NoLimit ∧ cStatics ∉ wr ∧
          (∀ href : Heap, (∀ b o, s₄.heap.get? b = some o → href.get? b = some o) →
            QuietGenD X.prog X.w (genEnv scope (cloFrom X.env.cells scope.names []) s₄.heap.objs.size code bi X.env) x [] elt (List.range s₄.heap.objs.size) wr Pf pz F href (X.A.depth + 1) (X.A.units + 8)) ∧
          (∀ a h₅ tk gs, gs.bare = true → s₄.heap.objs.size < a → h₅.objs.size = a + 1 → (∀ b o, s₄.heap.get? b = some o → h₅.get? b = some o) →
            WalksS X.prog X.w X.A.in4 a (a :: s₄.heap.objs.size :: List.range s₄.heap.objs.size) (s₄.heap.objs.size :: wr) (GenOnlyQ s₄.gens.size) (passing pz n₀ 0).length
              (fun j y => ∃ i, (passing pz n₀ 0)[j]? = some i ∧ F i y) (GenAt X.prog X.w X.A.in4 a s₄.gens.size s₄.heap.objs.size (List.range s₄.heap.objs.size) wr pz n₀ F) →
            GenAt X.prog X.w X.A.in4 a s₄.gens.size s₄.heap.objs.size (List.range s₄.heap.objs.size) wr pz n₀ F 0 { s₄ with gens := s₄.gens.push gs, toks := tk, heap := h₅ } →
            Q' (.ref a) { s₄ with gens := s₄.gens.push gs, toks := tk, heap := h₅ })) X.xe { s1 with heap := h3, toks := tk } := by
    intro code h3 tk ps' hx hsz hP3 hmore ht3
    obtain ⟨bm, ob, e1, e2, e3, e4, e5, e6, e7, e8⟩ := TB.bm
    have hcP : cStatics ≠ P := fun e => by
      obtain ⟨_, hns, _⟩ := I1.nolimit
      obtain ⟨o', es, ep, ho, hd, _⟩ := hns
      rw [e, hPs] at ho
      cases ho
      cases hd
    have hcl : cStatics < s1.heap.objs.size := let ⟨_, hns, _⟩ := I1.nolimit; hns.lt
    have keep3 : ∀ b u, b ≠ P → s1.heap.get? b = some u → h3.get? b = some u := fun b u hb e => hx b u hb (Heap.get?_push_of_some _ e)
    refine wpAny_builtinsFor (m := X.mg) (by rw [I1.ok.glob]; exact ((I1.mod.glob.keeps I1.bk).push o).extBut hx TB.gP) e1 e2 (keep3 _ _ e4 (I1.bk _ _ e5)) e6 e7 e8 ?_
    refine ⟨s1.heap.objs.size, [s1.heap.objs.size, a], [s1.heap.objs.size], its.toArray.size, _, _, (fun _ => true), (fun i y => ∃ n, ns[i]? = some n ∧ y = .bool (pb n)), rfl, fun A' hA => Walks.tuple hA s1.heap.objs.size a (Nat.ne_of_lt halt) its.toArray, ?_, ?_, lim2.extBut hx hcP, ?_, ?_, ?_⟩
    · have t0 : (s1.heap.push o).IsTupleIter s1.heap.objs.size a 0 := ⟨o, Heap.get?_push_size _ (by rw [← ho]; rfl), by rw [← ho], by rw [← ho]; rfl⟩
      refine ⟨t0.at fun u e => hx _ u (Nat.ne_of_gt hPlt) e, ?_⟩
      obtain ⟨oa, f1, f2, n, f3⟩ := htup
      exact ⟨oa, keep3 _ _ haP f1, f2, n, f3⟩
    · intro b hb
      have big : s1.heap.objs.size < h3.objs.size := by omega
      rcases List.mem_cons.mp hb with z | z
      · rw [z]; exact big
      · rcases List.mem_cons.mp z with z | z
        · rw [z]; exact Nat.lt_trans halt big
        · cases z
    · intro z
      rcases List.mem_cons.mp z with z | z
      · exact Nat.ne_of_lt hcl z
      · cases z
    · intro href hhref
      refine ⟨fun A' E' i v s₂ m₂ hA hD hU hPv hn hm hk => ?_, fun A' E' i v s₂ m₂ hA hD hU hPv hp hn hm hk => ?_⟩
      · simp only [List.forIn_nil]
        exact wpAny_pure ⟨rfl, keepsT _ s₂.toks⟩
      · have hPv2 : its[i]? = some v := by
          have q : its.toArray[i]? = some v := hPv
          rw [List.getElem?_toArray] at q
          exact q
        obtain ⟨n, t, hn1, rfl⟩ := ints_at rv hPv2
        have k2 : ∀ b u, b ≠ P → s1.heap.get? b = some u → s₂.heap.get? b = some u := fun b u hb e => by
          have q := keep3 b u hb e
          refine hk b (List.mem_range.mpr (Heap.lt_size q)) (fun z => ?_) u (hhref b u q)
          have hl := Heap.lt_size e
          rcases List.mem_cons.mp z with z | z
          · rw [z] at hl
            exact Nat.lt_irrefl _ hl
          · cases z
        have kb : ∀ b u, X.base.get? b = some u → s₂.heap.get? b = some u := fun b u e => k2 b u (fun z => by
          have q := (I1.bs b u e).2
          rw [z, hP] at q
          cases q) (I1.bk b u e)
        obtain ⟨mb, g1, g2⟩ := I1.mod.blt
        have RH : RawH X.K X.mg s₂.heap := ⟨I1.mod.kin.keeps kb, I1.mod.glob.keeps kb, ⟨mb, g1.keeps kb, g2⟩, I1.ok.mod.nolimit.keeps kb⟩
        exact wpAny_mono (hel pins s1 σ H1 pb I1 hRb (genEnv scope (cloFrom X.env.cells scope.names []) h3.objs.size code builtinsNs X.env) A' E' n t s₂ m₂ rfl rfl rfl rfl hA hD RH k2 hn hm) (fun y s3 r => ⟨⟨n, hn1, r.1⟩, r.2⟩) fun _ _ e => e
    · intro g h5 tk5 gs hgb hag hsz5 hk5 W5 hat
      have eW : its.toArray.size = ns.length := by rw [List.size_toArray]; exact hlen.symm
      rw [eW] at W5 hat
      simp only [GxR.passing_true, List.length_range] at W5
      refine hQ pb ns H1 g _ q1 ⟨_, _, _, _, _, W5.in4_1, hat, ?_, fun s' hm => ?_⟩
      · intro j y sj Qj Ej hy hQj
        obtain ⟨i, hij, n, hn1, rfl⟩ := hy
        obtain ⟨hj, ej⟩ := List.getElem?_eq_some_iff.mp hij
        rw [List.getElem_range] at ej
        subst ej
        have hQ2 : Qj (tgF pb ns j) sj := hQj
        rw [tgF_some hn1] at hQ2
        exact wpAny_truthy_bool hQ2
      · obtain ⟨more, em⟩ := hmore
        have nwr : ∀ b u, s1.heap.get? b = some u → b ∉ h3.objs.size :: [s1.heap.objs.size] := fun b u e hb => by
          have hl := Heap.lt_size e
          rcases List.mem_cons.mp hb with z | z
          · rw [z] at hl
            have h9 : (h3.objs.size : Nat) < s1.heap.objs.size := hl
            omega
          · rcases List.mem_cons.mp z with z | z
            · rw [z] at hl
              exact Nat.lt_irrefl _ hl
            · cases z
        have J := inv_tab (more := more) (h' := s'.heap) (g' := s'.gens) (d' := s'.drawn) (t' := s'.toks) I1 hP (fun b u hb e => hm.heap b u (nwr b u e) (hk5 b u (keep3 b u hb e)))
          (by rw [← em]; exact hm.heap P _ (nwr P _ hPs) (hk5 P _ hP3)) (AllBare.movedS (I1.bare.push hgb) hm)
        rw [sh_eta s1 s' hm.os] at J
        refine ⟨upd H1 P (.tbl (ps ++ more)), ⟨⟨ps ++ more, upd_same, by rw [← em]; exact ht3⟩, fun b hb => upd_ne hb⟩, J⟩
  refine ⟨lim2, ?_⟩
  cases hf : codeAmong gpos ps.toList with
  | none =>
    refine wpAny_genexprCodeX hcode (cd.code hP2 ht) (cd.tab hP2) hf fun c' h' tk hx hge hlt hco' _ htab' _ => ?_
    obtain ⟨o1, vs, f1, tf, fl, tg, inF, tx, tt, op, _, _, _, _, _, _, _, _, _, htr, _⟩ := hco'
    exact cont _ h' tk _ hx (Nat.le_trans hge (Nat.le_of_lt hlt)) htab'.2 ⟨_, rfl⟩ htr
  | some cv =>
    refine wpAny_genexprCode_hit hcode (cd.code hP2 ht) hf ?_
    exact cont cv (s1.heap.push o) s1.toks ps (Heap.ExtBut.refl _ _) (Nat.le_refl _) hP2 ⟨#[], by simp⟩ ht
def tAllG (K : PySem.W.Frag) (P : Addr) (Rb : (Int → Bool) → L2.St → Hp → Prop) (te : TE) : TE := fun σ H Q => te σ H fun v H1 => ∃ (a : Addr) (ns : List Int) (pb : Int → Bool), v = .ref a ∧ SqT K H1 a (ns.map V.int) ∧ Rb pb σ H1 ∧ TabG H1 P ∧
  ∀ H2, Tabbed P H1 H2 → Q (.bl (ns.all pb)) H2
theorem pe_allG {c P : Addr} {elt iter : Expr} {x : Str} {px p pos gpos : Pos} {scope : Scope} {Rb : (Int → Bool) → L2.St → Hp → Prop} {te : TE} {k : Nat}
    (hr : Room k X.A) (hg : Gl X "all") (hm : X.mg "all" = none) (TB : GxR.TabB X.base X.mg c P) (hcode : X.env.code = .ref c) (S : GenS X.env scope x) (hi : PE X iter te) (hel : EltG X P scope x elt Rb)
    (hs : ∀ v, genFold iter X.env v = pure v)
    (he : starEach [.GeneratorExp elt [⟨.Name x px, iter, [], 0⟩] scope gpos] X.env = (false, eval (.GeneratorExp elt [⟨.Name x px, iter, [], 0⟩] scope gpos) X.env) :: starEach [] X.env := by rfl) :
    PE X (.Call (.Name "all" p) [.GeneratorExp elt [⟨.Name x px, iter, [], 0⟩] scope gpos] [] pos) (tAllG X.K P Rb te) := by
  refine ⟨fun pins s σ H Q I h => ?_⟩
  refine wpAny_Call_Name_kw (ld_blt I hg hm boot_all ?_)
  refine PyProof.Rows.callWith_builtin1 ?_ he (by rfl)
  rw [he]
  show wpAny _ _ (spliced ((false, eval (.GeneratorExp elt [⟨.Name x px, iter, [], 0⟩] scope gpos) X.env) :: backTo pos (starEach [] X.env))) _ _ s
  refine Calls.spliced_cons (gen_tup (R := fun pb ns H1 => ∀ H2, Tabbed P H1 H2 → Q (.bl (ns.all pb)) H2) hr TB hcode S hi hel hs I h fun pb ns H1 g s5 hR hG => ?_)
  obtain ⟨fp, wr, G, F, St, W, hst, htr, hI⟩ := hG
  refine Calls.spliced_nil ?_
  refine call_all_walkS (W.self 0 _ _ _ hst ⟨g, fp, wr, G, _, F, St, _, rfl, W, hst, htr, fun s' hmv => ?_⟩)
  obtain ⟨H2, hT, J⟩ := hI s' hmv
  refine ⟨.bl _, H2, J, rfl, ?_⟩
  rw [all_tgF]
  exact hR H2 hT
end
end Rs
set_option maxHeartbeats 4000000
/-! sorted(range or list of ints, key=lambda x: t[x]) -/
namespace Rs
open PySem PySem.Spec PyProof.Rows L2 LamX
/-- all that is tracked but P stays -/
def ButP (P : Addr) (H H' : Hp) : Prop := ∀ b o, b ≠ P → H b = some o → H' b = some o
theorem ButP.refl {P : Addr} (H : Hp) : ButP P H H := fun _ _ _ h => h
section
variable {X : Cx} {pins : List (Addr × Obj)} {σ : L2.St} {H : Hp} {s : Shared}
/-- a new list at D; the frame's object may differ, its names stay -/
theorem inv_nsl {D : Addr} {o : HO} {h' : Heap} {t' : Nat} (I : Inv X pins σ H s) (k : ∀ b o, b ≠ X.env.locals → s.heap.get? b = some o → h'.get? b = some o) (kn : ∀ m, s.heap.Ns X.env.locals m → h'.Ns X.env.locals m) (nD : H D = none) (hD : ∀ b o, s.heap.get? b = some o → b ≠ D)
    (new : ObjOk X.prog X.w (upd H D o) h' D o) : Inv X pins σ (upd H D o) { s with heap := h', toks := t' } := by
  have at_ : ∀ b u, H b = some u → upd H D o b = some u := fun b u e => by rw [upd_ne (ne_of_none e nD)]; exact e
  refine I.step (g' := s.gens) (d' := s.drawn) (ch := []) (fun b hb => absurd hb (by simp)) (fun b o hb _ _ e _ => k b o hb e) (fun b o hb _ _ e _ => ⟨o.slots, k b o hb e⟩)
    (fun b o' _ e n => by rw [upd_ne (hD b o' e)]; exact n) (fun b o _ e => ?_) (fun b xs e => at_ _ _ e) (fun b o u e => at_ _ _ e) (fun b qs e => ⟨#[], by rw [at_ _ _ e]; simp⟩) kn (fun b u e => ?_) I.bare
  · by_cases hb : b = X.env.locals
    · obtain ⟨m, hn, _⟩ := I.loc
      obtain ⟨o', _, _, ho, _⟩ := kn m hn
      rw [hb]
      exact ⟨o', ho⟩
    · exact ⟨o, k b o hb e⟩
  · have nL : ∀ b u, H b = some u → b ≠ X.env.locals := fun b u q z => by
      rw [z, I.free] at q
      cases q
    by_cases hb : b = D
    · rw [hb, upd_same] at e
      cases e
      rw [hb]
      exact new
    · rw [upd_ne hb] at e
      refine (I.hok b u e).stay (fun d v hd q => k d v ?_ q) (fun d q => at_ _ _ q) fun d xs q => at_ _ _ q
      rcases hd with z | z
      · rw [z]
        exact nL b u e
      · exact nL d _ z
/-- the lambda made: told exactly -/
theorem lam_makeK {c P : Addr} {params : Arguments} {body : Expr} {scope : Scope} {pos : Pos} {E : Value → Shared → Prop} {Q : Value → Shared → Prop} (I : Inv X pins σ H s) (TB : LamX.TabB X.base X.mg c P) (hcode : X.env.code = .ref c)
    (hT : TabS H P (X.env.qual ++ "<lambda>")) (hdef : defaultsOf params X.env = ([], [])) (hfree : ∀ y ∈ scope.names, y.2 = .free → ∃ c, X.env.cells.lookup y.1 = some c)
    (h : ∀ (f c' : Addr) (pm ctv : Value) (H1 : Hp) (s' : Shared), Inv X pins σ H1 s' → ButP P H H1 → TabS H1 P (X.env.qual ++ "<lambda>") → (∀ b o, b ≠ P → s.heap.get? b = some o → s'.heap.get? b = some o) →
      s'.heap.get? f = some (PySem.W.kla_obj "<lambda>" (X.env.qual ++ "<lambda>") params body scope (cloFrom X.env.cells scope.names []) pm c' ctv) → f ≠ X.env.locals → H1 c' = some (CodeO c' (X.env.qual ++ "<lambda>")) → Q (.ref f) s') :
    wpAny (model X.prog X.w) X.A (eval (.Lambda params body scope pos) X.env) Q E s := by
  obtain ⟨ps, hP, ht, ha⟩ := hT
  refine PySem.W.kla_eval hdef ?_
  have bP : s.heap.BuiltinsAt X.mg P := TB.bm.keeps I.bk
  have hP' : s.heap.get? P = some { cls := .none, data := .fields ps } := I.hok P _ hP
  have hlt := I.lt
  cases hc : codeAmong pos ps.toList with
  | none =>
    refine PySem.W.kla_makeFunction (mg := X.mg) (c := c) (P := P) (ps := ps) (closure_ok hfree) I.ok.glob (I.mod.glob.keeps I.bk) hcode (TB.code.keeps I.bk) hP' ht hc TB.gP bP fun c' ctv h' tk hx hge hlt' hrec htb => ?_
    obtain ⟨c2, oc, vs, t, e2, hoc, hd, hv⟩ := hrec
    cases e2
    have hsz : s.heap.objs.size ≤ h'.objs.size := Nat.le_trans hge (Nat.le_of_lt hlt')
    have nC : H c' = none := I.hok.fresh hge
    have I1 := inv_table (t' := tk) (more := #[rawInt pos.line, rawInt pos.col, .ref c']) (h' := h'.push (PySem.W.kla_obj "<lambda>" (X.env.qual ++ "<lambda>") params body scope (cloFrom X.env.cells scope.names []) ((X.mg "__name__").getD .none) c' ctv)) I hP
      (fun b o hb e => Heap.get?_push_of_some _ (hx b o hb e)) (Heap.get?_push_of_some _ htb) hge ⟨oc, vs, t, Heap.get?_push_of_some _ hoc, hd, hv⟩
    have hE : ButP P H (upd (upd H P (.tbl (ps ++ #[rawInt pos.line, rawInt pos.col, .ref c']))) c' (CodeO c' (X.env.qual ++ "<lambda>"))) := fun b o n e => by
      rw [upd_ne (ne_of_none e nC), upd_ne n]
      exact e
    have eL : (ps ++ #[rawInt pos.line, rawInt pos.col, .ref c']).toList = ps.toList ++ [rawInt pos.line, rawInt pos.col, .ref c'] := by simp
    refine h h'.objs.size c' ((X.mg "__name__").getD .none) ctv _ _ I1 hE ?_ (fun b o hb e => Heap.get?_push_of_some _ (hx b o hb e)) (Heap.get?_push_size _ rfl) (Nat.ne_of_gt (Nat.lt_of_lt_of_le hlt hsz)) upd_same
    refine ⟨_, by rw [upd_ne (ne_of_none hP nC), upd_same], by rw [eL]; exact PySem.TriplesOk_snoc _ _ _ _ ht, fun p' cv hcv => ?_⟩
    rw [eL] at hcv
    rcases among_app _ ht hcv with z | z
    · obtain ⟨c0, e1, e2⟩ := ha p' cv z
      exact ⟨c0, e1, hE _ _ (fun z => by rw [z, hP] at e2; exact codeO_ne _ (Option.some.inj e2).symm) e2⟩
    · exact ⟨c', z, upd_same⟩
  | some cv =>
    obtain ⟨c', e, hco⟩ := ha pos cv hc
    subst e
    refine PySem.W.kla_makeFunctionHit (mg := X.mg) (c := c) (P := P) (ps := ps) (closure_ok hfree) I.ok.glob (I.mod.glob.keeps I.bk) hcode (TB.code.keeps I.bk) hP' ht hc bP fun ctv h' tk hx hsz => ?_
    have I1 : Inv X pins σ H { s with heap := h'.push (PySem.W.kla_obj "<lambda>" (X.env.qual ++ "<lambda>") params body scope (cloFrom X.env.cells scope.names []) ((X.mg "__name__").getD .none) c' ctv), toks := tk } := I.kept fun b o e => Heap.get?_push_of_some _ (hx b o e)
    exact h h'.objs.size c' ((X.mg "__name__").getD .none) ctv H _ I1 (ButP.refl H) ⟨ps, hP, ht, ha⟩ (fun b o _ e => Heap.get?_push_of_some _ (hx b o e)) (Heap.get?_push_size _ rfl) (Nat.ne_of_gt (Nat.lt_of_lt_of_le hlt hsz)) hco
end
/-! ### the values sorted -/
/-- x can be collected: the ints ns; also when the heap has changed at P, or grown -/
def Col (X : Cx) (s : Shared) (x : Value) (P : Addr) (ns : List Int) : Prop :=
  ∀ (s' : Shared), (∀ b o, b ≠ P → s.heap.get? b = some o → s'.heap.get? b = some o) → ∀ (E : Value → Shared → Prop) (Q : List Value → Shared → Prop),
    (∀ (h' : Heap) (tk : Nat) (vs : List Value), (∀ b o, s'.heap.get? b = some o → h'.get? b = some o) → IntsAre vs ns → Q vs { s' with heap := h', toks := tk }) → wpAny (model X.prog X.w) X.A.in1 (collect x) Q E s'
def PCol (X : Cx) (e : Expr) (P : Addr) (t : L2.St → Hp → (List Int → Hp → Prop) → Prop) : Prop :=
  ∀ (pins : List (Addr × Obj)) (s : Shared) (σ : L2.St) (H : Hp) (Q : List Int → Hp → Prop), Inv X pins σ H s → t σ H Q →
    wpAny (model X.prog X.w) X.A (eval e X.env) (fun x s' => ∃ ns H', Inv X pins σ H' s' ∧ Col X s' x P ns ∧ Q ns H') X.xe s
def rgI (n : Nat) : List Int := (List.range n).map fun i : Nat => (i : Int)
theorem rg_ints {a b : Int} (h : RgOk a b) : ∀ {acc : Array Value}, ItemsOf (fun i v => ∃ t, v = .int (a + i * 1) t) acc (b - a).toNat → IntsAre acc.toList ((List.range (b - a).toNat).map fun i : Nat => a + (i : Int)) := by
  intro acc hi
  have r := vals_rg hi
  have e : rgV a b = ((List.range (b - a).toNat).map fun i : Nat => a + (i : Int)).map V.int := by
    unfold rgV
    rw [List.map_map]
    rfl
  rw [e] at r
  exact r.ints
theorem pcol_rg {X : Cx} {e : Expr} {P : Addr} {te : L2.St → Hp → (Int → Int → Hp → Prop) → Prop} (hc : X.calm = true) (he : PRg X e te) :
    PCol X e P (fun σ H Q => te σ H fun a b H1 => ∃ n : Nat, a = 0 ∧ b = (n : Int) ∧ n < 64 ∧ (∃ ps, H1 P = some (.tbl ps)) ∧ Q (rgI n) H1) := by
  intro pins s σ H Q I h
  refine thn (he pins s σ H _ I h) fun x s1 ⟨r, a, b, t, u, v, H1, ex, hr, I1, n, ea, eb, hn, ⟨ps, hP⟩, q⟩ => ?_
  subst ea eb ex
  refine ⟨_, H1, I1, ?_, q⟩
  intro s' k E Q' hQ
  have hrP : r ≠ P := fun z => by
    have hP' := I1.hok P _ hP
    have hr' := hr
    rw [z] at hr'
    have hr'' : s1.heap.get? P = _ := hr'
    rw [hP'] at hr''
    cases hr''
  have ok : RgOk 0 (n : Int) := ⟨by omega, by omega, by omega, by omega, by omega⟩
  obtain ⟨b1, b2, b3, b4, b5⟩ := id ok
  have hr2 : IsRange s'.heap r 0 n 1 t u v := k r _ hrP hr
  refine collect_range (n := ((n : Int) - 0).toNat) (I1.ok.hd hc) hr2 (small_one b1 b2 b3 b4) (rangeSize_nat _ _) b5 fun h' tk acc hk hi => hQ h' tk _ hk ?_
  have := rg_ints ok hi
  have e1 : ((n : Int) - 0).toNat = n := by omega
  rw [e1] at this
  have e2 : (List.range n).map (fun i : Nat => (0 : Int) + (i : Int)) = rgI n := by
    unfold rgI
    exact List.map_congr_left fun i _ => Int.zero_add _
  rw [e2] at this
  exact this
theorem pcol_list {X : Cx} {e : Expr} {P : Addr} {te : TE} (he : PE X e te) :
    PCol X e P (fun σ H Q => te σ H fun v H1 => ∃ (a : Addr) (ns : List Int), v = .ref a ∧ SqL X.K H1 a (ns.map V.int) ∧ ns.length < 64 ∧ (∃ ps, H1 P = some (.tbl ps)) ∧ Q ns H1) := by
  intro pins s σ H Q I h
  refine thn (he.run pins s σ H _ I h) fun x s1 ⟨v, H1, I1, r1, a, ns, ev, hs, hl, ⟨ps, hP⟩, q⟩ => ?_
  subst ev
  obtain rfl : x = Value.ref a := r1
  refine ⟨ns, H1, I1, ?_, q⟩
  obtain ⟨its, rv, pl, hz⟩ := I1.list hs
  intro s' k E Q' hQ
  have hl2 : s1.heap.IsList a its.toArray := pl.isList
  have hl3 : s'.heap.IsList a its.toArray := by
    obtain ⟨oa, e1, e2, e3⟩ := hl2
    refine ⟨oa, k a oa (fun z => ?_) e1, e2, e3⟩
    have hP' := I1.hok P _ hP
    have hP' : s1.heap.get? P = _ := hP'
    rw [z, hP'] at e1
    cases e1
    obtain ⟨_, e3⟩ := e3
    cases e3
  refine collect_list hl3 ?_ (by rw [← rv.length]; exact hz)
  refine hQ _ s'.toks its (fun b o q => ?_) rv.ints
  have hlt : b < s'.heap.objs.size := Heap.lt_size q
  rw [Heap.get?_update_ne _ _ _ _ (Nat.ne_of_lt hlt)]
  exact Heap.get?_push_of_some _ q
theorem ksk_ints {vs out : List Value} {ns : List Int} {g : Int → Int} (hi : IntsAre vs ns) (ko : KskOut false (ns.map g) vs out) : ∃ ns', IntsAre out ns' ∧ ns'.Perm ns ∧ ns'.Pairwise (fun x y => g x ≤ g y) := by
  have hlen := hi.length
  obtain ⟨ps, hp, ho, hs⟩ := ko
  have hrel : ∀ p, p ∈ (ns.map g).zip vs → p.1 = g (numOf p.2) ∧ p.2 ∈ vs := by
    rw [← hi.nums, List.map_map, List.zip_map_left]
    intro p hp
    obtain ⟨⟨u, v⟩, hq, rfl⟩ := List.mem_map.mp hp
    have h1 : u = v ∧ u ∈ vs := mem_zip_self hq
    exact ⟨by show g (numOf u) = g (numOf v); rw [h1.1], by show v ∈ vs; rw [← h1.1]; exact h1.2⟩
  refine ⟨(ps.map Prod.snd).map numOf, ?_, ?_, ?_⟩
  · rw [ho]
    refine intsAre_map _ fun v hv => ?_
    obtain ⟨p, hp', rfl⟩ := List.mem_map.mp hv
    exact hi.all _ (hrel p (hp.mem_iff.mp hp')).2
  · have h1 := (hp.map Prod.snd).map numOf
    rw [List.map_snd_zip (by rw [List.length_map]; omega), hi.nums] at h1
    exact h1
  · rw [List.pairwise_map, List.pairwise_map]
    refine hs.imp_of_mem fun {p q} hp' hq' hr => ?_
    have hr' : p.1 ≤ q.1 := by simpa using hr
    rw [(hrel p (hp.mem_iff.mp hp')).1, (hrel q (hp.mem_iff.mp hq')).1] at hr'
    exact hr'
section
variable {prog : Program} {w : World} {A : Around} {E : Value → Shared → Prop} {s : Shared} {h₀ : Heap} {L : Addr} {m : Str → Option Value} {Q : Value → Shared → Prop}
theorem srt_run {x : Value} {f : Addr} {ns : List Int} {g : Int → Int} (F : Fr h₀ L s.heap m) (h64 : ns.length < 64)
    (hcol : ∀ (Q : List Value → Shared → Prop), (∀ (h' : Heap) (tk : Nat) (vs : List Value), (∀ b o, s.heap.get? b = some o → h'.get? b = some o) → IntsAre vs ns → Q vs { s with heap := h', toks := tk }) → wpAny (model prog w) A.in1 (collect x) Q E s)
    (turn : ∀ (n : Int) (t : Tok) (h : Heap) (tk : Nat), n ∈ ns → Fr h₀ L h m → (∀ b o, b ≠ L → s.heap.get? b = some o → h.get? b = some o) →
      wpAny (model prog w) A.in1.in1 (call (.ref f) [.int n t]) (fun y s' => ∃ h' tk' t', s' = { s with heap := h', toks := tk' } ∧ y = .int (g n) t' ∧ ∀ b o, h.get? b = some o → h'.get? b = some o) (fun _ _ => False) { s with heap := h, toks := tk })
    (hQ : ∀ (D : Addr) (h' : Heap) (tk : Nat) (out : Array Value) (c : Nat) (ns' : List Int), Fr h₀ L h' m → (∀ b o, b ≠ L → s.heap.get? b = some o → h'.get? b = some o) → (∃ h1 : Heap, (∀ b o, s.heap.get? b = some o → h1.get? b = some o) ∧ D = h1.objs.size) → h'.get? D = some (seqObj "list" out c) →
      IntsAre out.toList ns' → ns'.Perm ns → ns'.Pairwise (fun x y => g x ≤ g y) → Q (.ref D) { s with heap := h', toks := tk }) :
    wpAny (model prog w) A (call (.builtin "sorted") [x] [(Str.ofString "key", .ref f)]) Q E s := by
  refine call_function_entry_kw kind_sorted plain_sorted entry_sorted (ksk_s1 _ _) ?_
  unfold Builtin.«sorted»
  refine wpAny_bind (m := checkCount "sorted" 1 1 _) (wpAny_pure ?_)
  refine wpAny_bind (hcol _ fun h1 tk1 vs k1 hi => ?_)
  have hl := hi.length
  have F1 : Fr h₀ L h1 m := F.kept k1
  refine wpAny_bind (wpAny_newList ?_ (by rw [sizeLine_eq]; omega))
  have hoL : (h1.push (seqObj "list" vs.toArray 0)).get? h1.objs.size = some (seqObj "list" vs.toArray 0) := Heap.get?_push_size _ rfl
  have keep : ∀ b o, h1.get? b = some o → (h1.push (seqObj "list" vs.toArray 0)).get? b = some o := fun b o q => Heap.get?_push_of_some _ q
  have hL : L < h1.objs.size := F1.ns.lt
  have N0 : News h₀ L s.heap (allNews h₀ s.heap L) := news_all
  refine wpAny_bind (wpAny_holding (wpAny_call_entry_kw slot_list_sort ⟨_, hoL, rfl⟩ entry_list_sort ?body (ksk_l1 _ _)))
  case body =>
    have ht' := ksk_t1 f h1.objs.size
    show wpAny (model prog w) A.in1.in1 (Builtin.«list.sort» ⟨[.ref h1.objs.size], [(Str.ofString "key", .ref f)]⟩) _ _ _
    rw [ht']
    refine ksk_sort (kz := ns.map g) (news := allNews h₀ s.heap L) (s := { s with heap := h1.push (seqObj "list" vs.toArray 0), toks := tk1 }) (F1.kept keep) (fun p hp => ⟨keep _ _ (k1 _ _ (N0 p hp).1), (N0 p hp).2⟩) hoL (Nat.ne_of_gt hL)
      (Heap.get?_none_of_le (Nat.le_trans F1.above (Nat.le_of_lt hL))) (fun p hp => Nat.ne_of_lt (Heap.lt_size (k1 _ _ (N0 p hp).1))) (by rw [List.length_map, hl]) (by omega)
      (fun i v k hv hk h tk own F' N' => ?_) fun h' tk out c F' N' k' => ⟨_, rfl, ?_⟩
    · rw [List.getElem?_map] at hk
      cases q : ns[i]? with
      | none => rw [q] at hk; simp at hk
      | some n =>
        rw [q] at hk
        have hk' : some (g n) = some k := hk
        cases hk'
        obtain ⟨t, ht'⟩ := hi.get i n q
        rw [ht'] at hv
        cases hv
        have kh : ∀ b o, b ≠ L → s.heap.get? b = some o → h.get? b = some o := fun b o hb e => by
          cases r : h₀.get? b with
          | some u =>
            have := F.keep b u r
            rw [e] at this
            cases this
            exact F'.keep b _ r
          | none => exact (N' (b, o) (List.mem_append_left _ (mem_allNews hb r e))).1
        refine wpAny_mono (turn n t h tk (List.mem_of_getElem? q) F' kh) (fun y s' hy => ?_) fun _ _ e => e
        obtain ⟨h', tk', t', rfl, rfl, kk⟩ := hy
        exact KskEnd.intro (s₁ := { s with heap := h, toks := tk }) (F'.kept kk) (fun p hp => ⟨kk _ _ (N' p hp).1, (N' p hp).2⟩) fun p hp => hp
    · obtain ⟨ns', i1, i2, i3⟩ := ksk_ints hi k'
      refine wpAny_pure ⟨_, rfl, hQ _ h' tk out c ns' F' (fun b o hb e => ?_) ⟨h1, k1, rfl⟩ (N' _ List.mem_cons_self).1 i1 i2 i3⟩
      cases r : h₀.get? b with
      | some u =>
        have := F.keep b u r
        rw [e] at this
        cases this
        exact F'.keep b _ r
      | none => exact (N' (b, o) (List.mem_cons_of_mem _ (mem_allNews hb r e))).1
end
/-- the lambda's names: one parameter x, the captured t -/
structure LamK (sc scope : Scope) (x t : Str) : Prop where
  kind : scope.kind = .function
  co : scope.isCoroutine = false
  gen : scope.isGenerator = false
  lx : scope.names.lookup x = some .local
  lt : scope.names.lookup t = some .free
  own : ∀ y ∈ scope.names, y.2 ≠ .cell
  free : ∀ y ∈ scope.names, y.2 = .free → sc.names.lookup y.1 = some .cell ∨ sc.names.lookup y.1 = some .free
/-- the key of the name k -/
def keyOf (xs : List Nat) (k : Int) : Int := ((xs.getD k.toNat 0 : Nat) : Int)
abbrev vI (xs : List Nat) : List V := xs.map fun k : Nat => V.int (k : Int)
def tSortK (K : PySem.W.Frag) (i : Nat) (P : Addr) (q : Str) (te : L2.St → Hp → (List Int → Hp → Prop) → Prop) : TE := fun σ H Q => te σ H fun ns H1 =>
  ∃ (a : Addr) (xs : List Nat), σ[i]? = some (some (.ref a)) ∧ SqT K H1 a (vI xs) ∧ ns.length < 64 ∧ (∀ n ∈ ns, 0 ≤ n ∧ n < (xs.length : Int)) ∧ TabS H1 P q ∧
    ∀ (H2 : Hp) (p : Addr) (ns' : List Int), ButP P H1 H2 → TabS H2 P q → H2 p = none → ns'.Perm ns → ns'.Pairwise (fun x y => keyOf xs x ≤ keyOf xs y) → Q (.ref p) (upd H2 p (.lst (ns'.map V.int)))
section
variable {X : Cx}
theorem pe_sortK {i : Nat} {c P : Addr} {e : Expr} {te : L2.St → Hp → (List Int → Hp → Prop) → Prop} {params : Arguments} {scope : Scope} {x t : Str} {k : Nat} {p q1 q2 q3 kpos lpos pos : Pos}
    (hr : Room k X.A) (hg : Gl X "sorted") (hm : X.mg "sorted" = none) (he : PCol X e P te) (TB : LamX.TabB X.base X.mg c P) (hcode : X.env.code = .ref c) (S : LamK X.env.scope scope x t) (hN : X.N[i]? = some t) (hv : Vis X.env.scope t)
    (hct : X.env.scope.names.lookup t = some .cell) (hdef : defaultsOf params X.env = ([], []))
    (hbind : ∀ (q : Str) (cl : List (Str × Addr)) (pm cv ctv v : Value), bindArgs (PySem.W.kla_fn "<lambda>" q params (.Subscript (.Name t q1) (.Name x q2) q3) scope cl pm cv ctv) ⟨[v], []⟩ = pure [(x, v)])
    (hd1 : (x == ("__debug__" : Str)) = false := by decide) (hd2 : (t == ("__debug__" : Str)) = false := by decide) (hcd : (t == ("__classdict__" : Str)) = false := by decide)
    (na : starEach [e] X.env = (false, eval e X.env) :: starEach [] X.env := by rfl) (na2 : backTo pos (starEach [e] X.env) = (false, eval e X.env) :: backTo pos (starEach [] X.env) := by rfl) (hpl : (backTo pos (starEach [e] X.env)).any (·.1) = false := by rfl) :
    PE X (.Call (.Name "sorted" p) [e] [⟨some (Str.ofString "key"), .Lambda params (.Subscript (.Name t q1) (.Name x q2) q3) scope lpos, kpos⟩] pos) (tSortK X.K i P (X.env.qual ++ "<lambda>") te) := by
  refine ⟨fun pins s σ H Q I h => ?_⟩
  have hfree : ∀ y ∈ scope.names, y.2 = .free → ∃ c, X.env.cells.lookup y.1 = some c := fun y hy e => by
    rcases S.free y hy e with z | z
    · exact I.ok.has _ (.inl z)
    · exact I.ok.has _ (.inr z)
  refine wpAny_Call_Name_kw (ld_blt I hg hm boot_sorted ?_)
  refine PyProof.Rows.callWith_kw ?_ na2 hpl
  rw [na2]
  refine Calls.spliced_cons (thn (he pins s σ H _ I h) fun xv s1 ⟨ns, H1, I1, hcol, a, xs, hσ, hT, h64, hin, hTab, q⟩ => Calls.spliced_nil ?_)
  show wpAny _ _ (evalAll [(do let v ← eval (.Lambda params (.Subscript (.Name t q1) (.Name x q2) q3) scope lpos) X.env; standAt pos; pure v)]) _ _ s1
  refine wpAny_evalAll_cons (wpAny_bind (lam_makeK I1 TB hcode hTab hdef hfree fun f c' pm ctv H2 s2 I2 bp hTab2 ks hf hfL hco => wpAny_bind (wpAny_standAt (wpAny_pure (wpAny_evalAll_nil ?_)))))
  show wpAny (model X.prog X.w) X.A (call (.builtin "sorted") [xv] [(Str.ofString "key", .ref f)]) _ _ s2
  obtain ⟨m, F⟩ := I2.fr
  have hT2 : SqT X.K H2 a (vI xs) := by
    obtain ⟨ps, hP, _⟩ := hTab
    rcases hT with (z | ⟨o, z⟩) | z
    · refine .inl (.inl (bp _ _ (fun e => ?_) z))
      rw [e, hP] at z
      cases z
    · refine .inl (.inr ⟨o, bp _ _ (fun e => ?_) z⟩)
      rw [e, hP] at z
      cases z
    · exact .inr z
  obtain ⟨its, rv, pl, hz⟩ := I2.tuple hT2
  have hlen := rv.length
  rw [List.length_map] at hlen
  obtain ⟨m2, hn2, hl2⟩ := I2.loc
  obtain ⟨u0, ru, hlk⟩ := hl2 i t (.ref a) hN hσ hv
  obtain rfl : u0 = Value.ref a := ru
  obtain ⟨cc, hcc, hcell⟩ : ∃ cc, X.env.cells.lookup t = some cc ∧ s2.heap.IsCell cc (some (.ref a)) := by
    rcases hlk with ⟨k', _⟩ | ⟨_, z⟩
    · have k' : X.env.scope.names.lookup t = some .local := k'
      rw [hct] at k'
      cases k'
    · exact z
  have hccL : cc ≠ X.env.locals := I2.cne t cc hcc
  have haL : ∀ b u, s2.heap.get? b = some u → (∀ es ep, u.data ≠ .dict es ep) → b ≠ X.env.locals := fun b u e n z => by
    obtain ⟨o, es, ep, ho, hd, _⟩ := hn2
    rw [z, ho] at e
    cases e
    exact n _ _ hd
  refine srt_run (ns := ns) (g := keyOf xs) F h64 (fun Q' hQ' => hcol s2 ks _ Q' hQ') (fun n tn h3 tk3 hn F3 k3 => ?_) fun D h3 tk3 out c3 ns' F3 k3 hge hD io ip is => ?_
  · obtain ⟨hn0, hn1⟩ := hin n hn
    have of3 := k3 f _ hfL hf
    obtain ⟨⟨oc, vs, tc, hoc, hdc, hvc⟩, _, _⟩ := I2.hok c' _ hco
    have hc'L : c' ≠ X.env.locals := haL _ _ hoc (fun es ep z => by rw [hdc] at z; cases z)
    refine wpAny_call ?_
    refine PySem.W.kla_callFunE (A := X.A.in1.in1) (by have := hr.dp; show X.A.depth < _; have := hr.depth; omega) of3 rfl S.co S.gen rfl ⟨c', oc, vs, tc, rfl, k3 _ _ hc'L hoc, hdc, hvc⟩ ?_
    rw [hbind]
    refine wpAny_pure (wpAny_newFunctionEnv (fun y hy => S.own y hy) (fun y hy => by
      rw [List.mem_singleton.mp hy]
      exact S.lx) (fun h4 hns hsb => ⟨(I2.ok.mod.nolimit.keeps F3.keep).fresh _ hsb, ?_⟩) S.kind)
    have k4 : ∀ b o, h3.get? b = some o → h4.get? b = some o := fun b o e => hsb.extBut b o (Nat.ne_of_lt (Heap.lt_size e)) (Heap.get?_push_of_some _ e)
    refine PySem.W.kla_codeExpr ?_
    have hcl : (cloFrom X.env.cells scope.names []).lookup t = some cc := by
      have hy : (t, NameKind.free) ∈ scope.names := PySem.mem_of_lookup S.lt
      obtain ⟨c2, e2⟩ := mem_lookup (cloFrom_has (cells := X.env.cells) (acc := []) hy)
      rw [e2]
      rcases cloFrom_mem (PySem.mem_of_lookup e2) with hm | ⟨h1, h2⟩
      · cases hm
      · rw [h2, hcc]
        rfl
    have hcell4 : h4.IsCell cc (some (.ref a)) := by
      obtain ⟨o, ho, hd⟩ := hcell
      exact ⟨o, k4 _ _ (k3 _ _ hccL ho), hd⟩
    have htup4 : IsTup h4 a its.toArray := by
      obtain ⟨o, e1, e2, e3⟩ := id pl
      refine ⟨o, k4 _ _ (k3 _ _ (haL _ _ e1 fun es ep z => ?_) e1), e2, e3⟩
      obtain ⟨_, e3⟩ := e3
      rw [e3] at z
      cases z
    refine Subscript_ (wpAny_Name (wpAny_loadName_free S.kind S.lt hcl hcell4 ?_ hcd) hd2)
    refine wpAny_Name (wpAny_loadName_local S.kind S.lx hns (by show List.lookup x ([(x, Value.int n tn)] : List (Str × Value)).reverse = some (.int n tn); simp) ?_) hd1
    have hj : n.toNat < its.length := by omega
    obtain ⟨w2, ew, rw2⟩ := rv.get (i := n.toNat) (x := V.int ((xs.getD n.toNat 0 : Nat) : Int)) (by
      rw [List.getElem?_map, List.getD_eq_getElem?_getD, List.getElem?_eq_getElem (by omega)]
      rfl)
    obtain ⟨t2, rfl⟩ := rw2
    refine subscriptTail_builtinR (x := .int (keyOf xs n) t2) htup4.typeIs slot_tuple_getitem.lookup
      (getItem_tuple (j := n.toNat) htup4 (by omega) (by rw [sizeLine_eq] at hz; rw [List.length_map] at hz; omega) (seqIndex_of hn0 (by rw [List.size_toArray]; omega)) (by rw [List.getElem?_toArray]; exact ew) ⟨rfl, ?_⟩) (by rfl)
    exact ⟨h4, tk3 + 1, t2, rfl, rfl, k4⟩
  · have hnL : ∀ m', s2.heap.Ns X.env.locals m' → h3.Ns X.env.locals m' := fun m' hm' => by
      rw [SlX.ns_only hm' F.ns]
      exact F3.ns
    obtain ⟨h1, k1, rfl⟩ := hge
    have nD : H2 h1.objs.size = none := (I2.hok.kept k1).fresh (Nat.le_refl _)
    have hlen2 : ns'.length = ns.length := ip.length_eq
    refine ⟨.ref h1.objs.size, upd H2 h1.objs.size (.lst (ns'.map V.int)), inv_nsl I2 k3 hnL nD (fun b o e => Nat.ne_of_lt (Heap.lt_size (k1 _ _ e))) (show ObjOk X.prog X.w _ _ _ (.lst (ns'.map V.int)) from ⟨?_, out.toList, c3, vals_of_ints io, ?_⟩), rfl, q H2 _ ns' bp hTab2 nD ip is⟩
    · rw [List.length_map, sizeLine_eq]
      omega
    · rw [Array.toArray_toList]
      exact hD
end
end Rs
set_option maxHeartbeats 4000000
/-! small rules: a def's own code object, raise X(), enumerate(tuple), set of ints -/
namespace Rs
open PySem PySem.Spec PyProof.Rows L2
section
variable {P : Program} {w : World} {K : PySem.W.Frag} {mg : Str → Option Value} {base : Heap}
/-- a def's promise, its code object told -/
theorem FD.ok {CX : CXT} {N ps : List Str} {k : Nat} {sp : Sp} {x : Str} {st : Stmt} (F : FD K x st) (S : FnScope N ps (defScope st)) (len : ∀ vs H Q E, sp vs H Q E → vs.length = ps.length)
    (hbody : ∀ (A : Around) (outer : List Env) (s : Shared) (H : Hp) (vs : List V) (Q : VK) (E : XK), Room k (A.deeper (envOfC x (defScope st) s.heap.objs.size (He.ga K x) (.ref (cdA K x)))) → sp vs H Q E →
      ∃ t, PSs (cxOf CX P w K mg base N x (defScope st) (He.ga K x) (.ref (cdA K x)) A outer s H E) (defBody st) t ∧ t { nx := fun _ H' => Q .non H', rt := Q } (start N vs) H) : FnOk P w K mg base CX (k + 1) (He.ga K x) (fdO K x) ps sp := by
  obtain ⟨oc, od, dV, kV, doc, pm, an, cdv, ct, osl, efd, lk, hcd, _, _⟩ := F.ex
  obtain ⟨c, rfl⟩ := He.codeIn_ref hcd
  have ec : cdA K x = c := He.codeOf_eq (p := (x, none)) lk (by rw [efd])
  rw [ec] at hbody
  rw [efd] at lk ⊢
  exact fn_of lk hcd S len fun A outer s H vs Q E hr hsp => hbody A outer s H vs Q E hr hsp
end
section
variable {X : Cx} {pos : Pos}
/-- X(), X an own exception class without own __init__ -/
theorem pmk_own0 {C : Addr} {bmB : List Value} {B newId initId : String} {x : Str} {p : Pos} (F : ExcBaseFacts B newId initId bmB) (q : PySem.W.excIn X.K C bmB newId = true) (gC : X.mg x = some (.ref C))
    (kC : PySem.W.keepIn X.K (.ref C) = true) (r : Raises X (.ref C)) (hg : Gl X x) (hdb : (x == ("__debug__" : Str)) = false := by decide) :
    PMk X (.Call (.Name x p) [] [] pos) (fun _ H Q => Q (.ref C) none H) := by
  intro pins s σ H Q I h
  refine wpAny_Call_Name_kw (ld_glob I hg gC ?_ hdb)
  refine PySem.W.callWith_K0 I.kIn kC ?_
  obtain ⟨bm, N, nm, qn, bs, hdct, sn, sub, ab, col, dd, k0, k1, k2, k3, k5, mN, hC, hN, hni, T⟩ := exc_obj I.kIn q
  refine wpAny_call_exc_subT F T hC hN hni (fun h' e hm => ?_) (Nat.zero_le _)
  exact mk_of I hm r h (I.hok.gone hm.new)
end
/-! ### enumerate(a tuple) -/
/-- the tuple at a, each item in a new pair -/
def Iet (K : PySem.W.Frag) (a : Addr) : It :=
  ⟨fun i H => ∃ (xs : List V) (x : V), SqT K H a xs ∧ xs[i]? = some x, fun i H v H' => ∃ T x, v = .ref T ∧ H T = none ∧ H' = upd H T (.tup [.int (i : Nat), x]) ∧ ∀ xs, SqT K H a xs → xs[i]? = some x, fun i H => ∃ xs : List V, SqT K H a xs ∧ xs.length ≤ i⟩
theorem walk_enumT {K : PySem.W.Frag} {a : Addr} {xs : List V} : Walk (Iet K a) xs.length (fun H => SqT K H a xs) (YPair (fun i => some (.int (i : Nat))) (fun i => xs[i]?)) := by
  refine ⟨fun i _ hi q => ⟨xs, xs[i], q, by simp [hi]⟩, fun _ q => ⟨xs, q, Nat.le_refl _⟩, fun i H v H' _ q y => ?_⟩
  obtain ⟨T, x, h1, h2, h3, h4⟩ := y
  exact ⟨T, .int (i : Nat), x, h1, h2, h3, rfl, h4 xs q⟩
theorem turn_enumT {P : Program} {w : World} {K : PySem.W.Frag} {elts : List Expr} {kk : Nat} {tpos : Pos} (a e it : Addr) :
    Turn P w K (.Tuple elts kk tpos) (Iet K a) [e, it] e (fun i h => (∃ old, IsEnum h e it ((i : Nat) : Int) old) ∧ h.IsTupleIter it a i ∧ e ≠ it ∧ a ≠ it ∧ a ≠ e) where
  mem := List.mem_cons_self
  obj := fun i h st b hb => by
    obtain ⟨⟨old, he⟩, ⟨o, ho, hc, hd⟩, _⟩ := st
    rcases List.mem_cons.mp hb with z | z
    · rw [z]; exact ⟨_, he, fun v q => nomatch q⟩
    · rw [List.mem_singleton.mp z]; exact ⟨o, ho, fun v q => by rw [hd] at q; cases q⟩
  keep := fun i h h' st k => let ⟨⟨old, he⟩, hi, hne⟩ := st; ⟨⟨old, k e (by simp) _ he⟩, hi.at fun o q => k it (by simp) o q, hne⟩
  item := by
    intro X hP hw hK hc i pins s σ H E I hf st hg
    subst hP hw hK
    obtain ⟨⟨old, he⟩, hit, hne, hai, hae⟩ := st
    obtain ⟨xs, x, hq, hx⟩ := hg
    obtain ⟨its, rv, p, hz⟩ := I.tuple hq
    obtain ⟨u, hu, ru⟩ := rv.get hx
    have hlt : i < its.toArray.size := by rw [List.size_toArray]; exact (List.getElem?_eq_some_iff.mp hu).1
    have hel : e < s.heap.objs.size := Heap.lt_size he
    have hil : it < s.heap.objs.size := by obtain ⟨_, q, _⟩ := hit; exact Heap.lt_size q
    have hh : X.A.in1.in1.handled = none := I.ok.hd hc
    refine wpAny_pyNext_enum_itemD (Draws.tuple (prog := X.prog) (w := X.w) (A := X.A.in1) (I.ok.hd hc) it a hai its.toArray) he ⟨hit, p⟩ hlt hne (by simp [hne, Ne.symm hae]) fun y h' tk hy ho hst hT hsz hk => ?_
    obtain rfl : y = u := by
      have hy' : its.toArray[i]? = some y := hy
      rw [List.getElem?_toArray, hu] at hy'
      exact (Option.some.inj hy').symm
    refine ⟨_, rfl, wpAny_letOwnedTupleGo_enum (s := { s with heap := h', toks := tk + 1 }) ho fun h'' he' sb => ?_⟩
    have hT2 : h''.get? s.heap.objs.size = some { cls := .type "tuple", data := .seq #[.int i tk, y] } := (sb.2 _ (Nat.ne_of_gt hel)).trans hT
    have new : ObjOk X.prog X.w (upd H s.heap.objs.size (.tup [.int (i : Nat), x])) h'' s.heap.objs.size (.tup [.int (i : Nat), x]) :=
      ⟨by show 2 ≤ sizeLine; decide, [.int i tk, y], .cons ⟨_, rfl⟩ (.cons ru .nil), ⟨_, hT2, rfl, _, rfl⟩⟩
    have I1 : Inv X pins σ (upd H s.heap.objs.size (.tup [.int (i : Nat), x])) { s with heap := h'', toks := tk + 1 } :=
      I.turnedNew (ch := [e, it]) (fun b ob hb q => (sb.2 b (fun z => hb (by simp [z]))).trans (hk b ob (fun z => hb (by simp [z])) (fun z => hb (by simp [z])) q)) hf (Nat.le_refl _) new
    refine ⟨.ref s.heap.objs.size, _, I1, rfl, ⟨_, x, rfl, I.hok.fresh (Nat.le_refl _), rfl, fun ys hy => ?_⟩, ⟨⟨y, ?_⟩, hst.1.at fun o q => (sb.2 it (Ne.symm hne)).trans q, hne, hai, hae⟩, fun b hb => ?_⟩
    · have ey : ys = xs := I.tuple_inj hy hq
      rw [ey]
      exact hx
    · have e1 : ((i + 1 : Nat) : Int) = (i : Int) + 1 := by omega
      rw [e1]; exact he'
    · have hb' : b < s.heap.objs.size := by
        rcases List.mem_cons.mp hb with z | z
        · rw [z]; exact hel
        · rw [List.mem_singleton.mp z]; exact hil
      rw [upd_ne (Nat.ne_of_lt hb')]
      exact (hf b hb).1
  done := by
    intro X hP hw hK hc i pins s σ H E I hf st hg
    subst hP hw hK
    obtain ⟨⟨old, he⟩, hit, hne, hai, hae⟩ := st
    obtain ⟨xs, hq, hx⟩ := hg
    obtain ⟨its, rv, p, hz⟩ := I.tuple hq
    obtain ⟨f0, f1, f2, f3, f4, f5⟩ := hf it (by simp)
    have hl := rv.length
    have hh : X.A.in1.in1.handled = none := I.ok.hd hc
    have hT : s.TypeIs (.ref e) "enumerate" := ⟨_, he, rfl⟩
    unfold pyNext
    refine wpAny_bind (wpAny_attempt (wpAny_callSpecial?_slot (name := Str.ofString "__next__") hT F.slot_enumerate_next (wpAny_call_entry F.slot_enumerate_next hT F.entry_enumerate_next ?_ (F.args_enumerate_next_1 _))))
    show wpAny _ _ (field (.ref e) 2 >>= _) _ _ _
    refine wpAny_bind (wpAny_field he rfl (x := .ref it) rfl ?_)
    refine wpAny_bind (wpAny_nextOf_tuple_end hh hit p (by simp; omega) fun h' x he' hx' => ?_)
    obtain ⟨o, ho, hc2⟩ := hx'
    exact wpAny_bind (wpAny_isInstance (T := "StopIteration") (b := true) ⟨o, ho, hc2⟩ isSubtype_stop (wpAny_pure ⟨rfl, I.turned (t' := s.toks) (fun b o hb q => he' b o hb q) f0 f1 f3 f4 f5⟩))
  self := fun A i s Q E st h => let ⟨⟨_, he⟩, _⟩ := st; wpAny_pyIter_enum he h
theorem meets_enum1 {v : Value} {o : Obj} {H : Heap → Prop} (B : Begins v o H) :
    Meets (Builtin.«enumerate.__new__» ⟨[.type "enumerate", v], []⟩) (fun _ R s => H s.heap ∧
      R (.ok (.ret (.ref (s.heap.push o).objs.size))) { s with heap := (s.heap.push o).push { cls := .type "enumerate", data := .fields #[.none, .bool false, .ref s.heap.objs.size, rawInt 0, .none, .none] } }) :=
  .of_wp fun prog w A R s h => by
    obtain ⟨hp, g, d, tk, os⟩ := s
    obtain ⟨h1, h⟩ := h
    have hsub := sub_enumerate
    have q1 : ∀ {A' : Around} {E Q : Value → Shared → Prop}, Q (.ref hp.objs.size) ⟨hp.push o, g, d, tk, os⟩ → wpAny (model prog w) A' (pyIter v) Q E ⟨hp, g, d, tk, os⟩ := fun q => B.iter prog w _ _ ⟨hp, g, d, tk, os⟩ _ h1 q
    wp_walk using q1
    refine wpAny_stack_any fun st => wpAny_pure ?_
    split
    · rename_i c _ _ _ _ _
      cases (c == Value.type "enumerate") <;> (wp_walk using q1; exact ⟨_, rfl, h⟩)
    · wp_walk using q1
      exact ⟨_, rfl, h⟩
def iEnT (K : PySem.W.Frag) (ta : TA) : TI := fun σ H R => ta σ H fun vs H1 => ∃ a xs, vs = [.ref a] ∧ SqT K H1 a xs ∧ R (Iet K a) H1
theorem pi_enumT {X : Cx} {e : Expr} {ta : TA} {p pos tpos : Pos} {elts : List Expr} {kk : Nat} (hg : Gl X "enumerate") (hm : X.mg "enumerate" = none) (ha : PA X [e] ta) (hs : starEach [e] X.env = [(false, eval e X.env)] := by rfl) :
    PI X (.Tuple elts kk tpos) (.Call (.Name "enumerate" p) [e] [] pos) (iEnT X.K ta) := by
  refine ⟨fun pins s σ H R I h => ?_⟩
  refine Call_ (ld_blt I hg hm boot_enumerate (PyProof.Rows.callWith_type1 (thn (ha.run pos pins s σ H _ I h) fun us s1 ⟨vs, H1, I1, r1, a, xs, ex, hq, q⟩ => ?_) hs rfl))
  subst ex
  obtain rfl := Vals.ref1 r1
  obtain ⟨its, rv, p', hz⟩ := I1.tuple hq
  have B := begins_tuple a its.toArray
  have hal : a < s1.heap.objs.size := by obtain ⟨o, e1, _⟩ := id p'; exact Heap.lt_size e1
  refine callType_new F.called_enumerate (by decide) (F.typeCall_enumerate_1 _) (F.newCall_enumerate_1 _) (fun obj => F.args_object_init_2 obj _) F.entry_enumerate_new (meets_enum1 B) ⟨p', ?_⟩
  have hz2 : (s1.heap.push { cls := .type "tuple_iterator", data := .fields #[.ref a, .int 0 0] }).objs.size = s1.heap.objs.size + 1 := Heap.size_push ..
  show _ ∧ _
  rw [hz2]
  generalize hh : (s1.heap.push { cls := .type "tuple_iterator", data := .fields #[.ref a, .int 0 0] }).push { cls := .type "enumerate", data := .fields #[.none, .bool false, .ref s1.heap.objs.size, rawInt 0, .none, .none] } = h'
  have he : IsEnum h' (s1.heap.objs.size + 1) s1.heap.objs.size 0 .none := by
    rw [← hh, ← hz2]
    exact Heap.get?_push_size _ rfl
  have hi : h'.IsTupleIter s1.heap.objs.size a 0 := by
    rw [← hh]
    exact ⟨_, Heap.get?_push_of_some _ (Heap.get?_push_size _ rfl), rfl, rfl⟩
  have hk : ∀ b o, s1.heap.get? b = some o → h'.get? b = some o := fun b o x => by
    rw [← hh]
    exact Heap.get?_push_of_some _ (Heap.get?_push_of_some _ x)
  refine ⟨⟨_, he, rfl⟩, wpAny_pyIter_enum he ?_⟩
  have I2 : Inv X pins σ H1 { s1 with heap := h' } := I1.kept (t' := s1.toks) hk
  refine ⟨s1.heap.objs.size + 1, [s1.heap.objs.size + 1, s1.heap.objs.size], _, _, H1, rfl, I2, turn_enumT a (s1.heap.objs.size + 1) s1.heap.objs.size, ⟨⟨.none, he⟩, hi, Nat.succ_ne_self _, Nat.ne_of_lt hal, Nat.ne_of_lt (Nat.lt_succ_of_lt hal)⟩, fun b hb => ?_, q⟩
  have hle : s1.heap.objs.size ≤ b := by
    rcases List.mem_cons.mp hb with z | z
    · rw [z]; exact Nat.le_add_right _ _
    · rw [List.mem_singleton.mp z]; exact Nat.le_refl _
  exact I1.fpOk hle (I1.hok.fresh hle)
/-! ### sets of ints -/
theorem setR_list {w : World} {h : Heap} {a : Addr} {S : Int → Bool} {n : Nat} (R : SetR w h a S n) : ∃ ks : List Int, ks.Nodup ∧ (∀ j, j ∈ ks ↔ S j = true) ∧ ks.length = n := by
  obtain ⟨o, es, ep, t, ho, hex, hdt, g, nd, hm2, hb, hf, hn, hr, hl2⟩ := R
  exact ⟨es.toList.map L2.keyOf, nd, fun j => (hm2 j).symm, by rw [List.length_map, Array.length_toList, hn]⟩
/-- set(t), t a tuple of ints -/
def rSetT (w : World) (K : PySem.W.Frag) : List V → Hp → VK → Prop := fun xs H Q => ∃ (a : Addr) (ns : List Int), xs = [.ref a] ∧ SqT K H a (ns.map V.int) ∧ ns.length ≤ 1000 ∧
  ∀ (p : Addr) (S : Int → Bool) (n : Nat) (ks : List Int), H p = none → ks.Nodup → (∀ j, j ∈ ks ↔ j ∈ ns) → ks.length = n → (∀ j, S j = true ↔ j ∈ ns) → Q (.ref p) (upd H p (SetO w p S n))
theorem cr_setT {X : Cx} (hc : X.calm = true) : CallR X (.type "set") (rSetT X.w X.K) := by
  intro pins s σ H xs us Q I r h
  obtain ⟨a, ns, rfl, hq, hl, q⟩ := h
  obtain rfl := Vals.ref1 r
  obtain ⟨its, rv, pt, hz⟩ := I.tuple hq
  have hi : IntsAre its.toArray.toList ns := rv.ints
  refine call_set_tupI ns (I.ok.hd hc) (show s.heap.IsTuple a its.toArray from pt) hi (by unfold scanBound; omega) fun h' tk c R1 hcn k => ?_
  obtain ⟨ks, k1, k2, k3⟩ := setR_list R1
  have hm : ∀ j, decide (j ∈ ns) = true ↔ j ∈ ns := fun j => decide_eq_true_iff
  exact ⟨.ref _, upd H s.heap.objs.size (SetO X.w s.heap.objs.size (fun j => decide (j ∈ ns)) c), I.laid (t' := tk) k (Nat.le_refl _) (setO_new R1), rfl, q _ _ _ ks (I.hok.fresh (Nat.le_refl _)) k1 (fun j => (k2 j).trans (hm j)) k3 hm⟩
/-- len(a set) -/
theorem cr_lenSet {X : Cx} : CallR X (.builtin "len") (fun xs H Q => ∃ (a : Addr) (S : Int → Bool) (n : Nat), xs = [.ref a] ∧ H a = some (SetO X.w a S n) ∧ n < 4000 ∧ Q (.int (n : Nat)) H) := by
  intro pins s σ H xs us Q I r h
  obtain ⟨a, S, n, rfl, ha, hn4, q⟩ := h
  obtain rfl := Vals.ref1 r
  obtain ⟨o, es, ep, t, ho, hex, hdt, g, nd, hm2, hb, hf, hn, hr, hl2⟩ := setO_get I ha
  exact call_len_set ho hex hdt hf (by rw [hn]; omega) ⟨.int (n : Nat), H, I.tok _, ⟨_, by rw [hn]⟩, q⟩
end Rs
set_option maxHeartbeats 6400000
/-! set of a list of ints, with the order's facts -/
namespace Rs
open PySem PySem.Spec PyProof.Rows L2
abbrev sob (w : World) : Obj := { cls := .type "set", dict := none, data := .set #[] 0 (.fresh 0 0 (!w.params.followText "set-order")) }
section
variable {P : Program} {w : World} {A : Around} {E : Value → Shared → Prop} {s : Shared}
theorem call_set_lst {l : Addr} {items : Array Value} (ns : List Int) {Q : Value → Shared → Prop} (hh : A.handled = none) (hl : s.heap.IsList l items) (hit : IntsAre items.toList ns) (hb : ns.length + 1 < scanBound)
    (h : ∀ (h' : Heap) (tk c : Nat), SetR w h' s.heap.objs.size (fun j => decide (j ∈ ns)) c → c ≤ ns.length → (∀ b o, s.heap.get? b = some o → h'.get? b = some o) → Q (.ref s.heap.objs.size) { s with heap := h', toks := tk }) :
    wpAny (model P w) A (call (.type "set") [.ref l]) Q E s := by
  have hisz : items.size = ns.length := by
    have q := hit.length
    rwa [Array.length_toList] at q
  obtain ⟨c, tl, hmro⟩ := F.called_set.mro
  have hmade := F.called_set.made
  have hsub := F.called_set.sub
  refine wpAny_call (codeAny_of_tree ?_)
  show wpAny _ _ (callAny (.type "set") _) _ _ _
  refine wpAny_pure ⟨Code.quiet_builtin _ (by decide +kernel), codeAny_builtin F.entry_type_call ?_⟩
  rw [Around.under_plain (weight_type_call_type "set" [.ref l] []) rfl]
  have h1 := F.called_set.notType
  have h2 := F.called_set.canCreate
  have hct := F.typeCall_set_1 (.ref l)
  repeat (any_goals (first | assumption | wp_step))
  refine codeAny_mono (code_set_led1 (.ref l) (E := E) (Q₁ := fun obj s₁ => obj = .ref s.heap.objs.size ∧ s₁ = { s with heap := s.heap.push (sob w) }) ⟨rfl, rfl⟩) fun r s₁ hr => ?_
  cases r with
  | error e => exact hr
  | ok fl =>
    cases fl with
    | next => exact False.elim hr
    | brk => exact False.elim hr
    | cont => exact False.elim hr
    | ret obj =>
      obtain ⟨rfl, rfl⟩ := hr
      have hS : (s.heap.push (sob w)).get? s.heap.objs.size = some (sob w) := Heap.get?_push_size _ rfl
      have hT : Shared.TypeIs { s with heap := s.heap.push (sob w) } (.ref s.heap.objs.size) "set" := ⟨_, hS, rfl⟩
      have hli := F.called_set.init.lookup
      have hbi := F.called_set.init.bind (.ref s.heap.objs.size)
      repeat (any_goals (first | assumption | wp_step))
      refine codeAny_mono (codeAny_call_builtin (R := wants (fun r s₂ => r = .none ∧ ∃ h' tk c, s₂ = { s with heap := h', toks := tk } ∧ SetR w h' s.heap.objs.size (fun j => decide (j ∈ ns)) c ∧ c ≤ ns.length ∧
          (∀ b o, s.heap.get? b = some o → h'.get? b = some o)) E) F.called_set.init.plain F.entry_set_init (check_set_init_1 hT ?_)) fun r₂ s₂ hr₂ => ?_
      · obtain ⟨⟨ocls, odict, odata, oslots⟩, hol, hcl, nl, hdl⟩ := hl
        simp only at hcl hdl
        subst hcl; subst hdl
        have hol' := Heap.get?_push_of_some (sob w) hol
        have hsls := F.sub_list_set
        have hslf := F.sub_list_frozenset
        have hne : (Value.type "list" == Value.type "dict") = false := by decide
        have hl1 : (s.heap.push (sob w)).IsList l items := ⟨_, hol', rfl, nl, rfl⟩
        unfold Builtin.«set.__init__» noKeywords Builtin.Frozenset.updateFrom
        generalize hPI : pyIter = PI
        wp_walk
        subst hPI
        refine wpAny_pyIter_list hl1 (wpAny_bind (wpAny_runValue ?_))
        have hlS : l < s.heap.objs.size := Heap.lt_size hol
        have hh3 : A.in1.in1.in1.handled = none := by simp [hh]
        have hz1 : (s.heap.push (sob w)).objs.size = s.heap.objs.size + 1 := Heap.size_push ..
        have hneI : l ≠ (s.heap.push (sob w)).objs.size := by
          rw [hz1]; exact Nat.ne_of_lt (Nat.lt_succ_of_lt hlS)
        have hSf : s.heap.objs.size ∉ [(s.heap.push (sob w)).objs.size, l] := fun hm => by
          rcases List.mem_cons.mp hm with z | z
          · rw [hz1] at z; exact absurd z (Nat.ne_of_lt (Nat.lt_succ_self _))
          · exact absurd (List.mem_singleton.mp z) (Nat.ne_of_gt hlS)
        have hval : ∀ (i : Nat) (v : Value), items[i]? = some v → ∃ k t, ns[i]? = some k ∧ v = .int k t := fun i v hv => by
          have hi : i < ns.length := by rw [← hisz]; exact (Array.getElem?_eq_some_iff.mp hv).1
          obtain ⟨t, e⟩ := hit.get i ns[i] (List.getElem?_eq_getElem hi)
          rw [Array.getElem?_toList, hv] at e
          exact ⟨ns[i], t, List.getElem?_eq_getElem hi, Option.some.inj e⟩
        refine set_update_ints ((Walks.list hh3 _ l hneI items).toS) s.heap.objs.size hSf ns hisz hb hval (items.size - 0) 0 _ (by omega) (Nat.zero_le _) ⟨⟨_, Heap.get?_push_size _ rfl, rfl, rfl⟩, hl1.push _⟩ ?hS0 ?hR
        case hS0 => exact ⟨0, Nat.le_refl 0, setR_new_at (Heap.get?_push_of_some _ hS)⟩
        case hR =>
          intro s' c' hm hc' hS'
          obtain ⟨h', g2, d', tk', os'⟩ := s'
          obtain rfl : g2 = s.gens := hm.gens
          obtain rfl : d' = s.drawn := hm.drawn
          obtain rfl : os' = s.os := hm.os
          show wpAny _ _ _ _ _ _
          refine wpAny_pure ?_
          show wpAny _ _ (ret Value.none) _ _ _
          rw [hisz] at hc'
          refine wpAny_pure ⟨rfl, h', tk', c', rfl, hS', hc', fun b o e => ?_⟩
          have hb0 : b < s.heap.objs.size := Heap.lt_size e
          refine hm.heap b o (fun hmem => ?_) (Heap.get?_push_of_some _ (Heap.get?_push_of_some _ e))
          rcases List.mem_cons.mp hmem with z | z
          · exact absurd z (Nat.ne_of_lt hb0)
          · have z2 := List.mem_singleton.mp z
            rw [hz1] at z2
            exact absurd z2 (Nat.ne_of_lt (Nat.lt_succ_of_lt hb0))
      · cases r₂ with
        | error e => exact hr₂
        | ok f2 =>
          cases f2 with
          | next => exact hr₂.elim
          | brk => exact hr₂.elim
          | cont => exact hr₂.elim
          | ret r =>
            obtain ⟨rfl, h', tk, c', rfl, hS', hc', hk'⟩ := hr₂
            repeat (any_goals (first | assumption | wp_step))
            exact h _ _ _ hS' hc' hk'
end
/-- set(l), l a list of ints -/
def rSetL (w : World) (K : PySem.W.Frag) : List V → Hp → VK → Prop := fun xs H Q => ∃ (a : Addr) (ns : List Int), xs = [.ref a] ∧ SqL K H a (ns.map V.int) ∧ ns.length ≤ 1000 ∧
  ∀ (p : Addr) (S : Int → Bool) (n : Nat) (ks : List Int), H p = none → ks.Nodup → (∀ j, j ∈ ks ↔ j ∈ ns) → ks.length = n → (∀ j, S j = true ↔ j ∈ ns) → n ≤ ns.length → Q (.ref p) (upd H p (SetO w p S n))
theorem cr_setL {X : Cx} (hc : X.calm = true) : CallR X (.type "set") (rSetL X.w X.K) := by
  intro pins s σ H xs us Q I r h
  obtain ⟨a, ns, rfl, hq, hl, q⟩ := h
  obtain rfl := Vals.ref1 r
  obtain ⟨its, rv, pt, hz⟩ := I.list hq
  have hi : IntsAre its.toArray.toList ns := rv.ints
  refine call_set_lst ns (I.ok.hd hc) pt.isList hi (by unfold scanBound; omega) fun h' tk c R1 hcn k => ?_
  obtain ⟨ks, k1, k2, k3⟩ := setR_list R1
  have hm : ∀ j, decide (j ∈ ns) = true ↔ j ∈ ns := fun j => decide_eq_true_iff
  exact ⟨.ref _, upd H s.heap.objs.size (SetO X.w s.heap.objs.size (fun j => decide (j ∈ ns)) c), I.laid (t' := tk) k (Nat.le_refl _) (setO_new R1), rfl, q _ _ _ ks (I.hok.fresh (Nat.le_refl _)) k1 (fun j => (k2 j).trans (hm j)) k3 hm hcn⟩
end Rs
set_option maxHeartbeats 4000000
/-! {t: v}, t a tuple; the tables as one relation -/
namespace Rs
open PySem PySem.Spec PyProof.Rows L2 LamX
theorem room_of {A : Around} (hu : A.units + 1 < cLine) : A.units + 1 < cLine := hu
/-- {k: v}, k a tuple -/
def tDispT (tk tv : TE) : TE := fun σ H Q => ∀ p, H p = none → tk σ (upd H p (.dT [])) fun x H1 => tv σ H1 fun y H2 => H2 p = some (.dT []) ∧ ∃ (b : Addr) (k : List Key), x = .ref b ∧ H2 b = some (.tup (k.map kV)) ∧ Q (.ref p) (upd H2 p (.dT [(k, y)]))
theorem pe_dispT {X : Cx} {pos : Pos} {k v : Expr} {tk tv : TE} (hu : X.A.units + 1 < cLine) (hk : PE X k tk) (hv : PE X v tv) : PE X (.Dict [some k] [v] pos) (tDispT tk tv) := by
  refine ⟨fun pins s σ H Q I q => ?_⟩
  have hn := I.hok.fresh (Nat.le_refl s.heap.objs.size)
  have I1 := I.laid (a := s.heap.objs.size) (o := .dT []) (h' := s.heap.push { cls := .type "dict", data := .dict #[] }) (t' := s.toks) (fun _ _ q => Heap.get?_push_of_some _ q) (Nat.le_refl _) (dt_empty s.heap I.big)
  rw [arm_eval_Dict, zip_pairTrees [some k] [v] X.env pos rfl rfl, dictDisplay_pairs _ (by intro z; cases z) (by show 1 < 17; decide)]
  refine wpAny_bind (wpAny_standAt (wpAny_bind (wpAny_subDictH (knd := tupleKind (mixKind X.prog X.w)) (show X.A.units < cLine from Nat.lt_of_succ_lt hu) (by show 1 ≤ 15; decide) ?_)))
  refine pairTrees_cons_walk (thn (hk.run pins _ σ _ _ I1 (q _ hn)) fun u s1 ⟨x, H1, I2, rx, q1⟩ => thn (hv.run pins s1 σ H1 _ I2 q1) fun w2 s2 ⟨y, H2, I3, ry, e, b, ks, ex, hb, q2⟩ => pairTrees_nil_walk ?_)
  subst ex
  obtain rfl : u = Value.ref b := rx
  obtain ⟨z, hd, xs, rel, dd⟩ := dt_of I3.hok e
  cases rel
  refine ⟨[(ks, b, w2)], ⟨rfl, rfl, key_of I3.hok hb, trivial⟩, dd, fun h' tk' dd' hs => wpAny_pure ⟨.ref s.heap.objs.size, _, ?_, rfl, q2⟩⟩
  obtain ⟨o, es, ep, ho, h2, h3, h4, _, h5⟩ := dd'
  refine d_write I3 (by rw [e]; exact True.intro) hs ⟨o, ho⟩ ⟨by show 1 ≤ sizeLine; decide, hd, [(ks, b, w2)], .cons ⟨rfl, ?_, ry⟩ .nil, o, es, ep, ho, h2, h3, h4, h5⟩
  rw [upd_ne (ne_of hb e (fun z => nomatch z))]
  exact hb
/-! ### the tables -/
abbrev qL (x : Str) : Str := x ++ ".<locals>." ++ "<lambda>"
structure Tb (K : PySem.W.Frag) (H : Hp) : Prop where
  ip : GxR.TabG H (tbA K "is_permutation")
  af : GxR.TabG H (tbA K "after")
  ff : TabS H (tbA K "from_front") (qL "from_front")
  le : TabS H (tbA K "_law_end") (qL "_law_end")
  lg : TabS H (tbA K "_law_goes") (qL "_law_goes")
def Stp (K : PySem.W.Frag) (H H' : Hp) : Prop := ExtN H H' ∧ Tb K H'
theorem Tb.ext {K : PySem.W.Frag} {H H' : Hp} (t : Tb K H) (e : ∀ b o, H b = some o → H' b = some o) : Tb K H' :=
  ⟨let ⟨ps, a, b⟩ := t.ip; ⟨ps, e _ _ a, b⟩, let ⟨ps, a, b⟩ := t.af; ⟨ps, e _ _ a, b⟩, t.ff.ext e, t.le.ext e, t.lg.ext e⟩
theorem Stp.refl {K : PySem.W.Frag} {H : Hp} (t : Tb K H) : Stp K H H := ⟨ExtN.refl H, t⟩
theorem Stp.trans {K : PySem.W.Frag} {H H1 H2 : Hp} (a : Stp K H H1) (b : Stp K H1 H2) : Stp K H H2 := ⟨a.1.trans b.1, b.2⟩
theorem Stp.same {K : PySem.W.Frag} {H H' : Hp} (t : Tb K H) (e : Same H H') : Stp K H H' := ⟨ExtN.of e, t.ext e⟩
theorem Stp.new {K : PySem.W.Frag} {H : Hp} {p : Addr} {o : HO} (t : Tb K H) (hp : H p = none) : Stp K H (upd H p o) := Stp.same t fun b u e => by rw [upd_ne (ne_of_none e hp)]; exact e
/-- a non-table object is written -/
theorem Tb.wr {K : PySem.W.Frag} {H : Hp} {p : Addr} {o u : HO} (t : Tb K H) (hp : H p = some u) (hu : ∀ ps, u ≠ .tbl ps) (hc : ∀ φ, u ≠ .ext φ) : Tb K (upd H p o) := by
  have g : ∀ P, GxR.TabG H P → GxR.TabG (upd H p o) P := fun P ⟨ps, a, b⟩ => ⟨ps, by rw [upd_ne (fun z => by rw [z, hp] at a; exact hu ps (Option.some.inj a))]; exact a, b⟩
  have l : ∀ P q, TabS H P q → TabS (upd H p o) P q := fun P q ⟨ps, a, b, c⟩ => ⟨ps, by rw [upd_ne (fun z => by rw [z, hp] at a; exact hu ps (Option.some.inj a))]; exact a, b, fun pos cv h => by
    obtain ⟨d, e1, e2⟩ := c pos cv h
    refine ⟨d, e1, ?_⟩
    rw [upd_ne (fun z => by rw [z, hp] at e2; unfold CodeO at e2; exact hc _ (Option.some.inj e2))]
    exact e2⟩
  exact ⟨g _ t.ip, g _ t.af, l _ _ t.ff, l _ _ t.le, l _ _ t.lg⟩
theorem tabG_but {H H' : Hp} {P P' : Addr} (t : GxR.TabG H P') (n : P' ≠ P) (b : ButP P H H') : GxR.TabG H' P' := let ⟨ps, a, c⟩ := t; ⟨ps, b _ _ n a, c⟩
theorem tabS_but {H H' : Hp} {P P' : Addr} {q : Str} (t : TabS H P' q) (n : P' ≠ P) (hP : ∃ ps, H P = some (.tbl ps)) (b : ButP P H H') : TabS H' P' q := by
  obtain ⟨ps, a, c, d⟩ := t
  obtain ⟨ps0, h0⟩ := hP
  refine ⟨ps, b _ _ n a, c, fun pos cv h => ?_⟩
  obtain ⟨x, e1, e2⟩ := d pos cv h
  exact ⟨x, e1, b _ _ (fun z => by rw [z, h0] at e2; exact codeO_ne _ (Option.some.inj e2).symm) e2⟩
theorem ButP.extN {H H' : Hp} {P : Addr} (b : ButP P H H') (hP : ∃ ps, H P = some (.tbl ps)) : ExtN H H' := fun c o e n => b c o (fun z => by
  obtain ⟨ps, h⟩ := hP
  rw [z, h] at e
  exact n ps (Option.some.inj e).symm) e
section
variable {K : PySem.W.Frag} {mg : Str → Option Value} {H H' : Hp}
theorem Tx.ap (T : Tx K mg) : tbA K "is_permutation" ≠ tbA K "after" ∧ tbA K "is_permutation" ≠ tbA K "from_front" ∧ tbA K "is_permutation" ≠ tbA K "_law_end" ∧ tbA K "is_permutation" ≠ tbA K "_law_goes" ∧ tbA K "after" ≠ tbA K "from_front" ∧
    tbA K "after" ≠ tbA K "_law_end" ∧ tbA K "after" ≠ tbA K "_law_goes" ∧ tbA K "from_front" ≠ tbA K "_law_end" ∧ tbA K "from_front" ≠ tbA K "_law_goes" ∧ tbA K "_law_end" ≠ tbA K "_law_goes" := by
  have h := T.apart
  simp only [List.nodup_cons, List.mem_cons, List.not_mem_nil, or_false, not_or] at h
  obtain ⟨⟨a, b, c, d⟩, ⟨e, f, g⟩, ⟨i, j⟩, k, _⟩ := h
  exact ⟨a, b, c, d, e, f, g, i, j, k⟩
theorem tabG_has {P : Addr} (t : GxR.TabG H P) : ∃ ps, H P = some (.tbl ps) := let ⟨ps, a, _⟩ := t; ⟨ps, a⟩
theorem tabS_has {P : Addr} {q : Str} (t : TabS H P q) : ∃ ps, H P = some (.tbl ps) := let ⟨ps, a, _⟩ := t; ⟨ps, a⟩
theorem tabbed_but {P : Addr} (t : GxR.Tabbed P H H') : ButP P H H' := fun b o n e => by rw [t.2 b n]; exact e
theorem stp_ip (T : Tx K mg) (t : Tb K H) (g : GxR.Tabbed (tbA K "is_permutation") H H') : Stp K H H' := by
  have b := tabbed_but g
  have hP := tabG_has t.ip
  obtain ⟨a1, a2, a3, a4, a5, a6, a7, a8, a9, a10⟩ := T.ap
  exact ⟨b.extN hP, g.1, tabG_but t.af a1.symm b, tabS_but t.ff a2.symm hP b, tabS_but t.le a3.symm hP b, tabS_but t.lg a4.symm hP b⟩
theorem stp_af (T : Tx K mg) (t : Tb K H) (g : GxR.Tabbed (tbA K "after") H H') : Stp K H H' := by
  have b := tabbed_but g
  have hP := tabG_has t.af
  obtain ⟨a1, a2, a3, a4, a5, a6, a7, a8, a9, a10⟩ := T.ap
  exact ⟨b.extN hP, tabG_but t.ip a1 b, g.1, tabS_but t.ff a5.symm hP b, tabS_but t.le a6.symm hP b, tabS_but t.lg a7.symm hP b⟩
theorem stp_ff (T : Tx K mg) (t : Tb K H) (b : ButP (tbA K "from_front") H H') (g : TabS H' (tbA K "from_front") (qL "from_front")) : Stp K H H' := by
  have hP := tabS_has t.ff
  obtain ⟨a1, a2, a3, a4, a5, a6, a7, a8, a9, a10⟩ := T.ap
  exact ⟨b.extN hP, tabG_but t.ip a2 b, tabG_but t.af a5 b, g, tabS_but t.le a8.symm hP b, tabS_but t.lg a9.symm hP b⟩
theorem stp_le (T : Tx K mg) (t : Tb K H) (b : ButP (tbA K "_law_end") H H') (g : TabS H' (tbA K "_law_end") (qL "_law_end")) : Stp K H H' := by
  have hP := tabS_has t.le
  obtain ⟨a1, a2, a3, a4, a5, a6, a7, a8, a9, a10⟩ := T.ap
  exact ⟨b.extN hP, tabG_but t.ip a3 b, tabG_but t.af a6 b, tabS_but t.ff a8 hP b, g, tabS_but t.lg a10.symm hP b⟩
theorem stp_lg (T : Tx K mg) (t : Tb K H) (b : ButP (tbA K "_law_goes") H H') (g : TabS H' (tbA K "_law_goes") (qL "_law_goes")) : Stp K H H' := by
  have hP := tabS_has t.lg
  obtain ⟨a1, a2, a3, a4, a5, a6, a7, a8, a9, a10⟩ := T.ap
  exact ⟨b.extN hP, tabG_but t.ip a4 b, tabG_but t.af a7 b, tabS_but t.ff a9 hP b, tabS_but t.le a10 hP b, g⟩
end
/-- what the walks lean on -/
structure Gd (K : PySem.W.Frag) (mg : Str → Option Value) (base : Heap) : Prop where
  T : Tx K mg
  B : ∀ x ∈ (["is_permutation", "after", "from_front", "_law_end", "_law_goes"] : List Str), LamX.TabB base mg (cdA K x) (tbA K x)
theorem Gd.g {K : PySem.W.Frag} {mg : Str → Option Value} {base : Heap} (G : Gd K mg base) {x : Str} (h : x ∈ (["is_permutation", "after", "from_front", "_law_end", "_law_goes"] : List Str)) : GxR.TabB base mg (cdA K x) (tbA K x) :=
  ⟨(G.B x h).code, (G.B x h).bm, (G.B x h).gP⟩
end Rs
set_option maxHeartbeats 4000000
/-! is_permutation -/
namespace Rs
open PySem PySem.Spec PyProof.Rows L2 LamX
section
variable {X : Cx}
/-- is_number(x, 0, hi) as a generator's element -/
theorem elt_num {P : Addr} {scope : Scope} {x : Str} {hiE : Expr} {j0 : Nat} {p0 p1 p2 pos : Pos} {Rb : (Int → Bool) → L2.St → Hp → Prop} (T : Tx X.K X.mg) (hk : scope.kind = .function) (hx : scope.names.lookup x = some .local) (hn : scope.names.lookup ("is_number" : Str) = some .globalImplicit)
    (hhi : ∀ (pins : List (Addr × Obj)) (s1 : Shared) (σ : L2.St) (H1 : Hp) (pb : Int → Bool), Inv X pins σ H1 s1 → Rb pb σ H1 → ∃ hi : Int, pb = (fun i => btw i 0 hi) ∧
      ∀ (cenv : Env) (A' : Around) (E' : Value → Shared → Prop) (s₂ : Shared), cenv.scope = scope → cenv.globals = X.env.globals → cenv.builtins = builtinsNs → cenv.cells = cloFrom X.env.cells scope.names [] → RawH X.K X.mg s₂.heap →
        (∀ b o, b ≠ P → s1.heap.get? b = some o → s₂.heap.get? b = some o) → wpAny (model X.prog X.w) A' (eval hiE cenv) (fun y s₃ => (∃ t, y = .int hi t) ∧ Keeps s₂ s₃) E' s₂)
    (hd : (x == ("__debug__" : Str)) = false := by decide) (hroom : X.A.depth + 1 < recursionLimit)
    (hs : ∀ env : Env, starEach [hiE] env = (false, eval hiE env) :: [] := by intro _; rfl) :
    EltG X P scope x (.Call (.Name "is_number" p2) [.Name x p0, .Constant (.int 0) j0 p1, hiE] [] pos) Rb := by
  intro pins s1 σ H1 pb I hR cenv A' E' i t s₂ m₂ esc eg eb ec hA hD RH k2 hn2 hm
  obtain ⟨hi, rfl, hh⟩ := hhi pins s1 σ H1 pb I hR
  have hkind : cenv.scope.kind = .function := by rw [esc]; exact hk
  have eg2 : cenv.globals = mainGlobals := by rw [eg]; exact I.ok.glob
  refine wpAny_Call_Name_kw (Calls.Name_function_global hkind (by show cenv.scope.names.lookup ("is_number" : Str) = _; rw [esc]; exact hn) (Calls.loadGlobal_global (mg := X.mg) (by rw [eg2]; exact RH.glob) T.g_is_number ?_) (by decide))
  have es0 : starEach [.Constant (.int 0) j0 p1, hiE] cenv = (false, eval (.Constant (.int 0) j0 p1) cenv) :: (false, eval hiE cenv) :: [] := by
    rw [← hs]
    rfl
  have es1 : starEach [.Name x p0, .Constant (.int 0) j0 p1, hiE] cenv = (false, eval (.Name x p0) cenv) :: starEach [.Constant (.int 0) j0 p1, hiE] cenv := rfl
  refine PySem.W.callWith_K (h₀ := s₂.heap) RH.kin T.F_is_number.kp ?_ es1 (by rw [es0]; rfl)
  have es : backTo pos (starEach [.Name x p0, .Constant (.int 0) j0 p1, hiE] cenv) = backTo pos ((false, eval (.Name x p0) cenv) :: (false, eval (.Constant (.int 0) j0 p1) cenv) :: (false, eval hiE cenv) :: []) := by rw [es1, es0]
  rw [es]
  refine Calls.spliced_cons (wpAny_Name (wpAny_loadName_local hkind (by show cenv.scope.names.lookup x = _; rw [esc]; exact hx) hn2 hm ?_) hd)
  refine Calls.spliced_cons (wpAny_Constant_int (i := 0) (k := j0) (pos := p1) ?_)
  refine Calls.spliced_cons (wpAny_mono (hh cenv A' E' _ esc eg eb ec (RH) k2) (fun y s₃ ⟨⟨t3, ey⟩, hk3⟩ => ?_) fun _ _ e => e)
  subst ey
  obtain ⟨h3, tk3, rfl, kk⟩ := hk3
  refine Calls.spliced_nil ⟨RH.kin.keeps kk, wpAny_call (codeAny_mono (isnum_call (i := i) (lo := 0) (hi := hi) (t1 := t) (t2 := s₂.toks) (t3 := t3) T (by omega) (RH.keeps kk) ?_) fun r s' hq => ?_)⟩
  · exact T.b_is_number _ [.int i t, .int 0 s₂.toks, .int hi t3] (RH.kin.keeps kk) rfl
  · obtain ⟨rfl, hk4⟩ := hq
    exact ⟨rfl, keeps_trans ⟨h3, tk3, rfl, kk⟩ hk4⟩
end
def genSB (sc scope : Scope) (x : Str) : Bool :=
  decide (scope.kind = .function) && !scope.isCoroutine && (scope.names.all fun y => !decide (y.2 = .cell)) && decide (scope.names.lookup (".0" : Str) = some NameKind.local) && decide (scope.names.lookup x = some .local) && scope.names.all fun y => !decide (y.2 = .free) || decide (sc.names.lookup y.1 = some .cell)
theorem genS_by {qual : Str} {sc scope : Scope} {x : Str} {L f : Addr} {cd : Value} (h : genSB sc scope x = true) : GxR.GenS (envOfC qual sc L f cd) scope x := by
  unfold genSB at h
  simp only [Bool.and_eq_true, Bool.or_eq_true, Bool.not_eq_true', decide_eq_true_eq, decide_eq_false_iff_not, List.all_eq_true] at h
  obtain ⟨⟨⟨⟨⟨h1, h2⟩, h3⟩, h4⟩, h5⟩, h6⟩ := h
  refine ⟨h1, h2, h3, h4, h5, fun y hy e => ?_⟩
  rcases h6 y hy with z | z
  · exact absurd e z
  · exact Option.isSome_iff_exists.mp (PySem.W.cellsFrom_some _ _ _ (.inl z))
/-- a captured name within a generator's frame -/
theorem gen_free {X : Cx} {pins : List (Addr × Obj)} {s1 : Shared} {σ : L2.St} {H1 : Hp} {P : Addr} {i : Nat} {y : Str} {v : V} {scope : Scope} (I : Inv X pins σ H1 s1) (hN : X.N[i]? = some y) (hσ : σ[i]? = some (some v)) (hc : X.env.scope.names.lookup y = some .cell) (hfr : scope.names.lookup y = some .free)
    (hk : scope.kind = .function) (hP : ∃ ps, H1 P = some (.tbl ps)) (hd : (y == ("__debug__" : Str)) = false := by decide) (hcd : (y == ("__classdict__" : Str)) = false := by decide) :
    ∃ u : Value, RelV v u ∧ ∀ (cenv : Env) (A' : Around) (E' : Value → Shared → Prop) (s₂ : Shared) (p : Pos) (Q : Value → Shared → Prop), cenv.scope = scope → cenv.cells = cloFrom X.env.cells scope.names [] →
      (∀ b o, b ≠ P → s1.heap.get? b = some o → s₂.heap.get? b = some o) → Q u s₂ → wpAny (model X.prog X.w) A' (eval (.Name y p) cenv) Q E' s₂ := by
  obtain ⟨m2, hn2, hl2⟩ := I.loc
  obtain ⟨u, ru, hlk⟩ := hl2 i y v hN hσ (.inr (.inl hc))
  obtain ⟨cc, hcc, hcell⟩ : ∃ cc, X.env.cells.lookup y = some cc ∧ s1.heap.IsCell cc (some u) := by
    rcases hlk with ⟨k', _⟩ | ⟨_, z⟩
    · have k' : X.env.scope.names.lookup y = some .local := k'
      rw [hc] at k'
      cases k'
    · exact z
  have hcl : (cloFrom X.env.cells scope.names []).lookup y = some cc := by
    have hy : (y, NameKind.free) ∈ scope.names := PySem.mem_of_lookup hfr
    obtain ⟨c2, e2⟩ := mem_lookup (cloFrom_has (cells := X.env.cells) (acc := []) hy)
    rw [e2]
    rcases cloFrom_mem (PySem.mem_of_lookup e2) with hm | ⟨h1, h2⟩
    · cases hm
    · rw [h2, hcc]
      rfl
  refine ⟨u, ru, fun cenv A' E' s₂ p Q esc ec k2 q => ?_⟩
  refine wpAny_Name (wpAny_loadName_free (by rw [esc]; exact hk) (by show cenv.scope.names.lookup y = _; rw [esc]; exact hfr) (by rw [ec]; exact hcl) (v := u) ?_ q hcd) hd
  obtain ⟨o, ho, hd'⟩ := hcell
  refine ⟨o, k2 _ _ (fun z => ?_) ho, hd'⟩
  obtain ⟨ps, hP⟩ := hP
  have := I.freeC y cc hcc
  rw [z, hP] at this
  cases this
theorem room1 {k : Nat} {A : Around} (hr : Room k A) : A.depth + 1 < recursionLimit := by
  have h1 := hr.dp
  omega
/-! ### small counting -/
theorem dec_nat {a b : Nat} {x : Int} (h : x = (a : Int)) : decide (V.int x = V.int (b : Nat)) = decide (a = b) := by
  subst h
  refine decide_eq_decide.mpr ⟨fun z => ?_, fun z => by rw [z]⟩
  have z2 : (a : Int) = (b : Int) := V.int.inj z
  omega
theorem nodup_len {α : Type} [DecidableEq α] : ∀ {l m : List α}, l.Nodup → (∀ z ∈ l, z ∈ m) → l.length ≤ m.length
  | [], _, _, _ => Nat.zero_le _
  | x :: l, m, h, s => by
    obtain ⟨h1, h2⟩ := List.nodup_cons.mp h
    have hx := s x List.mem_cons_self
    have := nodup_len (m := m.erase x) h2 fun z hz => (List.mem_erase_of_ne (fun e => h1 (by rw [← e]; exact hz))).mpr (s z (List.mem_cons_of_mem _ hz))
    rw [List.length_erase_of_mem hx] at this
    have hp : 0 < m.length := List.length_pos_of_mem hx
    rw [List.length_cons]
    omega
/-- a list that holds each of a nodup list, no longer than it, is nodup -/
theorem nodup_of_len {α : Type} [DecidableEq α] : ∀ {m l : List α}, l.Nodup → (∀ z ∈ m, z ∈ l) → m.length ≤ l.length → (∀ z ∈ l, z ∈ m) → m.Nodup
  | [], _, _, _, _, _ => List.nodup_nil
  | x :: m, l, h, s, hl, t => by
    have hx : x ∈ l := s x List.mem_cons_self
    have hxm : x ∉ m := fun hm => by
      have h1 : l.length ≤ m.length := nodup_len h fun z hz => by
        rcases List.mem_cons.mp (t z hz) with e | e
        · rw [e]; exact hm
        · exact e
      rw [List.length_cons] at hl
      omega
    refine List.nodup_cons.mpr ⟨hxm, nodup_of_len (l := l.erase x) (h.erase x) (fun z hz => ?_) ?_ fun z hz => ?_⟩
    · exact (List.mem_erase_of_ne (fun e => hxm (by rw [← e]; exact hz))).mpr (s z (List.mem_cons_of_mem _ hz))
    · rw [List.length_erase_of_mem hx]
      rw [List.length_cons] at hl
      omega
    · have hz2 := List.mem_of_mem_erase hz
      rcases List.mem_cons.mp (t z hz2) with e | e
      · subst e
        exact absurd hz (h.not_mem_erase)
      · exact e
theorem nodup_map {xs : List Nat} (h : xs.Nodup) : (xs.map fun k : Nat => (k : Int)).Nodup := by
  rw [List.nodup_iff_pairwise_ne, List.pairwise_map]
  exact h.imp fun n e => n (by omega)
theorem nodup_unmap {xs : List Nat} (h : (xs.map fun k : Nat => (k : Int)).Nodup) : xs.Nodup := by
  rw [List.nodup_iff_pairwise_ne, List.pairwise_map] at h
  exact h.imp fun n e => n (by rw [e])
/-! ### is_permutation -/
def isPerm (n : Nat) (xs : List Nat) : Bool := decide (xs.length = n ∧ xs.Nodup ∧ ∀ x ∈ xs, x < n)
abbrev vT (xs : List Nat) : HO := .tup (vI xs)
def spPerm (K : PySem.W.Frag) : Sp := fun vs H Q _ => ∃ (a : Addr) (xs : List Nat) (n : Nat), vs = [.ref a, .int (n : Int)] ∧ H a = some (vT xs) ∧ xs.length ≤ 100 ∧ Tb K H ∧ ∀ H', Stp K H H' → Q (.bl (isPerm n xs)) H'
theorem vI_map (xs : List Nat) : vI xs = (xs.map fun k : Nat => (k : Int)).map V.int := by
  rw [List.map_map]
  rfl
theorem vI_length (xs : List Nat) : (vI xs).length = xs.length := List.length_map _
section
variable {P : Program} {w : World} {K : PySem.W.Frag} {mg : Str → Option Value} {base : Heap}
theorem scPerm : FnScope ["value", "many"] ["value", "many"] (defScope s_is_permutation) := ⟨rfl, rfl, rfl, by decide +kernel, rfl, by decide +kernel, by decide +kernel⟩
theorem ok_perm (G : Gd K mg base) : FnOk P w K mg base CX0 1 (He.ga K "is_permutation") (fdO K "is_permutation") ["value", "many"] (spPerm K) := by
  have T := G.T
  refine T.F_is_permutation.ok scPerm (fun vs H Q E h => ?_) (fun A outer s H vs Q E hr h => ?_)
  · obtain ⟨a, xs, n, rfl, _⟩ := h
    rfl
  · obtain ⟨a, xs, n, rfl, ha, hz, hT, q⟩ := h
    refine ⟨_, PSs.nox (pss_cons (ps_if (PW.pt (pw_or (pt_not (pt_val (pe_callB call_isi (by rfl) T.z_isinstance boot_isinstance (pa_cons (pv 0) (pa_cons (pe_bltn (by rfl) T.z_tuple boot_tuple (v := .ty "tuple") rfl) pa_nil)))))
      (pw_or1 (pt_cmpR op_ne (pe_callB call_len_seq (by rfl) T.z_len boot_len (pa_cons (pv 0) pa_nil)) (pv 1) (nomark _))))) (pss_one (ps_ret pe_bl)) pss_nil)
      (pss_one (ps_ret (pe_and (pe_allG (Rb := fun pb σ H1 => σ[1]? = some (some (.int (n : Int))) ∧ pb = (fun i => btw i 0 ((n : Int) - 1)) ∧ ∃ ps, H1 (tbA K "is_permutation") = some (.tbl ps)) hr (by rfl) T.z_all (G.g (x := "is_permutation") (by decide)) rfl (genS_by (by decide +kernel)) (pv 0)
        (elt_num T rfl rfl rfl ?hi (by decide) ?room (by intro _; rfl)) (fun _ => by rfl))
        (pe_one (pe_cmpR op_eq (pe_callB cr_lenSet (by rfl) T.z_len boot_len (pa_cons (pe_callTy (cr_setT rfl) (by rfl) T.z_set boot_set (pa_cons (pv 0) pa_nil)) pa_nil)) (pv 1) (nomark _))))))), ?_⟩
    case room => exact room1 hr
    case hi =>
      rintro pins s1 σ H1 pb I ⟨hσ, rfl, hP⟩
      obtain ⟨u, ⟨t, rfl⟩, hload⟩ := gen_free (scope := { kind := .function, names := [(".0", .local), ("place", .local), ("many", .free), ("is_number", .globalImplicit)], isGenerator := true, isCoroutine := false, more := [] }) I (i := 1) (y := "many") rfl hσ rfl rfl rfl hP
      exact ⟨(n : Int) - 1, rfl, fun cenv A' E' s₂ esc eg eb ec RH k2 => wpAny_BinOp (hload cenv A' E' s₂ _ _ esc ec k2 (wpAny_Constant_int (sub_int ⟨⟨_, rfl⟩, keepsT _ _⟩)))⟩
    have hlen : (vI xs).length = xs.length := vI_length xs
    refine ⟨_, rfl, .ref a, .ty "tuple", .type "tuple", .type "tuple", true, rfl, .ty _, .base (.tup ha), kit_ty (by decide +kernel), ?_⟩
    refine ⟨true, rfl, iteF ?_⟩
    have e0 : decide (V.int ((vI xs).length : Nat) = V.int (n : Nat)) = decide (xs.length = n) := dec_nat (by rw [hlen])
    refine ⟨_, rfl, a, _, rfl, .inr (.of ha), _, rfl, rfl, _, rfl, ?_⟩
    by_cases c : xs.length = n
    · refine iteNS (by rw [hlen, c]) ?_
      have hns : (xs.map fun k : Nat => (k : Int)).length = xs.length := List.length_map _
      refine ⟨_, rfl, a, xs.map fun k : Nat => (k : Int), _, rfl, .of (by rw [← vI_map]; exact ha), ⟨rfl, rfl, tabG_has hT.ip⟩, hT.ip, fun H2 h2 => ?_⟩
      have S2 := stp_ip T hT h2
      have ha2 : H2 a = some (vT xs) := S2.1 _ _ ha (fun ps z => by cases z)
      refine ⟨_, rfl, ?_⟩
      have ep : (xs.map fun k : Nat => (k : Int)).all (fun i => btw i 0 ((n : Int) - 1)) = decide (∀ x ∈ xs, x < n) := by
        rw [Bool.eq_iff_iff, List.all_eq_true, decide_eq_true_iff]
        constructor
        · intro h x hx
          have h3 := h (x : Int) (List.mem_map.mpr ⟨x, hx, rfl⟩)
          simp only [btw, Bool.and_eq_true, decide_eq_true_eq] at h3
          omega
        · intro h z hz
          obtain ⟨x, hx, rfl⟩ := List.mem_map.mp hz
          have h3 := h x hx
          simp only [btw, Bool.and_eq_true, decide_eq_true_eq]
          omega
      rw [ep]
      by_cases cl : ∀ x ∈ xs, x < n
      · rw [decide_eq_true cl]
        refine iteT ?_
        refine ⟨_, rfl, a, xs.map fun k : Nat => (k : Int), rfl, .of (by rw [← vI_map]; exact ha2), by rw [hns]; omega, fun p S m ks hp hnd hmem hlk hS => ?_⟩
        have hkl : m ≤ xs.length := by
          rw [← hlk, ← hns]
          exact nodup_len hnd fun z hz => (hmem z).mp hz
        refine ⟨p, S, m, rfl, upd_same, by omega, _, rfl, rfl, ?_⟩
        have e1 : decide (V.int (m : Nat) = V.int (n : Nat)) = isPerm n xs := by
          rw [dec_nat rfl, isPerm]
          have : (m = n) ↔ (xs.length = n ∧ xs.Nodup ∧ ∀ x ∈ xs, x < n) := by
            constructor
            · intro hm
              refine ⟨c, ?_, cl⟩
              have hnd2 : (xs.map fun k : Nat => (k : Int)).Nodup := nodup_of_len hnd (fun z hz => (hmem z).mpr hz) (by rw [hns, hlk, c]; omega) fun z hz => (hmem z).mp hz
              exact nodup_unmap hnd2
            · rintro ⟨_, hnd2, _⟩
              have : xs.length ≤ m := by
                rw [← hlk, ← hns]
                exact nodup_len (nodup_map hnd2) fun z hz => (hmem z).mpr hz
              omega
          exact decide_eq_decide.mpr this
        show Q (V.bl (decide (V.int (m : Nat) = V.int (n : Nat)))) _
        rw [e1]
        exact q _ (S2.trans (Stp.new S2.2 hp))
      · rw [decide_eq_false cl]
        refine iteF ?_
        have e1 : isPerm n xs = false := decide_eq_false fun h => cl h.2.2
        have := q _ S2
        rw [e1] at this
        exact this
    · have e1 : isPerm n xs = false := decide_eq_false fun h => c h.1
      have := q _ (Stp.refl hT)
      rw [e1] at this
      refine ite2 (fun _ => this) fun h => ?_
      exfalso
      apply h
      rw [e0, decide_eq_false c]
      rfl
end
end Rs
set_option maxHeartbeats 4000000
/-! shelves: need_number .. after -/
namespace Rs
open PySem PySem.Spec PyProof.Rows L2 LamX
theorem ifT {b : Bool} {A B : Prop} (h : b = true) (q : A) : if b = true then A else B := by
  subst h
  exact iteT q
theorem ifF {b : Bool} {A B : Prop} (h : b = false) (q : B) : if b = true then A else B := by
  subst h
  exact iteF q
theorem ifN {b : Bool} {A B : Prop} (h : b = true) (q : B) : if (!b) = true then A else B := by
  subst h
  exact iteF q
theorem isPerm_lay {n : Nat} {p : Rm.LN} (h : Rm.Lay n p) : isPerm n p = true := decide_eq_true ⟨h.len, h.nd, h.lt⟩
theorem lay_isPerm {n : Nat} {p : Rm.LN} (h : isPerm n p = true) : Rm.Lay n p := by
  have z := of_decide_eq_true h
  exact ⟨z.1, z.2.1, z.2.2⟩
def HabV (H : Hp) (a : Addr) (h : Rm.Hab) : Prop := ∃ rs : List Addr, H a = some (.tup (rs.map V.ref)) ∧ rs.length = h.length ∧ ∀ j r, rs[j]? = some r → H r = some (vT (h.getD j []))
theorem HabV.ext {H H' : Hp} {a : Addr} {h : Rm.Hab} (x : HabV H a h) (e : ExtN H H') : HabV H' a h := by
  obtain ⟨rs, h1, h2, h3⟩ := x
  exact ⟨rs, e _ _ h1 (fun ps z => by cases z), h2, fun j r hr => e _ _ (h3 j r hr) fun ps z => by cases z⟩
theorem HabV.same {H H' : Hp} {a : Addr} {h : Rm.Hab} (x : HabV H a h) (e : Same H H') : HabV H' a h := x.ext (ExtN.of e)
theorem Stp.t {K : PySem.W.Frag} {H H' : Hp} {a : Addr} {xs : List V} (s : Stp K H H') (h : H a = some (.tup xs)) : H' a = some (.tup xs) := s.1 _ _ h fun ps z => by cases z
theorem Stp.l {K : PySem.W.Frag} {H H' : Hp} {a : Addr} {xs : List V} (s : Stp K H H') (h : H a = some (.lst xs)) : H' a = some (.lst xs) := s.1 _ _ h fun ps z => by cases z
theorem vI_get {xs : List Nat} {i : Nat} {x : V} (h : (vI xs)[i]? = some x) : x = V.int ((xs.getD i 0 : Nat) : Int) ∧ i < xs.length := by
  rw [List.getElem?_map] at h
  obtain ⟨k, h1, h2⟩ := Option.map_eq_some_iff.mp h
  have hi := (List.getElem?_eq_some_iff.mp h1).1
  refine ⟨?_, hi⟩
  rw [List.getD_eq_getElem?_getD, h1, ← h2]
  rfl
theorem vI_at {xs : List Nat} {i : Nat} (h : i < xs.length) : (vI xs)[i]? = some (V.int ((xs.getD i 0 : Nat) : Int)) := by
  rw [List.getElem?_map, List.getD_eq_getElem?_getD, List.getElem?_eq_getElem h]
  rfl
theorem isi_tup {K : PySem.W.Frag} {H : Hp} {a : Addr} {xs : List V} {Q : VK} (ha : H a = some (.tup xs)) (q : Q (.bl true) H) : rIsi K [.ref a, .ty "tuple"] H Q :=
  ⟨.ref a, .ty "tuple", .type "tuple", .type "tuple", true, rfl, .ty _, .base (.tup ha), kit_ty (by decide +kernel), q⟩
section
variable {P : Program} {w : World} {K : PySem.W.Frag} {mg : Str → Option Value} {base : Heap}
/-! ### need_number -/
def spNeedN : Sp := fun vs H Q _ => ∃ i lo hi : Int, vs = [.int i, .int lo, .int hi] ∧ lo ≤ i ∧ i ≤ hi ∧ Q .non H
theorem scNeedN : FnScope ["value", "low", "high"] ["value", "low", "high"] (defScope s_need_number) := ⟨rfl, rfl, rfl, by decide +kernel, rfl, by decide +kernel, by decide +kernel⟩
theorem ok_needN (G : Gd K mg base) : FnOk P w K mg base CX0 1 (He.ga K "need_number") (fdO K "need_number") ["value", "low", "high"] spNeedN := by
  have T := G.T
  have GN : FnOk P w K mg base CX0 0 (He.ga K "is_number") (fdO K "is_number") ["value", "low", "high"] spNum := ok_number T
  refine T.F_need_number.ok scNeedN (fun vs H Q E h => ?_) (fun A outer s H vs Q E hr h => ?_)
  · obtain ⟨i, lo, hi, rfl, _⟩ := h
    rfl
  · obtain ⟨i, lo, hi, rfl, h1, h2, q⟩ := h
    refine ⟨_, PSs.nox (pss_one (ps_if (pt_not (pt_val (pe_call GN hr rfl T.g_is_number T.F_is_number.kp T.b_is_number .nil pass0 (pa_cons (pv 0) (pa_cons (pv 1) (pa_cons (pv 2) pa_nil)))))) (pss_one ps_never) pss_nil)), ?_⟩
    refine ⟨_, rfl, _, rfl, _, rfl, i, lo, hi, rfl, ?_⟩
    have e : btw i lo hi = true := by simp [btw, h1, h2]
    rw [e]
    exact ⟨true, rfl, iteF q⟩
/-! ### need_habit -/
def spNeedH (K : PySem.W.Frag) : Sp := fun vs H Q _ => ∃ (a : Addr) (h : Rm.Hab) (n : Nat), vs = [.ref a] ∧ HabV H a h ∧ Rm.HabOk n h ∧ 2 ≤ n ∧ n ≤ 5 ∧ Tb K H ∧ ∀ H', Stp K H H' → Q .non H'
theorem scNeedH : FnScope ["value", "place", "moved"] ["value"] (defScope s_need_habit) := ⟨rfl, rfl, rfl, by decide +kernel, rfl, by decide +kernel, by decide +kernel⟩
theorem ok_needH (G : Gd K mg base) : FnOk P w K mg base CX0 2 (He.ga K "need_habit") (fdO K "need_habit") ["value"] (spNeedH K) := by
  have T := G.T
  have GP : FnOk P w K mg base CX0 1 (He.ga K "is_permutation") (fdO K "is_permutation") ["value", "many"] (spPerm K) := ok_perm G
  refine T.F_need_habit.ok scNeedH (fun vs H Q E h => ?_) (fun A outer s H vs Q E hr h => ?_)
  · obtain ⟨a, h, n, rfl, _⟩ := h
    rfl
  · obtain ⟨a, hb, n, rfl, hV, ok, n2, n5, hT, q⟩ := h
    obtain ⟨t1, g1⟩ := T.i_LEAST_PLACES
    obtain ⟨t2, g2⟩ := T.i_MOST_PLACES_shelves
    refine ⟨_, PSs.nox (pss_cons (ps_if (PW.pt (pw_or (pt_not (pt_val (pe_callB call_isi (by rfl) T.z_isinstance boot_isinstance (pa_cons (pv 0) (pa_cons (pe_bltn (by rfl) T.z_tuple boot_tuple (v := .ty "tuple") rfl) pa_nil)))))
      (pw_or1 (pt_not (pt_chain op_le op_le (pe_glob (v := .int 2) rfl g1 ⟨_, rfl⟩) (pe_callB call_len_seq (by rfl) T.z_len boot_len (pa_cons (pv 0) pa_nil)) (pe_glob (v := .int 5) rfl g2 ⟨_, rfl⟩)))))) (pss_one ps_never) pss_nil)
      (pss_one (ps_for PassesOwn.never rfl (pi_enumT (by rfl) T.z_enumerate (pa_cons (pv 0) pa_nil)) (pg_tup (by rfl) (pgs_cons (pg_name (i := 1) scNeedH.nd rfl (.inl rfl)) (pgs_cons (pg_name (i := 2) scNeedH.nd rfl (.inl rfl)) pgs_nil)))
        (pss_one (ps_if (pt_not (pt_val (pe_call GP hr rfl T.g_is_permutation T.F_is_permutation.kp T.b_is_permutation .nil pass0 (pa_cons (pv 2) (pa_cons (pe_callB call_len_seq (by rfl) T.z_len boot_len (pa_cons (pv 0) pa_nil)) pa_nil))))) (pss_one ps_never) pss_nil))))), ?_⟩
    have hV2 := hV
    obtain ⟨rs, h1, h2, h3⟩ := hV
    have hl : (rs.map V.ref).length = n := by rw [List.length_map, h2, ok.len]
    refine ⟨_, rfl, .ref a, .ty "tuple", .type "tuple", .type "tuple", true, rfl, .ty _, .base (.tup h1), kit_ty (by decide +kernel), true, rfl, iteF ?_⟩
    refine ⟨_, rfl, a, _, rfl, .inr (.of h1), _, _, rfl, rfl, _, rfl, ?_⟩
    refine ifT (decide_eq_true (by rw [hl]; omega)) ⟨_, _, rfl, rfl, _, rfl, ifN (decide_eq_true (by rw [hl]; omega)) ?_⟩
    refine ⟨_, rfl, a, _, rfl, .of h1, ?_⟩
    refine for_it (walk_enumT (K := K) (a := a) (xs := rs.map V.ref)) (fun i σ H2 => Stp K H H2 ∧ ∃ v1 v2, σ = [some (.ref a), v1, v2]) ⟨Stp.refl hT, none, none, rfl⟩ (fun i σ H2 _ p => .of (p.1.t h1)) ?_ ?_
    · rintro i x σ H2 H3 hi ⟨S2, v1, v2, rfl⟩ ⟨Tt, x1, x2, rfl, hTn, rfl, e1, e2⟩
      have S3 : Stp K H2 (upd H2 Tt (.tup [x1, x2])) := Stp.new S2.2 hTn
      have S13 := S2.trans S3
      obtain ⟨r, hr1, rfl⟩ : ∃ r, rs[i]? = some r ∧ x2 = V.ref r := by
        have e3 : (rs.map V.ref)[i]? = some x2 := e2
        rw [List.getElem?_map] at e3
        obtain ⟨r, q1, q2⟩ := Option.map_eq_some_iff.mp e3
        exact ⟨r, q1, q2.symm⟩
      have hi2 : i < n := by rw [← hl]; exact hi
      have L := ok.lay i hi2
      have hr3 := S13.t (h3 i r hr1)
      refine ⟨Tt, [x1, .ref r], rfl, .of upd_same, rfl, ?_⟩
      refine ⟨x1, [.ref r], rfl, .ref r, [], rfl, rfl, ?_⟩
      refine ⟨_, rfl, _, rfl, a, _, rfl, .inr (.of (S13.t h1)), r, hb.getD i [], n, by rw [hl]; rfl, hr3, by rw [L.len]; omega, S13.2, fun H4 S4 => ⟨true, by rw [isPerm_lay L], iteF ?_⟩⟩
      exact ⟨S13.trans S4, _, _, rfl⟩
    · rintro σ H2 ⟨S2, v1, v2, rfl⟩
      exact q _ S2
end
end Rs
set_option maxHeartbeats 4000000
/-! shelves: need_layout .. behind_word -/
namespace Rs
open PySem PySem.Spec PyProof.Rows L2 LamX
theorem same_new {H : Hp} {p : Addr} {o : HO} (h : H p = none) : Same H (upd H p o) := fun b u e => by
  rw [upd_ne (ne_of_none e h)]
  exact e
theorem take_vI {l : List Nat} {i : Nat} (h : i < l.length) : (vI l).take (i + 1) = (vI l).take i ++ [V.int ((l.getD i 0 : Nat) : Int)] := by
  rw [List.take_add_one, vI_at h]
  rfl
theorem take_all (l : List Nat) : (vI l).take l.length = vI l := List.take_of_length_le (by rw [vI_length]; exact Nat.le_refl _)
section
variable {P : Program} {w : World} {K : PySem.W.Frag} {mg : Str → Option Value} {base : Heap}
theorem HabV.len {H : Hp} {a : Addr} {h : Rm.Hab} (x : HabV H a h) : ∃ rs : List V, H a = some (.tup rs) ∧ rs.length = h.length := by
  obtain ⟨rs, h1, h2, _⟩ := x
  exact ⟨_, h1, by rw [List.length_map, h2]⟩
/-! ### need_layout -/
def spNeedL (K : PySem.W.Frag) : Sp := fun vs H Q _ => ∃ (a b : Addr) (h : Rm.Hab) (n : Nat) (p : Rm.LN), vs = [.ref a, .ref b] ∧ HabV H a h ∧ Rm.HabOk n h ∧ n ≤ 5 ∧ H b = some (vT p) ∧ Rm.Lay n p ∧ Tb K H ∧ ∀ H', Stp K H H' → Q .non H'
theorem scNeedL : FnScope ["habit", "value"] ["habit", "value"] (defScope s_need_layout) := ⟨rfl, rfl, rfl, by decide +kernel, rfl, by decide +kernel, by decide +kernel⟩
theorem ok_needL (G : Gd K mg base) : FnOk P w K mg base CX0 2 (He.ga K "need_layout") (fdO K "need_layout") ["habit", "value"] (spNeedL K) := by
  have T := G.T
  have GP : FnOk P w K mg base CX0 1 (He.ga K "is_permutation") (fdO K "is_permutation") ["value", "many"] (spPerm K) := ok_perm G
  refine T.F_need_layout.ok scNeedL (fun vs H Q E h => ?_) (fun A outer s H vs Q E hr h => ?_)
  · obtain ⟨a, b, h, n, p, rfl, _⟩ := h
    rfl
  · obtain ⟨a, b, hb, n, p, rfl, hV, ok, n5, hp, L, hT, q⟩ := h
    refine ⟨_, PSs.nox (pss_one (ps_if (pt_not (pt_val (pe_call GP hr rfl T.g_is_permutation T.F_is_permutation.kp T.b_is_permutation .nil pass0 (pa_cons (pv 1) (pa_cons (pe_callB call_len_seq (by rfl) T.z_len boot_len (pa_cons (pv 0) pa_nil)) pa_nil))))) (pss_one ps_never) pss_nil)), ?_⟩
    obtain ⟨rs, h1, h2⟩ := hV.len
    refine ⟨_, rfl, _, rfl, a, _, rfl, .inr (.of h1), b, p, n, by rw [h2, ok.len]; rfl, hp, by rw [L.len]; omega, hT, fun H4 S4 => ⟨true, by rw [isPerm_lay L], iteF (q _ S4)⟩⟩
/-! ### need_shelf -/
def spNeedS (K : PySem.W.Frag) : Sp := fun vs H Q _ => ∃ (a b : Addr) (h : Rm.Hab) (n : Nat) (p : Rm.LN), vs = [.ref a, .ref b] ∧ HabV H a h ∧ Rm.HabOk n h ∧ 2 ≤ n ∧ n ≤ 5 ∧ H b = some (vT p) ∧ Rm.Lay n p ∧ Tb K H ∧ ∀ H', Stp K H H' → Q .non H'
theorem scNeedS : FnScope ["habit", "layout"] ["habit", "layout"] (defScope s_need_shelf) := ⟨rfl, rfl, rfl, by decide +kernel, rfl, by decide +kernel, by decide +kernel⟩
theorem ok_needS (G : Gd K mg base) : FnOk P w K mg base CX0 3 (He.ga K "need_shelf") (fdO K "need_shelf") ["habit", "layout"] (spNeedS K) := by
  have T := G.T
  have GH : FnOk P w K mg base CX0 2 (He.ga K "need_habit") (fdO K "need_habit") ["value"] (spNeedH K) := ok_needH G
  have GL : FnOk P w K mg base CX0 2 (He.ga K "need_layout") (fdO K "need_layout") ["habit", "value"] (spNeedL K) := ok_needL G
  refine T.F_need_shelf.ok scNeedS (fun vs H Q E h => ?_) (fun A outer s H vs Q E hr h => ?_)
  · obtain ⟨a, b, h, n, p, rfl, _⟩ := h
    rfl
  · obtain ⟨a, b, hb, n, p, rfl, hV, ok, n2, n5, hp, L, hT, q⟩ := h
    refine ⟨_, PSs.nox (pss_cons (ps_expr (pe_call GH hr rfl T.g_need_habit T.F_need_habit.kp T.b_need_habit .nil pass0 (pa_cons (pv 0) pa_nil)))
      (pss_one (ps_expr (pe_call GL hr rfl T.g_need_layout T.F_need_layout.kp T.b_need_layout .nil pass0 (pa_cons (pv 0) (pa_cons (pv 1) pa_nil)))))), ?_⟩
    refine ⟨_, rfl, a, hb, n, rfl, hV, ok, n2, n5, hT, fun H2 S2 => ?_⟩
    exact ⟨_, rfl, _, rfl, a, b, hb, n, p, rfl, hV.ext S2.1, ok, n5, S2.t hp, L, S2.2, fun H3 S3 => q _ (S2.trans S3)⟩
/-! ### behind_touch -/
def spTouch : Sp := fun vs H Q _ => ∃ (a b : Addr) (h : Rm.Hab) (n : Nat) (p : Rm.LN) (k : Nat), vs = [.ref a, .ref b, .int (k : Int)] ∧ HabV H a h ∧ Rm.HabOk n h ∧ n ≤ 5 ∧ H b = some (vT p) ∧ Rm.Lay n p ∧ k < n ∧
  ∀ H' q, Same H H' → H q = none → H' q = some (vT (Rm.touch h p k)) → Q (.ref q) H'
theorem scTouch : FnScope ["habit", "layout", "place", "stands"] ["habit", "layout", "place"] (defScope s_behind_touch) := ⟨rfl, rfl, rfl, by decide +kernel, rfl, by decide +kernel, by decide +kernel⟩
theorem ok_touch (G : Gd K mg base) : FnOk P w K mg base CX0 1 (He.ga K "behind_touch") (fdO K "behind_touch") ["habit", "layout", "place"] spTouch := by
  have T := G.T
  refine T.F_behind_touch.ok scTouch (fun vs H Q E h => ?_) (fun A outer s H vs Q E hr h => ?_)
  · obtain ⟨a, b, h, n, p, k, rfl, _⟩ := h
    rfl
  · obtain ⟨a, b, hb, n, p, k, rfl, hV, ok, n5, hp, L, hk, q⟩ := h
    refine ⟨_, PSs.nox (pss_one (ps_ret (pe_tupleOf (by rfl) T.z_tuple (pe_lc (own := [("stands", 3)]) (g := gName 3) (tt := tYes) (by rfl) scTouch.nd (pi_tup (pv 1))
      (blkOk_by (own := [("stands", 3)]) (N := ["habit", "layout", "place", "stands"]) (sc := defScope s_behind_touch) (by decide +kernel)) (fun _ _ _ _ _ => pg_name (i := 3) scTouch.nd rfl (Or.inl rfl)) (fun _ _ _ _ _ => pts_nil)
      (fun _ _ _ _ _ => pe_ix (r := rIxT K) ix_tup (pe_ix (r := rIxT K) ix_tup (pv 0) (pv 2) (fun _ _ => rfl)) (pv 3) (fun _ _ => rfl)))))), ?_⟩
    obtain ⟨rs, h1, h2, h3⟩ := hV
    have hkr : k < rs.length := by rw [h2, ok.len]; exact hk
    have L2 := ok.lay k hk
    have hrk := h3 k rs[k] (List.getElem?_eq_getElem hkr)
    refine ⟨_, rfl, b, rfl, ⟨_, .of hp⟩, fun D hD => ?_⟩
    have hDn : ∀ c u, H c = some u → c ≠ D := fun c u e => ne_of_none e hD
    refine lc_it (walk_tup (K := K) (a := b) (xs := vI p)) (fun i H2 => H2 = upd H D (.lst ((vI (Rm.touch hb p k)).take i))) rfl (fun i H2 _ e => ?_) ?_ ?_
    · rw [e]
      exact .of (by rw [upd_ne (hDn _ _ hp)]; exact hp)
    · rintro i x H2 H3 hi rfl ⟨rfl, hx⟩
      obtain ⟨rfl, hi2⟩ := vI_get hx
      have hs : p.getD i 0 < n := L.lt _ (Rm.getD_mem hi2)
      have hlt : (Rm.touch hb p k).length = p.length := List.length_map _
      refine ⟨rfl, ?_⟩
      unfold tYes
      refine iteT ⟨_, rfl, _, rfl, a, _, _, _, rfl, rfl, .of (by rw [upd_ne (hDn _ _ h1)]; exact h1), atI_nat (j := k) (v := .ref rs[k]) (by rw [List.getElem?_map, List.getElem?_eq_getElem hkr]; rfl), _, rfl, _, _, _, _, rfl, rfl,
        .of (by rw [upd_ne (hDn _ _ hrk)]; exact hrk), atI_nat (vI_at (by rw [L2.len]; exact hs)), _, upd_same, ?_, ?_⟩
      · rw [List.length_take, vI_length]
        rw [sizeLine_eq]
        have := L.len
        omega
      · rw [upd_upd, take_vI (by rw [hlt]; exact hi2)]
        have e1 : (Rm.touch hb p k).getD i 0 = (hb.getD k []).getD (p.getD i 0) 0 := Rm.getD_map hi2
        rw [e1]
    · rintro H2 rfl
      have hlt : (vI p).length = (Rm.touch hb p k).length := by rw [vI_length]; exact (List.length_map _).symm
      rw [hlt, take_all]
      refine .inl ⟨D, _, rfl, .of upd_same, fun r hr => q _ r ?_ ?_ upd_same⟩
      · exact (same_new hD).trans (same_new hr)
      · exact (same_new hD).free hr
end
end Rs
set_option maxHeartbeats 4000000
/-! shelves: behind_word, after -/
namespace Rs
open PySem PySem.Spec PyProof.Rows L2 LamX
section
variable {P : Program} {w : World} {K : PySem.W.Frag} {mg : Str → Option Value} {base : Heap}
theorem run_take {h : Rm.Hab} {p v : Rm.LN} {i : Nat} (hi : i < v.length) : Rm.run h p (v.take (i + 1)) = Rm.touch h (Rm.run h p (v.take i)) (v.getD i 0) := by
  rw [List.take_add_one, List.getElem?_eq_getElem hi, ← Rm.run_snoc]
  congr 2
  rw [List.getD_eq_getElem?_getD, List.getElem?_eq_getElem hi]
  rfl
/-! ### behind_word -/
def spWord : Sp := fun vs H Q _ => ∃ (a b c : Addr) (h : Rm.Hab) (n : Nat) (p v : Rm.LN), vs = [.ref a, .ref b, .ref c] ∧ HabV H a h ∧ Rm.HabOk n h ∧ n ≤ 5 ∧ H b = some (vT p) ∧ Rm.Lay n p ∧ H c = some (vT v) ∧ (∀ k ∈ v, k < n) ∧
  ∀ H' q, Same H H' → H' q = some (vT (Rm.run h p v)) → Q (.ref q) H'
theorem scWord : FnScope ["habit", "layout", "word", "place"] ["habit", "layout", "word"] (defScope s_behind_word) := ⟨rfl, rfl, rfl, by decide +kernel, rfl, by decide +kernel, by decide +kernel⟩
theorem ok_word (G : Gd K mg base) : FnOk P w K mg base CX0 2 (He.ga K "behind_word") (fdO K "behind_word") ["habit", "layout", "word"] spWord := by
  have T := G.T
  have GT : FnOk P w K mg base CX0 1 (He.ga K "behind_touch") (fdO K "behind_touch") ["habit", "layout", "place"] spTouch := ok_touch G
  refine T.F_behind_word.ok scWord (fun vs H Q E h => ?_) (fun A outer s H vs Q E hr h => ?_)
  · obtain ⟨a, b, c, h, n, p, v, rfl, _⟩ := h
    rfl
  · obtain ⟨a, b, c, hb, n, p, v, rfl, hV, ok, n5, hp, L, hv, hk, q⟩ := h
    refine ⟨_, PSs.nox (pss_cons (ps_for PassesOwn.never rfl (pi_tup (pv 2)) (pg_name (i := 3) scWord.nd rfl (.inl rfl)) (pss_one (ps_set (i := 1) scWord.nd rfl (.inl rfl) (pe_call GT hr rfl T.g_behind_touch T.F_behind_touch.kp T.b_behind_touch .nil pass0 (pa_cons (pv 0) (pa_cons (pv 1) (pa_cons (pv 3) pa_nil)))))))
      (pss_one (ps_ret (pv 1)))), ?_⟩
    refine ⟨_, rfl, c, rfl, ⟨_, .of hv⟩, ?_⟩
    refine for_it (walk_tup (K := K) (a := c) (xs := vI v)) (fun i σ H2 => Same H H2 ∧ ∃ d x, σ = [some (.ref a), some (.ref d), some (.ref c), x] ∧ H2 d = some (vT (Rm.run hb p (v.take i)))) ⟨Same.refl H, b, none, rfl, hp⟩ (fun i σ H2 _ p => .of (p.1 _ _ hv)) ?_ ?_
    · rintro i x σ H2 H3 hi ⟨S2, d, y, rfl, hd⟩ ⟨rfl, hx⟩
      obtain ⟨rfl, hi2⟩ := vI_get hx
      have hw2 : ∀ k ∈ v.take i, k < n := fun k hk2 => hk k (List.mem_of_mem_take hk2)
      refine ⟨_, rfl, _, rfl, _, rfl, a, d, hb, n, Rm.run hb p (v.take i), v.getD i 0, rfl, hV.same S2, ok, n5, hd, Rm.run_lay ok L hw2, hk _ (Rm.getD_mem hi2), fun H4 q4 S4 _ hq4 => ?_⟩
      exact ⟨S2.trans S4, q4, _, rfl, by rw [run_take hi2]; exact hq4⟩
    · rintro σ H2 ⟨S2, d, y, rfl, hd⟩
      refine ⟨_, rfl, q _ _ S2 ?_⟩
      rw [vI_length, List.take_length] at hd
      exact hd
/-! ### after -/
def spAfter (K : PySem.W.Frag) : Sp := fun vs H Q _ => ∃ (a b c : Addr) (h : Rm.Hab) (n : Nat) (p v : Rm.LN), vs = [.ref a, .ref b, .ref c] ∧ HabV H a h ∧ Rm.HabOk n h ∧ 2 ≤ n ∧ n ≤ 5 ∧ H b = some (vT p) ∧ Rm.Lay n p ∧ H c = some (vT v) ∧ (∀ k ∈ v, k < n) ∧ v.length ≤ 400 ∧ Tb K H ∧
  ∀ H' q, Stp K H H' → H' q = some (vT (Rm.run h p v)) → Q (.ref q) H'
theorem scAfter : FnScope ["habit", "layout", "word"] ["habit", "layout", "word"] (defScope s_after) := ⟨rfl, rfl, rfl, by decide +kernel, rfl, by decide +kernel, by decide +kernel⟩
theorem ok_after (G : Gd K mg base) : FnOk P w K mg base CX0 4 (He.ga K "after") (fdO K "after") ["habit", "layout", "word"] (spAfter K) := by
  have T := G.T
  have GS : FnOk P w K mg base CX0 3 (He.ga K "need_shelf") (fdO K "need_shelf") ["habit", "layout"] (spNeedS K) := ok_needS G
  have GW : FnOk P w K mg base CX0 2 (He.ga K "behind_word") (fdO K "behind_word") ["habit", "layout", "word"] spWord := ok_word G
  refine T.F_after.ok scAfter (fun vs H Q E h => ?_) (fun A outer s H vs Q E hr h => ?_)
  · obtain ⟨a, b, c, h, n, p, v, rfl, _⟩ := h
    rfl
  · obtain ⟨a, b, c, hb, n, p, v, rfl, hV, ok, n2, n5, hp, L, hv, hk, v4, hT, q⟩ := h
    obtain ⟨t3, g3⟩ := T.i_MOST_WORD
    refine ⟨_, PSs.nox (pss_cons (ps_expr (pe_call GS hr rfl T.g_need_shelf T.F_need_shelf.kp T.b_need_shelf .nil pass0 (pa_cons (pv 0) (pa_cons (pv 1) pa_nil))))
      (pss_cons (ps_if (PW.pt (pw_or (pt_not (pt_val (pe_callB call_isi (by rfl) T.z_isinstance boot_isinstance (pa_cons (pv 2) (pa_cons (pe_bltn (by rfl) T.z_tuple boot_tuple (v := .ty "tuple") rfl) pa_nil)))))
        (pw_or1 (pt_cmpR op_gt (pe_callB call_len_seq (by rfl) T.z_len boot_len (pa_cons (pv 2) pa_nil)) (pe_glob (v := .int 400) rfl g3 ⟨_, rfl⟩) (nomark _))))) (pss_one ps_never) pss_nil)
      (pss_cons (ps_if (pt_not (pt_val (pe_allG (Rb := fun pb σ H1 => σ[0]? = some (some (.ref a)) ∧ pb = (fun i => btw i 0 ((n : Int) - 1)) ∧ (∃ rs : List V, H1 a = some (.tup rs) ∧ rs.length = n) ∧ ∃ ps, H1 (tbA K "after") = some (.tbl ps)) hr (by rfl) T.z_all (G.g (x := "after") (by decide)) rfl (genS_by (by decide +kernel)) (pv 2)
        (elt_num T rfl rfl rfl ?hi (by decide) ?room (by intro _; rfl)) (fun _ => by rfl)))) (pss_one ps_never) pss_nil)
      (pss_one (ps_ret (pe_call GW (hr.mono (by decide)) rfl T.g_behind_word T.F_behind_word.kp T.b_behind_word .nil pass0 (pa_cons (pv 0) (pa_cons (pv 1) (pa_cons (pv 2) pa_nil))))))))), ?_⟩
    case room => exact room1 hr
    case hi =>
      rintro pins s1 σ H1 pb I ⟨hσ, rfl, ⟨rs, ha, hrs⟩, hP⟩
      obtain ⟨u, ru, hload⟩ := gen_free (scope := { kind := .function, names := [(".0", .local), ("place", .local), ("habit", .free), ("is_number", .globalImplicit), ("len", .globalImplicit)], isGenerator := true, isCoroutine := false, more := [] }) I (i := 0) (y := "habit") rfl hσ rfl rfl rfl hP
      obtain rfl : u = Value.ref a := ru
      obtain ⟨its, rv, pl, hz⟩ := I.tuple (.of ha)
      have hl := rv.length
      have e9 : ((its.toArray.size : Nat) : Int) = (n : Int) := by rw [List.size_toArray, ← hl, hrs]
      refine ⟨(n : Int) - 1, rfl, fun cenv A' E' s₂ esc eg eb ec RH k2 => ?_⟩
      obtain ⟨mb, hb1, hb2⟩ := RH.blt
      have eg2 : cenv.globals = mainGlobals := by rw [eg]; exact I.ok.glob
      have pl2 : IsTup s₂.heap a its.toArray := by
        obtain ⟨o, e1, e2, e3⟩ := id pl
        refine ⟨o, k2 _ _ (fun z => ?_) e1, e2, e3⟩
        obtain ⟨ps, hP⟩ := hP
        rw [z, hP] at ha
        cases ha
      refine wpAny_BinOp (wpAny_Call_Name_kw (Calls.Name_function_global (by rw [esc]) (by show cenv.scope.names.lookup ("len" : Str) = _; rw [esc]; rfl) (Calls.loadGlobal_builtin (x := "len") (by rw [eg2]; exact RH.glob) T.z_len (by rw [eb]; exact hb1) ((hb2 "len" (by decide)).trans boot_len) ?_) (by decide)))
      refine PyProof.Rows.callWith_builtin1 (Calls.spliced_cons (hload cenv A' E' s₂ _ _ esc ec k2 (Calls.spliced_nil ?_))) (by rfl) (by rfl)
      refine PyProof.Rows.len_tuple pl2 (by rw [List.size_toArray]; rw [sizeLine_eq] at hz; omega) (wpAny_Constant_int (sub_int ⟨by rw [e9]; exact ⟨_, rfl⟩, keepsT _ _⟩))
    refine ⟨_, rfl, _, rfl, a, b, hb, n, p, rfl, hV, ok, n2, n5, hp, L, hT, fun H2 S2 => ?_⟩
    have hv2 := S2.t hv
    refine ⟨_, rfl, .ref c, .ty "tuple", .type "tuple", .type "tuple", true, rfl, .ty _, .base (.tup hv2), kit_ty (by decide +kernel), true, rfl, iteF ?_⟩
    refine ⟨_, rfl, c, _, rfl, .inr (.of hv2), _, _, rfl, rfl, _, rfl, ifF (decide_eq_false (by rw [vI_length]; omega)) ?_⟩
    obtain ⟨rs, h1, h2⟩ := (hV.ext S2.1).len
    refine ⟨_, rfl, c, v.map fun k : Nat => (k : Int), _, rfl, .of (by rw [← vI_map]; exact hv2), ⟨rfl, rfl, ⟨rs, h1, by rw [h2, ok.len]⟩, tabG_has S2.2.af⟩, S2.2.af, fun H3 h3 => ?_⟩
    have S3 := S2.trans (stp_af T S2.2 h3)
    have ep : (v.map fun k : Nat => (k : Int)).all (fun i => btw i 0 ((n : Int) - 1)) = true := by
      rw [List.all_eq_true]
      intro z hz
      obtain ⟨x, hx, rfl⟩ := List.mem_map.mp hz
      have h3 := hk x hx
      simp only [btw, Bool.and_eq_true, decide_eq_true_eq]
      omega
    rw [ep]
    refine ⟨true, rfl, iteF ?_⟩
    exact ⟨_, rfl, _, rfl, _, rfl, a, b, c, hb, n, p, v, rfl, hV.ext S3.1, ok, n5, S3.t hp, L, S3.t hv, hk, fun H4 q4 S4 hq4 => q _ _ (S3.trans (Stp.same S3.2 S4)) hq4⟩
end
end Rs
set_option maxHeartbeats 4000000
/-! shelves: words_from -/
namespace Rs
open PySem PySem.Spec PyProof.Rows L2 LamX
/-! ### the dict's entries: layout, word, the word's tuple -/
abbrev Tri := Rm.LN × Rm.LN × Addr
def kk (l : Rm.LN) : List Key := l.map fun x : Nat => (Sum.inl (x : Int) : Key)
theorem kk_vI (l : Rm.LN) : (kk l).map kV = vI l := by
  unfold kk
  rw [List.map_map]
  rfl
theorem kk_inj {l m : Rm.LN} (h : kk l = kk m) : l = m := by
  have h2 : (kk l).map (fun k => match k with | Sum.inl n => n.toNat | Sum.inr _ => 0) = (kk m).map (fun k => match k with | Sum.inl n => n.toNat | Sum.inr _ => 0) := by rw [h]
  unfold kk at h2
  rw [List.map_map, List.map_map] at h2
  have e : ∀ r : Rm.LN, r.map ((fun k : Key => match k with | Sum.inl n => n.toNat | Sum.inr _ => 0) ∘ fun x : Nat => (Sum.inl (x : Int) : Key)) = r := fun r => by
    conv => rhs; rw [← List.map_id r]
    exact List.map_congr_left fun x _ => rfl
  rw [e, e] at h2
  exact h2
def fT (T : List Tri) : Rm.Fd := T.map fun t => (t.1, t.2.1)
def kT (T : List Tri) : List (List Key × V) := T.map fun t => (kk t.1, V.ref t.2.2)
theorem tri_find (T : List Tri) (l : Rm.LN) : Rm.look (fT T) l = (T.find? fun t => decide (t.1 = l)).map (fun t => t.2.1) ∧ valV (kT T) (kk l) = (T.find? fun t => decide (t.1 = l)).map (fun t => V.ref t.2.2) := by
  induction T with
  | nil => exact ⟨rfl, rfl⟩
  | cons t T ih =>
    obtain ⟨h1, h2⟩ := ih
    unfold Rm.look fT valV kT at *
    simp only [List.map_cons, List.find?_cons]
    by_cases c : t.1 = l
    · simp [c]
    · have c2 : ¬ kk t.1 = kk l := fun z => c (kk_inj z)
      simp only [c, c2, decide_false]
      exact ⟨h1, h2⟩
theorem tri_any (T : List Tri) (l : Rm.LN) (h : valV (kT T) (kk l) = none) : putK (kT T) (kk l) = fun v => kT T ++ [(kk l, v)] := by
  funext v
  unfold putK
  rw [if_neg]
  intro z
  unfold valV at h
  rw [Option.map_eq_none_iff, List.find?_eq_none] at h
  obtain ⟨e, he, q⟩ := List.any_eq_true.mp z
  exact h e he q
/-- the addresses la hold the lists l -/
def Rws (H : Hp) (la : List Addr) (l : List Rm.LN) : Prop := la.length = l.length ∧ ∀ j r, la[j]? = some r → H r = some (vT (l.getD j []))
theorem Rws.ext {H H' : Hp} {la : List Addr} {l : List Rm.LN} (x : Rws H la l) (e : ∀ b xs, H b = some (.tup xs) → H' b = some (.tup xs)) : Rws H' la l := ⟨x.1, fun j r h => e _ _ (x.2 j r h)⟩
theorem Rws.snoc {H : Hp} {la : List Addr} {l : List Rm.LN} {q : Addr} {p : Rm.LN} (x : Rws H la l) (h : H q = some (vT p)) : Rws H (la ++ [q]) (l ++ [p]) := by
  refine ⟨by simp [x.1], fun j r hj => ?_⟩
  rw [List.getElem?_append] at hj
  have hl := x.1
  by_cases c : j < la.length
  · rw [if_pos c] at hj
    rw [List.getD_eq_getElem?_getD, List.getElem?_append_left (by omega), ← List.getD_eq_getElem?_getD]
    exact x.2 j r hj
  · rw [if_neg c] at hj
    have hj0 : j - la.length = 0 := by
      cases hh : j - la.length with
      | zero => rfl
      | succ m => rw [hh] at hj; simp at hj
    rw [hj0] at hj
    have e : q = r := Option.some.inj hj
    rw [← e, List.getD_eq_getElem?_getD, List.getElem?_append_right (by omega), show j - l.length = 0 by omega]
    exact h
/-- tuples stay -/
def TupS (H H' : Hp) : Prop := ∀ b xs, H b = some (.tup xs) → H' b = some (.tup xs)
theorem TupS.of {H H' : Hp} (e : Same H H') : TupS H H' := fun b xs h => e _ _ h
theorem TupS.upd {H : Hp} {p : Addr} {o u : HO} (h : H p = some u) (hu : ∀ xs, u ≠ .tup xs) : TupS H (upd H p o) := fun b xs e => by
  rw [upd_ne (fun z => by rw [z, h] at e; exact hu xs (Option.some.inj e))]
  exact e
theorem TupS.trans {H H1 H2 : Hp} (a : TupS H H1) (b : TupS H1 H2) : TupS H H2 := fun c xs h => b c xs (a c xs h)
/-- the search's heap: D the dict -/
structure Ws (n : Nat) (h : Rm.Hab) (p : Rm.LN) (H H2 : Hp) (d : Nat) (lay later : List Rm.LN) (dn : Rm.LN → Nat → Prop) (T : List Tri) (D Ly : Addr) (la : List Addr) : Prop where
  same : Same H H2
  nD : H D = none
  bf : Rm.Bf n h p d (fT T) lay later dn
  dict : H2 D = some (.dT (kT T))
  words : ∀ t ∈ T, H2 t.2.2 = some (vT t.2.1)
  ly : H2 Ly = some (.lst (la.map V.ref))
  rows : Rws H2 la lay
theorem Ws.step {n : Nat} {h : Rm.Hab} {p : Rm.LN} {H H2 H3 : Hp} {d : Nat} {lay later : List Rm.LN} {dn : Rm.LN → Nat → Prop} {T : List Tri} {D Ly : Addr} {la : List Addr} (x : Ws n h p H H2 d lay later dn T D Ly la) (e : Same H2 H3) : Ws n h p H H3 d lay later dn T D Ly la :=
  ⟨x.same.trans e, x.nD, x.bf, e _ _ x.dict, fun t ht => e _ _ (x.words t ht), e _ _ x.ly, x.rows.ext fun b xs q => e _ _ q⟩
theorem refs_get {la : List Addr} {i : Nat} {x : V} (h : (la.map V.ref)[i]? = some x) : ∃ r, la[i]? = some r ∧ x = .ref r := by
  rw [List.getElem?_map] at h
  obtain ⟨r, q1, q2⟩ := Option.map_eq_some_iff.mp h
  exact ⟨r, q1, q2.symm⟩
end Rs
set_option maxHeartbeats 8000000
/-! shelves: words_from, walked -/
namespace Rs
open PySem PySem.Spec PyProof.Rows L2 LamX
theorem vI_snoc (v : Rm.LN) (k : Nat) : vI v ++ [V.int ((k : Nat) : Int)] = vI (v ++ [k]) := by
  show _ = List.map _ (v ++ [k])
  rw [List.map_append]
  rfl
theorem kT_snoc (T : List Tri) (l v : Rm.LN) (a : Addr) : kT T ++ [(kk l, V.ref a)] = kT (T ++ [(l, v, a)]) := by
  unfold kT
  rw [List.map_append]
  rfl
theorem refs_snoc (l : List Addr) (a : Addr) : l.map V.ref ++ [V.ref a] = (l ++ [a]).map V.ref := by
  rw [List.map_append]
  rfl
theorem catA_use {K : PySem.W.Frag} {H : Hp} {a b : Addr} {xs ys : List V} {Q : VK} (ha : H a = some (.tup xs)) (hb : H b = some (.tup ys)) (hl : xs.length + ys.length ≤ sizeLine) (hy : ys ≠ [])
    (q : ∀ H' p, Same H H' → H' p = some (.tup (xs ++ ys)) → Q (.ref p) H') : rCatA K (.ref a) (.ref b) H Q :=
  ⟨a, b, xs, ys, rfl, rfl, .of ha, .of hb, hl, fun e => q H b (Same.refl H) (by rw [e]; exact hb), fun _ e => absurd e hy, fun _ _ p hp => q _ p (same_new hp) upd_same⟩
section
variable {P : Program} {w : World} {K : PySem.W.Frag} {mg : Str → Option Value} {base : Heap}
def spWF : Sp := fun vs H Q _ => ∃ (a b : Addr) (h : Rm.Hab) (n : Nat) (p : Rm.LN), vs = [.ref a, .ref b] ∧ HabV H a h ∧ Rm.HabOk n h ∧ n ≤ 5 ∧ H b = some (vT p) ∧ Rm.Lay n p ∧
  ∀ (H' : Hp) (D : Addr) (T : List Tri) (d : Nat) (dn : Rm.LN → Nat → Prop), Same H H' → H' D = some (.dT (kT T)) → (∀ t ∈ T, H' t.2.2 = some (vT t.2.1)) → Rm.Bf n h p d (fT T) [] [] dn → Q (.ref D) H'
abbrev nWF : List Str := ["habit", "layout", "found", "layer", "later", "one", "place", "other"]
theorem scWF : FnScope nWF ["habit", "layout"] (defScope s_words_from) := ⟨rfl, rfl, rfl, by decide +kernel, rfl, by decide +kernel, by decide +kernel⟩
theorem ok_WF (G : Gd K mg base) : FnOk P w K mg base CX0 2 (He.ga K "words_from") (fdO K "words_from") ["habit", "layout"] spWF := by
  have T := G.T
  have GT : FnOk P w K mg base CX0 1 (He.ga K "behind_touch") (fdO K "behind_touch") ["habit", "layout", "place"] spTouch := ok_touch G
  refine T.F_words_from.ok scWF (fun vs H Q E h => ?_) (fun A outer s H vs Q E hr h => ?_)
  · obtain ⟨a, b, h, n, p, rfl, _⟩ := h
    rfl
  · obtain ⟨a, b, hb, n, p, rfl, hV, ok, n5, hp, L, q⟩ := h
    have hu := hu_of hr
    refine ⟨_, PSs.nox (pss_cons (ps_par (i := 2) (j := 3) rfl scWF.nd rfl rfl (by decide) rfl rfl (pa_cons (pe_dispT hu (pv 1) (pe_tup pa_nil)) (pa_cons (pe_lst (pa_cons (pv 1) pa_nil)) pa_nil)) (by rfl))
      (pss_cons (ps_while PassesOwn.never (pt_truth (pv 3) (by intro _; rfl))
        (pss_cons (ps_set (i := 4) scWF.nd rfl (.inl rfl) (pe_lst pa_nil))
        (pss_cons (ps_for PassesOwn.never rfl (pi_list (pv 3)) (pg_name (i := 5) scWF.nd rfl (.inl rfl))
          (pss_one (ps_for PassesOwn.never rfl (pi_range1 (by rfl) T.z_range (pa_cons (pe_callB call_len_seq (by rfl) T.z_len boot_len (pa_cons (pv 0) pa_nil)) pa_nil)) (pg_name (i := 6) scWF.nd rfl (.inl rfl))
            (pss_cons (ps_set (i := 7) scWF.nd rfl (.inl rfl) (pe_call GT hr rfl T.g_behind_touch T.F_behind_touch.kp T.b_behind_touch .nil pass0 (pa_cons (pv 0) (pa_cons (pv 5) (pa_cons (pv 6) pa_nil)))))
            (pss_one (ps_if (pt_cmp (pc_dnotin hu (pv 7) (pv 2)))
              (pss_cons (ps_dput hu (pv 2) (pv 7) (pe_op op_catA (pe_dget hu (pv 2) (pv 5) (fun _ _ => rfl)) (pe_tup (pa_cons (pv 6) pa_nil))) rfl)
              (pss_one (ps_expr (pe_bm PySem.F.plainAttrs_list PySem.F.slot_list_append PySem.F.type_list_append mt_append (pv 4) (pa_cons (pv 7) pa_nil))))) pss_nil))))))
        (pss_one (ps_set (i := 3) scWF.nd rfl (.inl rfl) (pv 4))))))
      (pss_one (ps_ret (pv 2))))), ?_⟩
    intro D hD
    refine ⟨_, rfl, Nat.zero_le _, fun t ht => ?_⟩
    have htD : t ≠ D := fun z => by rw [z, upd_same] at ht; cases ht
    have hbD : b ≠ D := ne_of_none hp hD
    have ht0 : H t = none := by rw [upd_ne htD] at ht; exact ht
    have hbt : b ≠ t := ne_of_none hp ht0
    refine ⟨by rw [upd_ne (Ne.symm htD), upd_same], b, kk p, rfl, by rw [upd_ne hbt, upd_ne hbD, kk_vI]; exact hp, ?_⟩
    refine ⟨_, rfl, (by show 1 ≤ sizeLine; decide), fun l hl => ⟨_, _, rfl, ?_⟩⟩
    have hlD : l ≠ D := fun z => by rw [z, upd_same] at hl; cases hl
    rw [upd_ne hlD] at hl
    have hlt : l ≠ t := fun z => by rw [z, upd_same] at hl; cases hl
    rw [upd_ne hlt, upd_ne hlD] at hl
    have hbl : b ≠ l := ne_of_none hp hl
    generalize hH1 : upd (upd (upd (upd H D (.dT [])) t (.tup [])) D (.dT [(kk p, V.ref t)])) l (.lst [V.ref b]) = H1
    have W0 : Ws n hb p H H1 0 [p] [] (fun _ _ => False) [(p, [], t)] D l [b] := by
      subst hH1
      have S : Same H (upd (upd (upd (upd H D (.dT [])) t (.tup [])) D (.dT [(kk p, V.ref t)])) l (.lst [V.ref b])) := fun c o e => by
        rw [upd_ne (ne_of_none e hl), upd_ne (ne_of_none e hD), upd_ne (ne_of_none e ht0), upd_ne (ne_of_none e hD)]
        exact e
      refine ⟨S, hD, Rm.Bf.start, by rw [upd_ne (Ne.symm hlD), upd_same]; rfl, fun z hz => ?_, upd_same, rfl, fun j r hj => ?_⟩
      · rw [List.mem_singleton.mp hz, upd_ne (Ne.symm hlt), upd_ne htD, upd_same]
        rfl
      · cases j with
        | zero =>
          have e : b = r := Option.some.inj hj
          rw [← e]
          exact S _ _ hp
        | succ j => cases hj
    refine ⟨fun m σ H2 => ∃ (TT : List Tri) (d : Nat) (lay : List Rm.LN) (Ly : Addr) (la : List Addr) (x4 x5 x6 x7 : Option V), σ = [some (.ref a), some (.ref b), some (.ref D), some (.ref Ly), x4, x5, x6, x7] ∧ Ws n hb p H H2 d lay [] (fun _ _ => False) TT D Ly la ∧ (lay ≠ [] → d + 1 ≤ TT.length) ∧ m = 2 * (n ^ n - TT.length) + (if lay = [] then 0 else 1),
      ⟨_, [(p, [], t)], 0, [p], l, [b], none, none, none, none, rfl, W0, fun _ => Nat.le_refl _, rfl⟩, ?_⟩
    rintro m σ H2 ⟨TT, d, lay, Ly, la, x4, x5, x6, x7, rfl, W, hdT, rfl⟩
    refine ⟨_, rfl, _, .inl ⟨_, .of W.ly, rfl⟩, ?_⟩
    have hla := W.rows.1
    cases hlay : lay with
    | nil =>
      subst hlay
      have e : la = [] := List.length_eq_zero_iff.mp hla
      refine ifF (by rw [e]; rfl) ?_
      exact ⟨_, rfl, q H2 D TT d _ W.same W.dict W.words W.bf⟩
    | cons l0 lr =>
      rw [← hlay]
      have hne : lay ≠ [] := by rw [hlay]; exact List.cons_ne_nil _ _
      have hla0 : la ≠ [] := fun z => by rw [z] at hla; exact hne (List.length_eq_zero_iff.mp hla.symm)
      refine ifT (by cases la with | nil => exact absurd rfl hla0 | cons => rfl) ?_
      refine ⟨fun σ' H' => ∃ (TT' : List Tri) (d' : Nat) (lay' : List Rm.LN) (Ly' : Addr) (la' : List Addr) (x4 x5 x6 x7 : Option V), σ' = [some (.ref a), some (.ref b), some (.ref D), some (.ref Ly'), x4, x5, x6, x7] ∧ Ws n hb p H H' d' lay' [] (fun _ _ => False) TT' D Ly' la' ∧ d' = d + 1 ∧ TT'.length = TT.length + lay'.length,
        fun σ' H' hN => ?_, ?_⟩
      · obtain ⟨TT', d', lay', Ly', la', y4, y5, y6, y7, rfl, W', rfl, e⟩ := hN
        have hd1 := hdT hne
        refine ⟨_, ?_, TT', d + 1, lay', Ly', la', y4, y5, y6, y7, rfl, W', fun c => ?_, rfl⟩
        case refine_2 =>
          have : 0 < lay'.length := List.length_pos_iff.mpr c
          omega
        rw [if_neg hne]
        have hfew : TT'.length ≤ n ^ n := by
          have := W'.bf.few ok L
          unfold fT at this
          rw [List.length_map] at this
          exact this
        by_cases c : lay' = []
        · rw [if_pos c]
          omega
        · rw [if_neg c]
          have : 0 < lay'.length := List.length_pos_iff.mpr c
          omega
      · refine ⟨Nat.zero_le _, fun Lt hLt => ?_⟩
        have nLD : Lt ≠ D := (ne_of_none W.dict hLt).symm
        have nLy : Lt ≠ Ly := (ne_of_none W.ly hLt).symm
        have nLH : H Lt = none := W.same.free hLt
        refine ⟨_, rfl, Ly, rfl, ⟨_, .of (by rw [upd_ne nLy.symm]; exact W.ly)⟩, ?_⟩
        refine for_it (walk_list (K := K) (a := Ly) (xs := la.map V.ref)) (fun i σ H3 => ∃ (TT' : List Tri) (later : List Rm.LN) (lb : List Addr) (y5 y6 y7 : Option V), σ = [some (.ref a), some (.ref b), some (.ref D), some (.ref Ly), some (.ref Lt), y5, y6, y7] ∧
          Ws n hb p H H3 d lay later (fun l q => q < n ∧ ∃ j, j < i ∧ lay[j]? = some l) TT' D Ly la ∧ H3 Lt = some (.lst (lb.map V.ref)) ∧ Rws H3 lb later ∧ TT'.length = TT.length + later.length) ?_ (fun i σ H3 _ ⟨TT', later, lb, y5, y6, y7, e, W', _⟩ => .of W'.ly) ?_ ?_
        · have W1 := W.step (same_new (o := .lst []) hLt)
          exact ⟨TT, [], [], x5, x6, x7, rfl, ⟨W1.same, W1.nD, W1.bf.mono fun l q z => by obtain ⟨_, j, hj, _⟩ := z; exact absurd hj (Nat.not_lt_zero _), W1.dict, W1.words, W1.ly, W1.rows⟩, upd_same, ⟨rfl, fun j r hj => by cases hj⟩, rfl⟩
        · rintro i x σ H3 H3' hi ⟨TT', later, lb, y5, y6, y7, rfl, W', hLt3, hlb, hTl⟩ ⟨rfl, hx⟩
          obtain ⟨r, hr1, rfl⟩ := refs_get hx
          have hil : i < lay.length := by
            rw [← hla]
            exact (List.getElem?_eq_some_iff.mp hr1).1
          obtain ⟨one, hone⟩ : ∃ one, lay[i]? = some one := ⟨_, List.getElem?_eq_getElem hil⟩
          have hgd : lay.getD i [] = one := by rw [List.getD_eq_getElem?_getD, hone]; rfl
          obtain ⟨rs, hrs1, hrs2⟩ := hV.len
          refine ⟨_, rfl, a, _, rfl, .inr (.of (W'.same _ _ hrs1)), (n : Int), by rw [hrs2, ok.len], by omega, by omega, ?_⟩
          refine for_it (walk_range (lo := 0) (n := n)) (fun k σ H4 => ∃ (TT' : List Tri) (later : List Rm.LN) (lb : List Addr) (y6 y7 : Option V), σ = [some (.ref a), some (.ref b), some (.ref D), some (.ref Ly), some (.ref Lt), some (.ref r), y6, y7] ∧
            Ws n hb p H H4 d lay later (fun l q => (q < n ∧ ∃ j, j < i ∧ lay[j]? = some l) ∨ (l = one ∧ q < k)) TT' D Ly la ∧ H4 Lt = some (.lst (lb.map V.ref)) ∧ Rws H4 lb later ∧ TT'.length = TT.length + later.length) ?_ (fun _ _ _ _ _ => trivial) ?_ ?_
          · refine ⟨TT', later, lb, y6, y7, rfl, ⟨W'.same, W'.nD, W'.bf.mono fun l q z => ?_, W'.dict, W'.words, W'.ly, W'.rows⟩, hLt3, hlb, hTl⟩
            rcases z with z | z
            · exact z
            · exact absurd z.2 (Nat.not_lt_zero _)
          · clear W' hLt3 hlb hTl TT' later lb y6 y7
            rintro k x σ H0 H4 hk ⟨TT', later, lb, y6, y7, rfl, W', hLt4, hlb, hTl⟩ ⟨rfl, rfl⟩
            obtain ⟨v1, hv1, hvd⟩ := W'.bf.inLay one (List.mem_of_getElem? hone)
            obtain ⟨hrun, hvn, _⟩ := W'.bf.sound _ hv1
            have L1 : Rm.Lay n one := by
              have := Rm.run_lay ok L hvn
              rw [hrun] at this
              exact this
            have hone4 : H4 r = some (vT one) := by
              have := W'.rows.2 i r hr1
              rw [hgd] at this
              exact this
            have e0 : V.int ((0 : Int) + (k : Nat)) = V.int (k : Nat) := by rw [Int.zero_add]
            refine ⟨_, rfl, _, rfl, _, rfl, a, r, hb, n, one, k, by rw [← e0]; rfl, hV.same W'.same, ok, n5, hone4, L1, hk, fun H5 q5 S5 hq4 hq5 => ?_⟩
            have W5 := W'.step S5
            have hLt5 := S5 _ _ hLt4
            have hlb5 : Rws H5 lb later := hlb.ext fun b xs z => S5 _ _ z
            have hq5k : H5 q5 = some (.tup ((kk (Rm.touch hb one k)).map kV)) := by rw [kk_vI]; exact hq5
            refine ⟨_, rfl, _, rfl, D, _, rfl, DGet.t W5.dict hq5k, _, rfl, ?_⟩
            obtain ⟨tf1, tf2⟩ := tri_find TT' (Rm.touch hb one k)
            cases hf : TT'.find? (fun t => decide (t.1 = Rm.touch hb one k)) with
            | some t =>
              rw [hf] at tf1 tf2
              refine ifF (by rw [tf2]; rfl) ?_
              have hm := Rm.look_mem tf1
              have B := W5.bf.old (one := one) (p := k) (List.mem_map.mpr ⟨_, hm, rfl⟩)
              refine ⟨TT', later, lb, _, _, rfl, ⟨W5.same, W5.nD, B.mono fun l q z => ?_, W5.dict, W5.words, W5.ly, W5.rows⟩, hLt5, hlb5, hTl⟩
              rcases z with z | ⟨z1, z2⟩
              · exact .inl (.inl z)
              · rcases Nat.lt_succ_iff_lt_or_eq.mp z2 with z3 | z3
                · exact .inl (.inr ⟨z1, z3⟩)
                · exact .inr ⟨z1, z3⟩
            | none =>
              rw [hf] at tf1 tf2
              refine ifT (by rw [tf2]; rfl) ?_
              obtain ⟨of1, of2⟩ := tri_find TT' one
              rw [Rm.mem_look W'.bf.nd hv1] at of1
              obtain ⟨t, ht1, ht2⟩ := Option.map_eq_some_iff.mp of1.symm
              rw [ht1] at of2
              have htm : t ∈ TT' := List.mem_of_find?_eq_some ht1
              have htw := W5.words t htm
              rw [ht2] at htw
              have hone5 := S5 _ _ hone4
              have hone5k : H5 r = some (.tup ((kk one).map kV)) := by rw [kk_vI]; exact hone5
              have hnew := Rm.look_none tf1
              have B := W5.bf.new (one := one) (w := v1) (p := k) hv1 hvd hk hnew
              have hTfew : TT'.length ≤ 3125 := by
                have h1 := W5.bf.few ok L
                unfold fT at h1
                rw [List.length_map] at h1
                exact Nat.le_trans h1 (Rm.pow_small n5)
              have hkl : (kT TT').length = TT'.length := List.length_map _
              have hvl := hdT hne
              refine ⟨_, rfl, _, rfl, D, .ref t.2.2, rfl, (by
                have g := DGet.t W5.dict hone5k
                rw [of2] at g
                exact g), _, rfl, (by show 1 ≤ sizeLine; decide), fun tu htu => ?_⟩
              refine catA_use (xs := vI v1) (ys := [V.int ((0 : Int) + (k : Nat))]) (by rw [upd_ne (ne_of_none htw htu)]; exact htw) upd_same (by rw [vI_length, sizeLine_eq]; show v1.length + 1 ≤ _; omega) (List.cons_ne_nil _ _) fun H6 wa S6 hwa => ?_
              rw [e0, vI_snoc] at hwa
              have S56 : Same H5 H6 := (same_new htu).trans S6
              have W6 := W5.step S56
              have hq6 := S56 _ _ hq5k
              have hLt6 := S56 _ _ hLt5
              refine ⟨_, rfl, _, rfl, D, _, rfl, DPut.t W6.dict hq6 (by rw [hkl, sizeLine_eq]; omega), ?_⟩
              rw [tri_any TT' _ tf2]
              have hLt7 : upd H6 D (.dT (kT TT' ++ [(kk (Rm.touch hb one k), V.ref wa)])) Lt = some (.lst (lb.map V.ref)) := by rw [upd_ne nLD]; exact hLt6
              have hlbl := hlb.1
              refine ⟨_, rfl, .inl ⟨rfl, _, .of hLt7⟩, _, rfl, Lt, _, _, rfl, rfl, hLt7, by rw [List.length_map, sizeLine_eq]; omega, ?_⟩
              have TS : TupS H6 (upd (upd H6 D (.dT (kT TT' ++ [(kk (Rm.touch hb one k), V.ref wa)]))) Lt (.lst (lb.map V.ref ++ [V.ref q5]))) := (TupS.upd W6.dict (fun xs z => by cases z)).trans (TupS.upd hLt7 (fun xs z => by cases z))
              refine ⟨TT' ++ [(Rm.touch hb one k, v1 ++ [k], wa)], later ++ [Rm.touch hb one k], lb ++ [q5], _, _, rfl, ⟨fun c o e => ?_, W6.nD, ?_, ?_, fun z hz => ?_, ?_, W6.rows.ext TS⟩, ?_, ?_, ?_⟩
              · rw [upd_ne (ne_of_none e nLH), upd_ne (ne_of_none e W6.nD)]
                exact W6.same _ _ e
              · have eT : fT (TT' ++ [(Rm.touch hb one k, v1 ++ [k], wa)]) = fT TT' ++ [(Rm.touch hb one k, v1 ++ [k])] := List.map_append
                rw [eT]
                refine B.mono fun l q z => ?_
                rcases z with z | ⟨z1, z2⟩
                · exact .inl (.inl z)
                · rcases Nat.lt_succ_iff_lt_or_eq.mp z2 with z3 | z3
                  · exact .inl (.inr ⟨z1, z3⟩)
                  · exact .inr ⟨z1, z3⟩
              · rw [upd_ne nLD.symm, upd_same]
                exact congrArg (fun z => some (HO.dT z)) (kT_snoc TT' _ _ _)
              · rcases List.mem_append.mp hz with hz | hz
                · exact TS _ _ (W6.words z hz)
                · rw [List.mem_singleton.mp hz]
                  exact TS _ _ hwa
              · rw [upd_ne nLy.symm, upd_ne (ne_of W6.ly W6.dict (by intro z; cases z))]
                exact W6.ly
              · rw [upd_same]
                exact congrArg (fun z => some (HO.lst z)) (refs_snoc lb q5)
              · exact Rws.snoc (hlb5.ext ((TupS.of S56).trans TS)) (TS _ _ (S56 _ _ hq5))
              · rw [List.length_append, List.length_append, hTl]
                rfl
          · rintro σ H4 ⟨TT', later, lb, y6, y7, rfl, W', hLt4, hlb, hTl⟩
            refine ⟨TT', later, lb, _, y6, y7, rfl, ⟨W'.same, W'.nD, W'.bf.mono fun l q z => ?_, W'.dict, W'.words, W'.ly, W'.rows⟩, hLt4, hlb, hTl⟩
            obtain ⟨z1, j, z2, z3⟩ := z
            rcases Nat.lt_succ_iff_lt_or_eq.mp z2 with z4 | z4
            · exact .inl ⟨z1, j, z4, z3⟩
            · rw [z4, hone] at z3
              exact .inr ⟨(Option.some.inj z3).symm, z1⟩
        · rintro σ H3 ⟨TT', later, lb, y5, y6, y7, rfl, W', hLt3, hlb, hTl⟩
          refine ⟨_, rfl, TT', d + 1, later, Lt, lb, _, y5, y6, y7, rfl, ⟨W'.same, W'.nD, W'.bf.next fun l hl q hq => ?_, W'.dict, W'.words, hLt3, hlb⟩, rfl, hTl⟩
          obtain ⟨j, hj⟩ := List.mem_iff_getElem?.mp hl
          refine ⟨hq, j, ?_, hj⟩
          rw [List.length_map, hla]
          exact (List.getElem?_eq_some_iff.mp hj).1
end
end Rs
set_option maxHeartbeats 8000000
/-! shelves: word_between, distance, front_habit, neighbour_habit -/
namespace Rs
open PySem PySem.Spec PyProof.Rows L2 LamX
theorem abs_new {H : Hp} {o : HO} {Q : VK} (q : ∀ (H' : Hp) (p : Addr), Same H H' → H p = none → H' p = some o → Q (.ref p) H') : ∀ p, H p = none → Q (.ref p) (upd H p o) := fun p hp => q _ p (same_new hp) hp upd_same
theorem catL_use {H : Hp} {a b : Addr} {xs ys : List V} {Q : VK} (ha : H a = some (.lst xs)) (hb : H b = some (.lst ys)) (hl : xs.length + ys.length ≤ sizeLine)
    (q : ∀ H' p, Same H H' → H p = none → H' p = some (.lst (xs ++ ys)) → Q (.ref p) H') : rCat (.ref a) (.ref b) H Q :=
  ⟨a, b, xs, ys, rfl, rfl, ha, hb, hl, abs_new q⟩
section
variable {P : Program} {w : World} {K : PySem.W.Frag} {mg : Str → Option Value} {base : Heap}
/-- a word, or None -/
def WdV (H : Hp) (v : V) (r : Option Rm.LN) : Prop := (v = .non ∧ r = none) ∨ ∃ (c : Addr) (x : Rm.LN), v = .ref c ∧ r = some x ∧ H c = some (vT x)
def spWB (K : PySem.W.Frag) : Sp := fun vs H Q _ => ∃ (a b c : Addr) (h : Rm.Hab) (n : Nat) (p o : Rm.LN), vs = [.ref a, .ref b, .ref c] ∧ HabV H a h ∧ Rm.HabOk n h ∧ 2 ≤ n ∧ n ≤ 5 ∧ H b = some (vT p) ∧ Rm.Lay n p ∧ H c = some (vT o) ∧ Rm.Lay n o ∧ Tb K H ∧
  ∀ (H' : Hp) (v : V) (r : Option Rm.LN), Stp K H H' → Rm.Dist n h p o r → WdV H' v r → Q v H'
theorem scWB : FnScope ["habit", "one", "other"] ["habit", "one", "other"] (defScope s_word_between) := ⟨rfl, rfl, rfl, by decide +kernel, rfl, by decide +kernel, by decide +kernel⟩
theorem ok_WB (G : Gd K mg base) : FnOk P w K mg base CX0 4 (He.ga K "word_between") (fdO K "word_between") ["habit", "one", "other"] (spWB K) := by
  have T := G.T
  have GS : FnOk P w K mg base CX0 3 (He.ga K "need_shelf") (fdO K "need_shelf") ["habit", "layout"] (spNeedS K) := ok_needS G
  have GL : FnOk P w K mg base CX0 2 (He.ga K "need_layout") (fdO K "need_layout") ["habit", "value"] (spNeedL K) := ok_needL G
  have GF : FnOk P w K mg base CX0 2 (He.ga K "words_from") (fdO K "words_from") ["habit", "layout"] spWF := ok_WF G
  refine T.F_word_between.ok scWB (fun vs H Q E h => ?_) (fun A outer s H vs Q E hr h => ?_)
  · obtain ⟨a, b, c, h, n, p, o, rfl, _⟩ := h
    rfl
  · obtain ⟨a, b, c, hb, n, p, o, rfl, hV, ok, n2, n5, hp, L, ho, Lo, hT, q⟩ := h
    refine ⟨_, PSs.nox (pss_cons (ps_expr (pe_call GS hr rfl T.g_need_shelf T.F_need_shelf.kp T.b_need_shelf .nil pass0 (pa_cons (pv 0) (pa_cons (pv 1) pa_nil))))
      (pss_cons (ps_expr (pe_call GL (hr.mono (by decide)) rfl T.g_need_layout T.F_need_layout.kp T.b_need_layout .nil pass0 (pa_cons (pv 0) (pa_cons (pv 2) pa_nil))))
      (pss_one (ps_ret (pe_dget1 (hu_of hr) (pe_call GF (hr.mono (by decide)) rfl T.g_words_from T.F_words_from.kp T.b_words_from .nil pass0 (pa_cons (pv 0) (pa_cons (pv 1) pa_nil))) (pv 2) ⟨rfl, rfl, rfl, rfl⟩))))), ?_⟩
    refine ⟨_, rfl, _, rfl, a, b, hb, n, p, rfl, hV, ok, n2, n5, hp, L, hT, fun H2 S2 => ?_⟩
    refine ⟨_, rfl, _, rfl, a, c, hb, n, o, rfl, hV.ext S2.1, ok, n5, S2.t ho, Lo, S2.2, fun H3 S3 => ?_⟩
    have S13 := S2.trans S3
    refine ⟨_, rfl, _, rfl, a, b, hb, n, p, rfl, hV.ext S13.1, ok, n5, S13.t hp, L, fun H4 D TT d dn S4 hD hw B => ?_⟩
    have S14 := S13.trans (Stp.same S13.2 S4)
    have ho4 : H4 c = some (.tup ((kk o).map kV)) := by rw [kk_vI]; exact S14.t ho
    refine ⟨D, rfl, .inr ⟨_, .inl hD⟩, _, rfl, _, DGet.t hD ho4, ?_⟩
    obtain ⟨t1, t2⟩ := tri_find TT o
    rw [t2]
    refine q H4 _ _ S14 (B.dist o) ?_
    rw [t1]
    cases hf : TT.find? (fun t => decide (t.1 = o)) with
    | none => exact .inl ⟨rfl, rfl⟩
    | some t => exact .inr ⟨t.2.2, t.2.1, rfl, rfl, hw t (List.mem_of_find?_eq_some hf)⟩
/-! ### distance -/
def dV (r : Option Rm.LN) : V := match r with
  | none => .non
  | some x => .int (x.length : Nat)
def spDist (K : PySem.W.Frag) : Sp := fun vs H Q _ => ∃ (a b c : Addr) (h : Rm.Hab) (n : Nat) (p o : Rm.LN), vs = [.ref a, .ref b, .ref c] ∧ HabV H a h ∧ Rm.HabOk n h ∧ 2 ≤ n ∧ n ≤ 5 ∧ H b = some (vT p) ∧ Rm.Lay n p ∧ H c = some (vT o) ∧ Rm.Lay n o ∧ Tb K H ∧
  ∀ (H' : Hp) (r : Option Rm.LN), Stp K H H' → Rm.Dist n h p o r → Q (dV r) H'
theorem scDist : FnScope ["habit", "one", "other", "found"] ["habit", "one", "other"] (defScope s_distance) := ⟨rfl, rfl, rfl, by decide +kernel, rfl, by decide +kernel, by decide +kernel⟩
theorem ok_dist (G : Gd K mg base) : FnOk P w K mg base CX0 5 (He.ga K "distance") (fdO K "distance") ["habit", "one", "other"] (spDist K) := by
  have T := G.T
  have GW : FnOk P w K mg base CX0 4 (He.ga K "word_between") (fdO K "word_between") ["habit", "one", "other"] (spWB K) := ok_WB G
  refine T.F_distance.ok scDist (fun vs H Q E h => ?_) (fun A outer s H vs Q E hr h => ?_)
  · obtain ⟨a, b, c, h, n, p, o, rfl, _⟩ := h
    rfl
  · obtain ⟨a, b, c, hb, n, p, o, rfl, hV, ok, n2, n5, hp, L, ho, Lo, hT, q⟩ := h
    refine ⟨_, PSs.nox (pss_cons (ps_set (i := 3) scDist.nd rfl (.inl rfl) (pe_call GW hr rfl T.g_word_between T.F_word_between.kp T.b_word_between .nil pass0 (pa_cons (pv 0) (pa_cons (pv 1) (pa_cons (pv 2) pa_nil)))))
      (pss_one (ps_ret (pe_ifExp (pt_cmpR op_isN (pv 3) pe_non (nomark _)) pe_non (pe_callB call_len_seq (by rfl) T.z_len boot_len (pa_cons (pv 3) pa_nil)))))), ?_⟩
    refine ⟨_, rfl, _, rfl, _, rfl, a, b, c, hb, n, p, o, rfl, hV, ok, n2, n5, hp, L, ho, Lo, hT, fun H2 v r S2 Di hv => ?_⟩
    refine ⟨_, rfl, rfl, _, rfl, ?_⟩
    rcases hv with ⟨rfl, rfl⟩ | ⟨d, x, rfl, rfl, hd⟩
    · refine ifT rfl ?_
      exact q H2 none S2 Di
    · refine ifF rfl ?_
      refine ⟨_, rfl, d, _, rfl, .inr (.of hd), ?_⟩
      rw [vI_length]
      exact q H2 _ S2 Di
/-! ### the habits -/
def spHab (hab : Nat → Rm.Hab) : Sp := fun vs H Q _ => ∃ n : Nat, vs = [.int (n : Int)] ∧ 2 ≤ n ∧ n ≤ 5 ∧ ∀ (H' : Hp) (a : Addr), Same H H' → HabV H' a (hab n) → Q (.ref a) H'
theorem rg_nat (a b : Nat) : rgV (a : Int) (b : Int) = vI ((List.range (b - a)).map fun i => a + i) := by
  unfold rgV
  show _ = List.map _ (List.map _ _)
  rw [List.map_map, show ((b : Int) - (a : Int)).toNat = b - a by omega]
  exact List.map_congr_left fun i _ => by
    show V.int ((a : Int) + (i : Nat)) = V.int ((a + i : Nat) : Int)
    rw [Int.natCast_add]
theorem hab_of {H : Hp} {a : Addr} {la : List Addr} {h : Rm.Hab} (h1 : H a = some (.tup (la.map V.ref))) (r : Rws H la h) : HabV H a h := ⟨la, h1, r.1, r.2⟩
theorem scFH : FnScope ["places", "found", "place"] ["places"] (defScope s_front_habit) := ⟨rfl, rfl, rfl, by decide +kernel, rfl, by decide +kernel, by decide +kernel⟩
theorem ok_FH (G : Gd K mg base) : FnOk P w K mg base CX0 2 (He.ga K "front_habit") (fdO K "front_habit") ["places"] (spHab Rm.frontHab) := by
  have T := G.T
  have GN : FnOk P w K mg base CX0 1 (He.ga K "need_number") (fdO K "need_number") ["value", "low", "high"] spNeedN := ok_needN G
  refine T.F_front_habit.ok scFH (fun vs H Q E h => ?_) (fun A outer s H vs Q E hr h => ?_)
  · obtain ⟨n, rfl, _⟩ := h
    rfl
  · obtain ⟨n, rfl, n2, n5, q⟩ := h
    obtain ⟨t1, g1⟩ := T.i_LEAST_PLACES
    obtain ⟨t2, g2⟩ := T.i_MOST_PLACES_shelves
    refine ⟨_, PSs.nox (pss_cons (ps_expr (pe_call GN hr rfl T.g_need_number T.F_need_number.kp T.b_need_number .nil pass0 (pa_cons (pv 0) (pa_cons (pe_glob (v := .int 2) rfl g1 ⟨_, rfl⟩) (pa_cons (pe_glob (v := .int 5) rfl g2 ⟨_, rfl⟩) pa_nil)))))
      (pss_cons (ps_set (i := 1) scFH.nd rfl (.inl rfl) (pe_lst pa_nil))
      (pss_cons (ps_for PassesOwn.never rfl (pi_range1 (by rfl) T.z_range (pa_cons (pv 0) pa_nil)) (pg_name (i := 2) scFH.nd rfl (.inl rfl))
        (pss_one (ps_expr (pe_bm PySem.F.plainAttrs_list PySem.F.slot_list_append PySem.F.type_list_append mt_append (pv 1)
          (pa_cons (pe_tupleOf (by rfl) T.z_tuple (pe_op op_cat (pe_op op_cat (pe_listRg rfl (by rfl) T.z_list (prg_2 (by rfl) T.z_range pe_int (pe_op op_add (pv 2) pe_int))) (pe_lst (pa_cons pe_int pa_nil)))
            (pe_listRg rfl (by rfl) T.z_list (prg_2 (by rfl) T.z_range (pe_op op_add (pv 2) pe_int) (pv 0))))) pa_nil)))))
      (pss_one (ps_ret (pe_tupleOf (by rfl) T.z_tuple (pv 1))))))), ?_⟩
    refine ⟨_, rfl, _, _, _, rfl, by omega, by omega, ?_⟩
    refine ⟨Nat.zero_le _, fun L hL => ?_⟩
    refine ⟨_, rfl, (n : Int), rfl, by omega, by omega, ?_⟩
    refine for_it (walk_range (lo := 0) (n := n)) (fun i σ H2 => ∃ (la : List Addr) (x : Option V), σ = [some (.int (n : Int)), some (.ref L), x] ∧ Same H H2 ∧ H2 L = some (.lst (la.map V.ref)) ∧ Rws H2 la ((List.range i).map (Rm.frontRow n))) ?_ (fun _ _ _ _ _ => trivial) ?_ ?_
    · exact ⟨[], none, rfl, same_new hL, upd_same, rfl, fun j r hj => by cases hj⟩
    · rintro k x σ H0 H2 hk ⟨la, y, rfl, S2, hL2, hla⟩ ⟨rfl, rfl⟩
      have e0 : (fun i : Nat => V.int ((0 : Int) + (i : Nat))) k = V.int (k : Nat) := by
        show V.int ((0 : Int) + ((k : Nat) : Int)) = _
        rw [Int.zero_add]
      rw [e0]
      have r1 : rgV 1 ((k : Int) + 1) = vI ((List.range k).map (· + 1)) := by
        have e := rg_nat 1 (k + 1)
        rw [Int.natCast_add] at e
        refine e.trans ?_
        rw [Nat.add_sub_cancel]
        exact congrArg vI (List.map_congr_left fun i _ => Nat.add_comm 1 i)
      have r2 : rgV ((k : Int) + 1) (n : Int) = vI ((List.range (n - (k + 1))).map fun i => k + 1 + i) := by
        have e := rg_nat (k + 1) n
        rw [Int.natCast_add] at e
        exact e
      refine ⟨_, rfl, .inl ⟨rfl, _, .of hL2⟩, _, rfl, _, _, rfl, rfl, _, _, rfl, rfl, RgOk.of_le (by omega) (by omega) (by omega) (by omega), fun l1 h1 => ?_⟩
      have S3 := same_new (o := .lst (rgV 1 ((k : Int) + 1))) h1
      have e1 : upd H2 l1 (.lst (rgV 1 ((k : Int) + 1))) l1 = some (.lst (rgV 1 ((k : Int) + 1))) := upd_same
      generalize hE3 : upd H2 l1 (.lst (rgV 1 ((k : Int) + 1))) = H3 at S3 e1 ⊢
      refine ⟨(by show 1 ≤ sizeLine; decide), fun l2 h2 => ?_⟩
      have S4 := same_new (o := .lst [V.int 0]) h2
      have e2 : upd H3 l2 (.lst [V.int 0]) l2 = some (.lst [V.int 0]) := upd_same
      generalize hE4 : upd H3 l2 (.lst [V.int 0]) = H4 at S4 e2 ⊢
      refine catL_use (S4 _ _ e1) e2 (by rw [r1, vI_length, List.length_map, List.length_range, sizeLine_eq]; show k + 1 ≤ _; omega) fun H5 l3 S5 _ e3 => ?_
      refine ⟨_, rfl, _, _, rfl, rfl, _, rfl, _, _, rfl, rfl, RgOk.of_le (by omega) (by omega) (by omega) (by omega), fun l4 h4 => ?_⟩
      have S6 := same_new (o := .lst (rgV ((k : Int) + 1) (n : Int))) h4
      have e4 : upd H5 l4 (.lst (rgV ((k : Int) + 1) (n : Int))) l4 = some (.lst (rgV ((k : Int) + 1) (n : Int))) := upd_same
      generalize hE6 : upd H5 l4 (.lst (rgV ((k : Int) + 1) (n : Int))) = H6 at S6 e4 ⊢
      refine catL_use (S6 _ _ e3) e4 (by rw [r1, r2, List.length_append, vI_length, vI_length, List.length_map, List.length_map, List.length_range, List.length_range, sizeLine_eq]; show k + 1 + (n - (k + 1)) ≤ _; omega) fun H7 l5 S7 _ e5 => ?_
      refine .inl ⟨l5, _, rfl, .of e5, fun l6 h6 => ?_⟩
      have S8 := same_new (o := .tup (rgV 1 ((k : Int) + 1) ++ [V.int 0] ++ rgV ((k : Int) + 1) (n : Int))) h6
      have e6 : upd H7 l6 (.tup (rgV 1 ((k : Int) + 1) ++ [V.int 0] ++ rgV ((k : Int) + 1) (n : Int))) l6 = _ := upd_same
      generalize hE8 : upd H7 l6 (.tup (rgV 1 ((k : Int) + 1) ++ [V.int 0] ++ rgV ((k : Int) + 1) (n : Int))) = H8 at S8 e6 ⊢
      have S28 : Same H2 H8 := ((((S3.trans S4).trans S5).trans S6).trans S7).trans S8
      have hL8 := S28 _ _ hL2
      have hlal : la.length = k := by rw [hla.1, List.length_map, List.length_range]
      refine ⟨L, _, _, rfl, rfl, hL8, by rw [List.length_map, hlal, sizeLine_eq]; omega, la ++ [l6], _, rfl, ?_, ?_, ?_⟩
      · exact fun c o e => by
          rw [upd_ne (ne_of_none e hL)]
          exact S28 _ _ (S2 _ _ e)
      · rw [upd_same, refs_snoc]
      · rw [List.range_succ, List.map_append]
        have T8 : TupS H8 (upd H8 L (.lst (la.map V.ref ++ [V.ref l6]))) := TupS.upd hL8 fun xs z => by cases z
        refine Rws.snoc ((hla.ext (TupS.of S28)).ext T8) (T8 _ _ ?_)
        rw [e6, r1, r2]
        refine congrArg (fun z => some (HO.tup z)) ?_
        show (vI _ ++ [V.int ((0 : Nat) : Int)]) ++ vI _ = vI (Rm.frontRow n k)
        unfold Rm.frontRow vI
        rw [List.map_append, List.map_append, List.append_assoc]
        rfl
    · rintro σ H2 ⟨la, y, rfl, S2, hL2, hla⟩
      refine ⟨_, rfl, .inl ⟨L, _, rfl, .of hL2, fun r hr => q _ r (S2.trans (same_new hr)) (hab_of upd_same (hla.ext fun b xs e => same_new hr _ _ e))⟩⟩
end
end Rs
set_option maxHeartbeats 8000000
/-! shelves: neighbour_habit, turning_habit -/
namespace Rs
open PySem PySem.Spec PyProof.Rows L2 LamX
section
variable {P : Program} {w : World} {K : PySem.W.Frag} {mg : Str → Option Value} {base : Heap}
theorem yes_use {σ : L2.St} {H : Hp} {R N : Hp → Prop} (h : R H) : tYes σ H fun b H3 => if b = true then R H3 else N H3 := by
  show if true = true then R H else N H
  exact iteT h
theorem range_hab {α : Type} {f : Nat → α} {k : Nat} : (List.range (k + 1)).map f = (List.range k).map f ++ [f k] := by rw [List.range_succ, List.map_append]; rfl
theorem scNH : FnScope ["places", "found", "place"] ["places"] (defScope s_neighbour_habit) := ⟨rfl, rfl, rfl, by decide +kernel, rfl, by decide +kernel, by decide +kernel⟩
theorem ok_NH (G : Gd K mg base) : FnOk P w K mg base CX0 2 (He.ga K "neighbour_habit") (fdO K "neighbour_habit") ["places"] (spHab Rm.nbHab) := by
  have T := G.T
  have GN : FnOk P w K mg base CX0 1 (He.ga K "need_number") (fdO K "need_number") ["value", "low", "high"] spNeedN := ok_needN G
  refine T.F_neighbour_habit.ok scNH (fun vs H Q E h => ?_) (fun A outer s H vs Q E hr h => ?_)
  · obtain ⟨n, rfl, _⟩ := h
    rfl
  · obtain ⟨n, rfl, n2, n5, q⟩ := h
    obtain ⟨t1, g1⟩ := T.i_LEAST_PLACES
    obtain ⟨t2, g2⟩ := T.i_MOST_PLACES_shelves
    refine ⟨_, PSs.nox (pss_cons (ps_expr (pe_call GN hr rfl T.g_need_number T.F_need_number.kp T.b_need_number .nil pass0 (pa_cons (pv 0) (pa_cons (pe_glob (v := .int 2) rfl g1 ⟨_, rfl⟩) (pa_cons (pe_glob (v := .int 5) rfl g2 ⟨_, rfl⟩) pa_nil)))))
      (pss_cons (ps_set (i := 1) scNH.nd rfl (.inl rfl) (pe_lst (pa_cons (pe_tupRg rfl (by rfl) T.z_tuple (prg_1 (by rfl) T.z_range (pv 0))) pa_nil)))
      (pss_cons (ps_for PassesOwn.never rfl (pi_range2 (by rfl) T.z_range (pa_cons pe_int (pa_cons (pv 0) pa_nil))) (pg_name (i := 2) scNH.nd rfl (.inl rfl))
        (pss_one (ps_expr (pe_bm PySem.F.plainAttrs_list PySem.F.slot_list_append PySem.F.type_list_append mt_append (pv 1)
          (pa_cons (pe_tupleOf (by rfl) T.z_tuple (pe_op op_cat (pe_op op_cat (pe_listRg rfl (by rfl) T.z_list (prg_1 (by rfl) T.z_range (pe_op op_sub (pv 2) pe_int))) (pe_lst (pa_cons (pv 2) (pa_cons (pe_op op_sub (pv 2) pe_int) pa_nil))))
            (pe_listRg rfl (by rfl) T.z_list (prg_2 (by rfl) T.z_range (pe_op op_add (pv 2) pe_int) (pv 0))))) pa_nil)))))
      (pss_one (ps_ret (pe_tupleOf (by rfl) T.z_tuple (pv 1))))))), ?_⟩
    refine ⟨_, rfl, _, _, _, rfl, by omega, by omega, ?_⟩
    refine ⟨_, rfl, (n : Int), rfl, RgOk.of_le (by omega) (by omega) (by omega) (by omega), fun p0 hp0 => ?_⟩
    have S0 := same_new (o := .tup (rgV 0 (n : Int))) hp0
    have e0' : upd H p0 (.tup (rgV 0 (n : Int))) p0 = some (.tup (rgV 0 (n : Int))) := upd_same
    generalize hE0 : upd H p0 (.tup (rgV 0 (n : Int))) = H0 at S0 e0' ⊢
    refine ⟨(by show 1 ≤ sizeLine; decide), fun L hL => ?_⟩
    have hLH : H L = none := S0.free hL
    refine ⟨_, rfl, 1, (n : Int), rfl, ⟨by omega, by omega, by omega, by omega⟩, ?_⟩
    have row0 : rgV 0 (n : Int) = vI (List.range n) := by
      have e := rg_nat 0 n
      refine e.trans (congrArg vI ?_)
      conv => rhs; rw [← List.map_id (List.range n)]
      exact List.map_congr_left fun i _ => Nat.zero_add i
    refine for_it (walk_range (lo := 1) (n := ((n : Int) - 1).toNat)) (fun i σ H2 => ∃ (la : List Addr) (x : Option V), σ = [some (.int (n : Int)), some (.ref L), x] ∧ Same H H2 ∧ H2 L = some (.lst (la.map V.ref)) ∧ Rws H2 la ((List.range (i + 1)).map fun k => if k = 0 then List.range n else Rm.nbRow n k)) ?_ (fun _ _ _ _ _ => trivial) ?_ ?_
    · refine ⟨[p0], none, rfl, S0.trans (same_new hL), upd_same, rfl, fun j r hj => ?_⟩
      cases j with
      | zero =>
        have e : p0 = r := Option.some.inj hj
        rw [← e, same_new hL _ _ e0', row0]
        rfl
      | succ j => cases hj
    · rintro i x σ H1 H2 hi ⟨la, y, rfl, S2, hL2, hla⟩ ⟨rfl, rfl⟩
      have hk : i + 1 < n := by omega
      have e0 : (fun i : Nat => V.int ((1 : Int) + (i : Nat))) i = V.int ((i + 1 : Nat) : Int) := by
        show V.int ((1 : Int) + ((i : Nat) : Int)) = _
        rw [Int.natCast_add, Int.add_comm]
        rfl
      rw [e0]
      have eS : V.int (((i + 1 : Nat) : Int) - 1) = V.int (i : Int) := by
        rw [Int.natCast_add]
        show V.int ((i : Int) + 1 - 1) = _
        rw [Int.add_sub_cancel]
      have r1 : rgV 0 (((i + 1 : Nat) : Int) - 1) = vI (List.range i) := by
        have e := rg_nat 0 i
        rw [show (((i + 1 : Nat) : Int) - 1) = (i : Int) by omega]
        refine e.trans (congrArg vI ?_)
        conv => rhs; rw [← List.map_id (List.range i)]
        exact List.map_congr_left fun j _ => Nat.zero_add j
      have r2 : rgV (((i + 1 : Nat) : Int) + 1) (n : Int) = vI ((List.range (n - (i + 1 + 1))).map fun j => i + 1 + 1 + j) := rg_nat (i + 1 + 1) n
      refine ⟨_, rfl, .inl ⟨rfl, _, .of hL2⟩, _, rfl, _, _, rfl, rfl, _, rfl, RgOk.of_le (by omega) (by omega) (by omega) (by omega), fun l1 h1 => ?_⟩
      rw [r1]
      have S3 := same_new (o := .lst (vI (List.range i))) h1
      have e1 : upd H2 l1 (.lst (vI (List.range i))) l1 = some (.lst (vI (List.range i))) := upd_same
      generalize hE3 : upd H2 l1 (.lst (vI (List.range i))) = H3 at S3 e1 ⊢
      refine ⟨_, rfl, _, rfl, _, _, rfl, rfl, (by show 2 ≤ sizeLine; decide), fun l2 h2 => ?_⟩
      have S4 := fun o => same_new (o := o) h2
      refine catL_use (S4 _ _ _ e1) upd_same (by rw [vI_length, List.length_range, sizeLine_eq]; show i + 2 ≤ _; omega) fun H5 l3 S5' _ e3' => ?_
      have S5 : Same H3 H5 := (S4 _).trans S5'
      have e3 : H5 l3 = some (.lst (vI (List.range i) ++ [V.int ((i + 1 : Nat) : Int), V.int (i : Int)])) := by
        rw [← eS]
        exact e3'
      refine ⟨_, rfl, _, _, rfl, rfl, _, rfl, _, _, rfl, rfl, RgOk.of_le (by omega) (by omega) (by omega) (by omega), fun l4 h4 => ?_⟩
      rw [r2]
      generalize hr2 : vI ((List.range (n - (i + 1 + 1))).map fun j => i + 1 + 1 + j) = R2
      have lr2 : R2.length ≤ 5 := by rw [← hr2, vI_length, List.length_map, List.length_range]; omega
      have S6 := same_new (o := .lst R2) h4
      have e4 : upd H5 l4 (.lst R2) l4 = some (.lst R2) := upd_same
      generalize hE6 : upd H5 l4 (.lst R2) = H6 at S6 e4 ⊢
      refine catL_use (xs := vI (List.range i) ++ [V.int ((i + 1 : Nat) : Int), V.int (i : Int)]) (S6 _ _ e3) e4 (by rw [List.length_append, vI_length, List.length_range, sizeLine_eq]; show i + 2 + R2.length ≤ _; omega) fun H7 l5 S7 _ e5 => ?_
      refine .inl ⟨l5, _, rfl, .of e5, fun l6 h6 => ?_⟩
      have eR : vI (List.range i) ++ [V.int ((i + 1 : Nat) : Int), V.int (i : Int)] ++ R2 = vI (Rm.nbRow n (i + 1)) := by
        rw [← hr2]
        unfold Rm.nbRow vI
        rw [List.map_append, List.map_append, List.append_assoc]
        rfl
      rw [eR]
      have S8 := same_new (o := .tup (vI (Rm.nbRow n (i + 1)))) h6
      have e6 : upd H7 l6 (.tup (vI (Rm.nbRow n (i + 1)))) l6 = _ := upd_same
      generalize hE8 : upd H7 l6 (.tup (vI (Rm.nbRow n (i + 1)))) = H8 at S8 e6 ⊢
      have S28 : Same H2 H8 := (((S3.trans S5).trans S6).trans S7).trans S8
      have hL8 := S28 _ _ hL2
      have hlal : la.length = i + 1 := by rw [hla.1, List.length_map, List.length_range]
      refine ⟨L, _, _, rfl, rfl, hL8, by rw [List.length_map, hlal, sizeLine_eq]; omega, la ++ [l6], _, rfl, ?_, ?_, ?_⟩
      · exact fun c o e => by
          rw [upd_ne (ne_of_none e hLH)]
          exact S28 _ _ (S2 _ _ e)
      · rw [upd_same, refs_snoc]
      · rw [range_hab]
        have T8 : TupS H8 (upd H8 L (.lst (la.map V.ref ++ [V.ref l6]))) := TupS.upd hL8 fun xs z => by cases z
        exact Rws.snoc ((hla.ext (TupS.of S28)).ext T8) (T8 _ _ e6)
    · rintro σ H2 ⟨la, y, rfl, S2, hL2, hla⟩
      refine ⟨_, rfl, .inl ⟨L, _, rfl, .of hL2, fun r hr => q _ r (S2.trans (same_new hr)) (hab_of upd_same ?_)⟩⟩
      have hn1 : ((n : Int) - 1).toNat + 1 = n := by omega
      rw [hn1] at hla
      exact hla.ext fun b xs e => same_new hr _ _ e
/-! ### turning_habit -/
theorem scTH : FnScope ["places", "place", "stands"] ["places"] (defScope s_turning_habit) := ⟨rfl, rfl, rfl, by decide +kernel, rfl, by decide +kernel, by decide +kernel⟩
theorem ok_TH (G : Gd K mg base) : FnOk P w K mg base CX0 2 (He.ga K "turning_habit") (fdO K "turning_habit") ["places"] (spHab Rm.tuHab) := by
  have T := G.T
  have GN : FnOk P w K mg base CX0 1 (He.ga K "need_number") (fdO K "need_number") ["value", "low", "high"] spNeedN := ok_needN G
  refine T.F_turning_habit.ok scTH (fun vs H Q E h => ?_) (fun A outer s H vs Q E hr h => ?_)
  · obtain ⟨n, rfl, _⟩ := h
    rfl
  · obtain ⟨n, rfl, n2, n5, q⟩ := h
    obtain ⟨t1, g1⟩ := T.i_LEAST_PLACES
    obtain ⟨t2, g2⟩ := T.i_MOST_PLACES_shelves
    refine ⟨_, PSs.nox (pss_cons (ps_expr (pe_call GN hr rfl T.g_need_number T.F_need_number.kp T.b_need_number .nil pass0 (pa_cons (pv 0) (pa_cons (pe_glob (v := .int 2) rfl g1 ⟨_, rfl⟩) (pa_cons (pe_glob (v := .int 5) rfl g2 ⟨_, rfl⟩) pa_nil)))))
      (pss_one (ps_ret (pe_tupleOf (by rfl) T.z_tuple (pe_lc (own := [("place", 1)]) (g := gName 1) (tt := tYes) (by rfl) scTH.nd (pi_range1 (by rfl) T.z_range (pa_cons (pv 0) pa_nil)) (blkOk_by (own := [("place", 1)]) (N := ["places", "place", "stands"]) (sc := defScope s_turning_habit) (by decide +kernel))
        (fun _ _ _ _ _ => pg_name (i := 1) scTH.nd rfl (Or.inr rfl)) (fun _ _ _ _ _ => pts_nil)
        (fun _ _ _ _ _ => (pe_tupleOf (by rfl) T.z_tuple (pe_lc (own := [("stands", 2)]) (g := gName 2) (tt := tYes) (by rfl) scTH.nd (pi_range1 (by rfl) T.z_range (pa_cons (pv 0) pa_nil)) (blkOk_by (own := [("stands", 2)]) (N := ["places", "place", "stands"]) (sc := relS { kind := .function, names := [(".0", .local), ("place", .cell), ("tuple", .globalImplicit), ("range", .globalImplicit), ("places", .free)], isGenerator := false, isCoroutine := false } (defScope s_turning_habit)) (by decide +kernel))
          (fun _ _ _ _ _ => pg_name (i := 2) scTH.nd rfl (Or.inl rfl)) (fun _ _ _ _ _ => pts_nil)
          (fun _ _ _ _ _ => pe_op op_modN (pe_op op_add (pv 2) (pv 1)) (pv 0))) : PE _ _ (tThen _ (kTup K))))))))), ?_⟩
    refine ⟨_, rfl, _, _, _, rfl, by omega, by omega, ?_⟩
    refine ⟨_, rfl, (n : Int), rfl, by omega, by omega, fun D hD => ?_⟩
    refine lc_it (walk_range (lo := 0) (n := n)) (fun i H2 => ∃ la : List Addr, Same H H2 ∧ H2 D = some (.lst (la.map V.ref)) ∧ Rws H2 la ((List.range i).map fun k => (List.range n).map fun s => (s + k) % n)) ?_ (fun _ _ _ _ => trivial) ?_ ?_
    · exact ⟨[], same_new hD, upd_same, rfl, fun j r hj => by cases hj⟩
    · rintro i x H0 H2 hi ⟨la, S2, hD2, hla⟩ ⟨rfl, rfl⟩
      refine ⟨rfl, ?_⟩
      refine yes_use ?_
      refine ⟨_, rfl, (n : Int), rfl, by omega, by omega, fun D2 hn2 => ?_⟩
      generalize hrow : ((List.range n).map fun s => (s + i) % n) = row
      have hrl : row.length = n := by rw [← hrow, List.length_map, List.length_range]
      refine lc_it (walk_range (lo := 0) (n := n)) (fun j H3 => H3 = upd H2 D2 (.lst ((vI row).take j))) rfl (fun _ _ _ _ => trivial) ?_ ?_
      · rintro j y H3 H4 hj rfl ⟨rfl, rfl⟩
        refine ⟨rfl, ?_⟩
        refine yes_use ?_
        refine ⟨_, rfl, _, rfl, _, _, rfl, rfl, _, rfl, _, _, rfl, rfl, by omega, _, upd_same, by rw [List.length_take, vI_length, sizeLine_eq]; omega, ?_⟩
        rw [upd_upd, take_vI (by rw [hrl]; exact hj)]
        have e1 : V.int (Int.fmod ((0 : Int) + ((j : Nat) : Int) + ((0 : Int) + ((i : Nat) : Int))) (n : Int)) = V.int ((row.getD j 0 : Nat) : Int) := by
          rw [← hrow, Rm.getD_map (by rw [List.length_range]; exact hj), Rm.getD_range hj, Int.zero_add, Int.zero_add, Int.fmod_eq_emod_of_nonneg _ (by omega), ← Int.natCast_add]
          rfl
        exact congrArg (fun z => upd H2 D2 (.lst (List.take j (vI row) ++ [z]))) e1
      · rintro H3 rfl
        have et : (vI row).take n = vI row := List.take_of_length_le (by rw [vI_length, hrl]; exact Nat.le_refl _)
        rw [et]
        refine .inl ⟨D2, _, rfl, .of upd_same, fun q6 h6 => ?_⟩
        have S3 := same_new (o := .lst (vI row)) hn2
        have S4 := same_new (o := .tup (vI row)) h6
        have e6 : upd (upd H2 D2 (.lst (vI row))) q6 (.tup (vI row)) q6 = _ := upd_same
        have S24 := S3.trans S4
        generalize hE : upd (upd H2 D2 (.lst (vI row))) q6 (.tup (vI row)) = H4 at S24 e6 ⊢
        have hD4 := S24 _ _ hD2
        have hlal : la.length = i := by rw [hla.1, List.length_map, List.length_range]
        refine ⟨_, hD4, by rw [List.length_map, hlal, sizeLine_eq]; omega, la ++ [q6], ?_, ?_, ?_⟩
        · exact fun c o e => by
            rw [upd_ne (ne_of_none e hD)]
            exact S24 _ _ (S2 _ _ e)
        · rw [upd_same, refs_snoc]
        · rw [range_hab, hrow]
          have T8 : TupS H4 (upd H4 D (.lst (la.map V.ref ++ [V.ref q6]))) := TupS.upd hD4 fun xs z => by cases z
          exact Rws.snoc ((hla.ext (TupS.of S24)).ext T8) (T8 _ _ e6)
    · rintro H2 ⟨la, S2, hD2, hla⟩
      exact .inl ⟨D, _, rfl, .of hD2, fun r hr => q _ r (S2.trans (same_new hr)) (hab_of upd_same (hla.ext fun b xs e => same_new hr _ _ e))⟩
end
end Rs
set_option maxHeartbeats 8000000
/-! kinds: from_front, need_layouts -/
namespace Rs
open PySem PySem.Spec PyProof.Rows L2 LamX
/-- ints that are a permutation of 0 .. n-1, sorted by the layout -/
theorem ints_nat : ∀ {ns : List Int}, (∀ z ∈ ns, 0 ≤ z) → ∃ l : List Nat, ns = l.map fun k : Nat => (k : Int)
  | [], _ => ⟨[], rfl⟩
  | z :: ns, h => by
    obtain ⟨l, e⟩ := ints_nat (ns := ns) fun y hy => h y (List.mem_cons_of_mem _ hy)
    have h0 := h z List.mem_cons_self
    exact ⟨z.toNat :: l, by rw [e, List.map_cons, Int.toNat_of_nonneg h0]⟩
theorem perm_cast {l m : List Nat} (h : (l.map fun k : Nat => (k : Int)).Perm (m.map fun k : Nat => (k : Int))) : l.Perm m := by
  have h2 := h.map Int.toNat
  rw [List.map_map, List.map_map] at h2
  have e : ∀ r : List Nat, r.map (Int.toNat ∘ fun k : Nat => (k : Int)) = r := fun r => by
    conv => rhs; rw [← List.map_id r]
    exact List.map_congr_left fun x _ => rfl
  rwa [e, e] at h2
theorem pw_cast {p l : List Nat} (h : (l.map fun k : Nat => (k : Int)).Pairwise fun x y => keyOf p x ≤ keyOf p y) : l.Pairwise fun a b => p.getD a 0 ≤ p.getD b 0 := by
  rw [List.pairwise_map] at h
  refine h.imp fun {a b} q => ?_
  have q2 : ((p.getD ((a : Int).toNat) 0 : Nat) : Int) ≤ ((p.getD ((b : Int).toNat) 0 : Nat) : Int) := q
  rw [Int.toNat_natCast, Int.toNat_natCast] at q2
  omega
theorem sort_is {n : Nat} {p : Rm.LN} {ns : List Int} (L : Rm.Lay n p) (h1 : ns.Perm (rgI n)) (h2 : ns.Pairwise fun x y => keyOf p x ≤ keyOf p y) : ns.map V.int = vI (Rm.inv p) := by
  obtain ⟨l, rfl⟩ := ints_nat (ns := ns) fun z hz => by
    obtain ⟨k, _, rfl⟩ := List.mem_map.mp (h1.mem_iff.mp hz)
    omega
  rw [Rm.sort_inv L (perm_cast h1) (pw_cast h2), ← vI_map]
def lamKB (sc scope : Scope) (x t : Str) : Bool :=
  decide (scope.kind = .function) && !scope.isCoroutine && !scope.isGenerator && decide (scope.names.lookup x = some .local) && decide (scope.names.lookup t = some .free) && (scope.names.all fun y => !decide (y.2 = .cell)) &&
    scope.names.all fun y => !decide (y.2 = .free) || decide (sc.names.lookup y.1 = some .cell)
theorem lamK_by {sc scope : Scope} {x t : Str} (h : lamKB sc scope x t = true) : LamK sc scope x t := by
  unfold lamKB at h
  simp only [Bool.and_eq_true, Bool.or_eq_true, Bool.not_eq_true', decide_eq_true_eq, decide_eq_false_iff_not, List.all_eq_true] at h
  obtain ⟨⟨⟨⟨⟨⟨h1, h2⟩, h3⟩, h4⟩, h5⟩, h6⟩, h7⟩ := h
  refine ⟨h1, h2, h3, h4, h5, h6, fun y hy e => ?_⟩
  rcases h7 y hy with z | z
  · exact absurd e z
  · exact .inl z
section
variable {P : Program} {w : World} {K : PySem.W.Frag} {mg : Str → Option Value} {base : Heap}
/-! ### from_front -/
structure FfP (K : PySem.W.Frag) (vs : List V) (H : Hp) (Q : VK) : Prop where
  ex : ∃ (a : Addr) (n : Nat) (p : Rm.LN), vs = [.ref a] ∧ H a = some (vT p) ∧ Rm.Lay n p ∧ n ≤ 40 ∧ Tb K H ∧ ∀ H' q, Stp K H H' → H q = none → H' q = some (.lst (vI (Rm.inv p))) → Q (.ref q) H'
def spFF (K : PySem.W.Frag) : Sp := fun vs H Q _ => FfP K vs H Q
theorem scFF : FnScope ["layout"] ["layout"] (defScope s_from_front) := ⟨rfl, rfl, rfl, by decide +kernel, rfl, by decide +kernel, by decide +kernel⟩
theorem ok_FF (G : Gd K mg base) : FnOk P w K mg base CX0 1 (He.ga K "from_front") (fdO K "from_front") ["layout"] (spFF K) := by
  have T := G.T
  refine T.F_from_front.ok scFF (fun vs H Q E h => ?_) (fun A outer s H vs Q E hr h => ?_)
  · obtain ⟨a, n, p, rfl, _⟩ := h
    rfl
  · obtain ⟨a, n, p, rfl, ha, L, n40, hT, q⟩ := h
    refine ⟨_, PSs.nox (pss_one (ps_ret (pe_sortK (i := 0) (x := "name") (t := "layout") hr (by rfl) T.z_sorted (pcol_rg rfl (prg_1 (by rfl) T.z_range (pe_callB call_len_seq (by rfl) T.z_len boot_len (pa_cons (pv 0) pa_nil)))) (G.B "from_front" (by decide)) rfl
      (lamK_by (sc := defScope s_from_front) (by decide +kernel)) rfl (.inr (.inl rfl)) rfl rfl (fun _ _ _ _ _ _ => by rfl)))), ?_⟩
    refine ⟨_, rfl, a, _, rfl, .inr (.of ha), _, rfl, n, rfl, by rw [vI_length, L.len], by omega, tabS_has hT.ff, a, p, rfl, .of ha, ?_, ?_, hT.ff, fun H2 p2 ns' bp tb hp2 pm pw => ?_⟩
    · unfold rgI
      rw [List.length_map, List.length_range]
      omega
    · intro z hz
      obtain ⟨k, hk, rfl⟩ := List.mem_map.mp hz
      have := List.mem_range.mp hk
      rw [L.len]
      omega
    · rw [sort_is L pm pw]
      have S2 := stp_ff T hT bp tb
      exact q _ p2 (S2.trans (Stp.new S2.2 hp2)) (by
        cases e : H p2 with
        | none => rfl
        | some u =>
          by_cases c : p2 = tbA K "from_front"
          · obtain ⟨ps, hps, _⟩ := tb
            rw [← c, hp2] at hps
            cases hps
          · have z := bp p2 u c e
            rw [hp2] at z
            cases z) upd_same
end
end Rs
set_option maxHeartbeats 8000000
/-! kinds: need_layouts -/
namespace Rs
open PySem PySem.Spec PyProof.Rows L2 LamX
theorem ifNF {b : Bool} {A B : Prop} (h : b = false) (q : A) : if (!b) = true then A else B := by
  subst h
  exact iteT q
/-- what may stand for a layout; o: its places, where it is a tuple -/
def LayArg (H : Hp) (x : V) (o : Option Rm.LN) : Prop := (x = .non ∧ o = none) ∨ (∃ (a : Addr) (xs : List V), x = .ref a ∧ H a = some (.lst xs) ∧ o = none) ∨ ∃ (a : Addr) (p : Rm.LN), x = .ref a ∧ H a = some (vT p) ∧ p.length ≤ 100 ∧ o = some p
theorem LayArg.ext {H H' : Hp} {x : V} {o : Option Rm.LN} (h : LayArg H x o) (e : ExtN H H') : LayArg H' x o := by
  rcases h with h | ⟨a, xs, h1, h2, h3⟩ | ⟨a, p, h1, h2, h3, h4⟩
  · exact .inl h
  · exact .inr (.inl ⟨a, xs, h1, e _ _ h2 (fun ps z => by cases z), h3⟩)
  · exact .inr (.inr ⟨a, p, h1, e _ _ h2 (fun ps z => by cases z), h3, h4⟩)
def okL (p : Rm.LN) : Prop := 1 ≤ p.length ∧ p.length ≤ 40 ∧ Rm.Lay p.length p
/-- the second one fits to the first -/
def Fits (one : Rm.LN) (oo : Option Rm.LN) : Prop := ∃ o, oo = some o ∧ okL o ∧ o.length = one.length
structure NlP (K : PySem.W.Frag) (vs : List V) (H : Hp) (Q : VK) (E : XK) : Prop where
  ex : ∃ (x y : V) (one : Rm.LN) (oo : Option Rm.LN), vs = [x, y] ∧ LayArg H x (some one) ∧ okL one ∧ LayArg H y oo ∧ Tb K H ∧
  (Fits one oo → ∀ H', Stp K H H' → Q .non H') ∧ (¬ Fits one oo → ∀ H', Stp K H H' → E (.ref (He.ga K "BadLayout")) none H')
def spNL (K : PySem.W.Frag) : Sp := fun vs H Q E => NlP K vs H Q E
theorem LayArg.tup {H : Hp} {x : V} {p : Rm.LN} (h : LayArg H x (some p)) : ∃ a, x = .ref a ∧ H a = some (vT p) ∧ p.length ≤ 100 := by
  rcases h with ⟨_, h⟩ | ⟨a, xs, _, _, h⟩ | ⟨a, q, h1, h2, h3, h4⟩
  · cases h
  · cases h
  · cases h4
    exact ⟨a, h1, h2, h3⟩
section
variable {P : Program} {w : World} {K : PySem.W.Frag} {mg : Str → Option Value} {base : Heap}
theorem scNL : FnScope ["one", "other", "layout"] ["one", "other"] (defScope s_need_layouts) := ⟨rfl, rfl, rfl, by decide +kernel, rfl, by decide +kernel, by decide +kernel⟩
theorem ok_NL (G : Gd K mg base) : FnOk P w K mg base (L2.CX P w) 2 (He.ga K "need_layouts") (fdO K "need_layouts") ["one", "other"] (spNL K) := by
  have T := G.T
  have GP : FnOk P w K mg base CX0 1 (He.ga K "is_permutation") (fdO K "is_permutation") ["value", "many"] (spPerm K) := ok_perm G
  refine T.F_need_layouts.ok scNL (fun vs H Q E h => ?_) (fun A outer s H vs Q E hr h => ?_)
  · obtain ⟨x, y, one, oo, rfl, _⟩ := h
    rfl
  · obtain ⟨x, y, one, oo, rfl, hx, okx, hy, hT, q1, q2⟩ := h
    obtain ⟨t1, g1⟩ := T.i_MOST_PLACES_kinds
    refine ⟨_, pss_cons (ps_for (passes_of rfl) rfl (pi_tup (pe_tup (pa_cons (pv 0) (pa_cons (pv 1) pa_nil)))) (pg_name (i := 2) scNL.nd rfl (.inl rfl))
        (pss_cons (ps_if (PW.pt (pw_or (pt_not (pt_val (pe_callB call_isi (by rfl) T.z_isinstance boot_isinstance (pa_cons (pv 2) (pa_cons (pe_bltn (by rfl) T.z_tuple boot_tuple (v := .ty "tuple") rfl) pa_nil)))))
          (pw_or1 (pt_not (pt_chain op_le op_le pe_int (pe_callB call_len_seq (by rfl) T.z_len boot_len (pa_cons (pv 2) pa_nil)) (pe_glob (v := .int 40) rfl g1 ⟨_, rfl⟩))))))
          (pss_one (ps_raise rfl (takes_of rfl rfl rfl rfl) (pmk_own0 PySem.F.excBase_ValueError T.xBL T.gBL T.kBL (raises_own T.sBL T.tBL) rfl))) pss_nil)
        (pss_one (ps_if (pt_not (pt_val (pe_call GP hr rfl T.g_is_permutation T.F_is_permutation.kp T.b_is_permutation .nil pass0 (pa_cons (pv 2) (pa_cons (pe_callB call_len_seq (by rfl) T.z_len boot_len (pa_cons (pv 2) pa_nil)) pa_nil)))))
          (pss_one (ps_raise rfl (takes_of rfl rfl rfl rfl) (pmk_own0 PySem.F.excBase_ValueError T.xBL T.gBL T.kBL (raises_own T.sBL T.tBL) rfl))) pss_nil))))
      (pss_one (ps_if (pt_cmpR op_ne (pe_callB call_len_seq (by rfl) T.z_len boot_len (pa_cons (pv 0) pa_nil)) (pe_callB call_len_seq (by rfl) T.z_len boot_len (pa_cons (pv 1) pa_nil)) (nomark _))
        (pss_one (ps_raise rfl (takes_of rfl rfl rfl rfl) (pmk_own0 PySem.F.excBase_ValueError T.xBL T.gBL T.kBL (raises_own T.sBL T.tBL) rfl))) pss_nil)), ?_⟩
    refine ⟨_, rfl, _, rfl, (by show 2 ≤ sizeLine; decide), fun t ht => ?_⟩
    have S0 : Stp K H (upd H t (.tup [x, y])) := Stp.new hT ht
    have et : upd H t (.tup [x, y]) t = some (.tup [x, y]) := upd_same
    generalize hE : upd H t (.tup [x, y]) = H1 at S0 et ⊢
    refine ⟨t, rfl, ⟨_, .of et⟩, ?_⟩
    refine for_it (walk_tup (K := K) (a := t) (xs := [x, y])) (fun i σ H2 => Stp K H H2 ∧ H2 t = some (.tup [x, y]) ∧ (∃ v2, σ = [some x, some y, v2]) ∧ (i = 2 → ∃ o, oo = some o ∧ okL o)) ⟨S0, et, ⟨none, rfl⟩, fun z => by cases z⟩ (fun i σ H2 _ p => .of p.2.1) ?_ ?_
    · rintro i v σ H0 H2 hi ⟨S2, et2, ⟨v2, rfl⟩, _⟩ ⟨rfl, hv⟩
      obtain ⟨vo, hvo, hcase⟩ : ∃ vo, LayArg H2 v vo ∧ ((i = 0 ∧ vo = some one) ∨ (i = 1 ∧ vo = oo)) := by
        match i, hv with
        | 0, hv =>
          have e : x = v := Option.some.inj hv
          exact ⟨some one, by rw [← e]; exact hx.ext S2.1, .inl ⟨rfl, rfl⟩⟩
        | 1, hv =>
          have e : y = v := Option.some.inj hv
          exact ⟨oo, by rw [← e]; exact hy.ext S2.1, .inr ⟨rfl, rfl⟩⟩
      have bad : ∀ H', Stp K H2 H' → (¬ ∃ o, vo = some o ∧ okL o) → E (.ref (He.ga K "BadLayout")) none H' := fun H' S' hn => by
        refine q2 (fun hf => ?_) H' (S2.trans S')
        rcases hcase with ⟨_, e⟩ | ⟨_, e⟩
        · exact hn ⟨one, e, okx⟩
        · obtain ⟨o, ho, hok, _⟩ := hf
          exact hn ⟨o, e.trans ho, hok⟩
      have good : ∀ H', Stp K H2 H' → (∃ o, vo = some o ∧ okL o) → Stp K H H' ∧ H' t = some (.tup [x, y]) ∧ (∃ v3, [some x, some y, some v] = [some x, some y, v3]) ∧ (i + 1 = 2 → ∃ o, oo = some o ∧ okL o) := fun H' S' ho => by
        refine ⟨S2.trans S', S'.t et2, ⟨_, rfl⟩, fun e => ?_⟩
        rcases hcase with ⟨e1, _⟩ | ⟨_, e2⟩
        · omega
        · rw [← e2]; exact ho
      rcases hvo with ⟨rfl, rfl⟩ | ⟨a, xs, rfl, ha, rfl⟩ | ⟨a, p, rfl, ha, hp, rfl⟩
      · refine ⟨_, rfl, .non, .ty "tuple", .type "NoneType", .type "tuple", false, rfl, .ty _, .base .non, kit_ty (by decide +kernel), false, rfl, iteT ?_⟩
        exact bad H2 (Stp.refl S2.2) fun ⟨o, z, _⟩ => by cases z
      · refine ⟨_, rfl, .ref a, .ty "tuple", .type "list", .type "tuple", false, rfl, .ty _, .base (.lst ha), kit_ty (by decide +kernel), false, rfl, iteT ?_⟩
        exact bad H2 (Stp.refl S2.2) fun ⟨o, z, _⟩ => by cases z
      · refine ⟨_, rfl, .ref a, .ty "tuple", .type "tuple", .type "tuple", true, rfl, .ty _, .base (.tup ha), kit_ty (by decide +kernel), true, rfl, iteF ?_⟩
        refine ⟨_, rfl, a, _, rfl, .inr (.of ha), _, _, rfl, rfl, _, rfl, ?_⟩
        by_cases c1 : 1 ≤ p.length
        · refine ifT (decide_eq_true (by rw [vI_length]; omega)) ⟨_, _, rfl, rfl, _, rfl, ?_⟩
          by_cases c2 : p.length ≤ 40
          · refine ifN (decide_eq_true (by rw [vI_length]; omega)) ?_
            refine ⟨_, rfl, _, rfl, a, _, rfl, .inr (.of ha), a, p, p.length, by rw [vI_length]; rfl, ha, hp, S2.2, fun H3 S3 => ⟨_, rfl, ?_⟩⟩
            cases hperm : isPerm p.length p with
            | true =>
              refine iteF ?_
              exact good H3 S3 ⟨p, rfl, c1, c2, lay_isPerm hperm⟩
            | false =>
              refine iteT ?_
              refine bad H3 S3 fun ⟨o, z, ho⟩ => ?_
              cases z
              rw [isPerm_lay ho.2.2] at hperm
              cases hperm
          · refine ifNF (decide_eq_false (by rw [vI_length]; omega)) ?_
            refine bad H2 (Stp.refl S2.2) fun ⟨o, z, ho⟩ => ?_
            cases z
            exact c2 ho.2.1
        · refine ifF (decide_eq_false (by rw [vI_length]; omega)) ⟨_, rfl, iteT ?_⟩
          refine bad H2 (Stp.refl S2.2) fun ⟨o, z, ho⟩ => ?_
          cases z
          exact c1 ho.1
    · rintro σ H2 ⟨S2, et2, ⟨v2, rfl⟩, ho⟩
      obtain ⟨o, rfl, oko⟩ := ho rfl
      obtain ⟨a, rfl, ha, _⟩ := (hx.ext S2.1).tup
      obtain ⟨b, rfl, hb, _⟩ := (hy.ext S2.1).tup
      refine ⟨_, rfl, a, _, rfl, .inr (.of ha), _, rfl, b, _, rfl, .inr (.of hb), rfl, _, rfl, ?_⟩
      have e1 : decide (V.int ((vI one).length : Nat) = V.int ((vI o).length : Nat)) = decide (one.length = o.length) := by rw [dec_nat rfl, vI_length, vI_length]
      by_cases c : one.length = o.length
      · refine ifN (e1.trans (decide_eq_true c)) ?_
        exact q1 ⟨o, rfl, oko, c.symm⟩ H2 S2
      · refine ifNF (e1.trans (decide_eq_false c)) ?_
        refine q2 (fun hf => ?_) H2 S2
        obtain ⟨o', z, _, hl⟩ := hf
        cases z
        exact c hl.symm
end
end Rs
set_option maxHeartbeats 8000000
/-! kinds: end_kept, kept_end, front_distance -/
namespace Rs
open PySem PySem.Spec PyProof.Rows L2 LamX
/-- the data of a row of names -/
def dN (l : List Nat) : List PyData := (l.map fun k : Nat => (k : Int)).map PyData.int
theorem dp_all {K : PySem.W.Frag} {H : Hp} : ∀ l : List Nat, DpAll K H (vI l) (dN l)
  | [] => .nil
  | k :: l => .cons (.int _) (dp_all l)
theorem cast_inj {l m : List Nat} (h : (l.map fun k : Nat => (k : Int)) = m.map fun k : Nat => (k : Int)) : l = m := by
  have h2 := congrArg (List.map Int.toNat) h
  rw [List.map_map, List.map_map] at h2
  have e : ∀ r : List Nat, r.map (Int.toNat ∘ fun k : Nat => (k : Int)) = r := fun r => by
    conv => rhs; rw [← List.map_id r]
    exact List.map_congr_left fun x _ => rfl
  rwa [e, e] at h2
theorem eqv_all (l m : List Nat) : PyData.eqvAll (dN l) (dN m) = decide (l = m) := by
  unfold dN
  rw [PySem.W.ked_eqvAll]
  exact decide_eq_decide.mpr ⟨cast_inj, fun e => by rw [e]⟩
theorem eqv_lst (l m : List Nat) : PyData.eqv (.list (dN l)) (.list (dN m)) = decide (l = m) := by rw [PyData.eqv]; exact eqv_all l m
theorem eqv_tup (l m : List Nat) : PyData.eqv (.tuple (dN l)) (.tuple (dN m)) = decide (l = m) := by rw [PyData.eqv]; exact eqv_all l m
theorem shp_lst (l : List Nat) : SeqAt.shaped (.list (dN l)) = true := PySem.W.ke_shaped_ints _
theorem shp_tup (l : List Nat) : SeqAt.shaped (.tuple (dN l)) = true := by
  unfold dN
  generalize (l.map fun k : Nat => (k : Int)) = ns
  simp [SeqAt.shaped, PyData.canLay0, PyData.depth, PySem.W.ke_canLayAll0, PySem.W.ke_depthAll]
theorem passF {X : Cx} : Passes (L2.CX X.prog X.w) X (fun _ _ _ => False) := fun _ _ _ _ _ _ _ h => by
  obtain ⟨_, _, _, _, _, _, _, _, _, _, _, _, h⟩ := h
  exact h.elim
section
variable {P : Program} {w : World} {K : PySem.W.Frag} {mg : Str → Option Value} {base : Heap}
/-! ### end_kept -/
structure EkP (K : PySem.W.Frag) (vs : List V) (H : Hp) (Q : VK) : Prop where
  ex : ∃ (a b : Addr) (n : Nat) (p o : Rm.LN), vs = [.ref a, .ref b] ∧ H a = some (vT p) ∧ Rm.Lay n p ∧ H b = some (vT o) ∧ Rm.Lay n o ∧ n ≤ 40 ∧ Tb K H ∧ ∀ H' q, Stp K H H' → H' q = some (.lst (vI (Rm.kept p o))) → Q (.ref q) H'
def spEK (K : PySem.W.Frag) : Sp := fun vs H Q _ => EkP K vs H Q
theorem scEK : FnScope ["one", "other", "names", "found", "name"] ["one", "other"] (defScope s_end_kept) := ⟨rfl, rfl, rfl, by decide +kernel, rfl, by decide +kernel, by decide +kernel⟩
theorem ok_EK (G : Gd K mg base) : FnOk P w K mg base CX0 2 (He.ga K "end_kept") (fdO K "end_kept") ["one", "other"] (spEK K) := by
  have T := G.T
  have GF : FnOk P w K mg base CX0 1 (He.ga K "from_front") (fdO K "from_front") ["layout"] (spFF K) := ok_FF G
  refine T.F_end_kept.ok scEK (fun vs H Q E h => ?_) (fun A outer s H vs Q E hr h => ?_)
  · obtain ⟨a, b, n, p, o, rfl, _⟩ := h
    rfl
  · obtain ⟨a, b, n, p, o, rfl, ha, Lp, hb, Lo, n40, hT, q⟩ := h
    refine ⟨_, PSs.nox (pss_cons (ps_par (i := 2) (j := 3) rfl scEK.nd rfl rfl (by decide) rfl rfl (pa_cons (pe_call GF hr rfl T.g_from_front T.F_from_front.kp T.b_from_front .nil pass0 (pa_cons (pv 1) pa_nil)) (pa_cons (pe_lst pa_nil) pa_nil)) (by rfl))
      (pss_cons (ps_for PassesOwn.never rfl (pi_list (pe_revL (pv 2))) (pg_name (i := 4) scEK.nd rfl (.inl rfl))
        (pss_cons (ps_if (PW.pt (pw_and (pt_cmpR (op_neD hr.units) (pv 3) (pe_lst pa_nil) (nomark _)) (pw_and1 (pt_cmpR op_gt (pe_ix ix_tup (pv 0) (pv 4) (fun _ _ => rfl)) (pe_ix ix_tup (pv 0) (pe_ix ix_list (pv 3) pe_int (fun _ _ => rfl)) (fun _ _ => rfl)) (nomark _)))))
          (pss_one (ps_ret (pv 3))) pss_nil)
        (pss_one (ps_set (i := 3) scEK.nd rfl (.inl rfl) (pe_op op_cat (pe_lst (pa_cons (pv 4) pa_nil)) (pv 3))))))
      (pss_one (ps_ret (pv 3))))), ?_⟩
    refine ⟨_, rfl, b, n, o, rfl, hb, Lo, n40, hT, fun H1 N S1 _ hN => ?_⟩
    refine ⟨Nat.zero_le _, fun L0 hL0 => ⟨_, _, rfl, ?_⟩⟩
    have S2 := S1.trans (Stp.new (o := .lst []) S1.2 hL0)
    have hN2 : upd H1 L0 (.lst []) N = some (.lst (vI (Rm.inv o))) := by rw [upd_ne (ne_of_none hN hL0)]; exact hN
    have eL0 : upd H1 L0 (.lst []) L0 = some (.lst []) := upd_same
    generalize hE : upd H1 L0 (.lst []) = H2 at S2 hN2 eL0 ⊢
    refine ⟨_, rfl, N, _, rfl, .of hN2, fun R hR => ?_⟩
    have S3 := S2.trans (Stp.new (o := .lst (vI (Rm.inv o)).reverse) S2.2 hR)
    have eR : upd H2 R (.lst (vI (Rm.inv o)).reverse) R = some (.lst (vI (Rm.inv o)).reverse) := upd_same
    have eL3 : upd H2 R (.lst (vI (Rm.inv o)).reverse) L0 = some (.lst []) := by rw [upd_ne (ne_of_none eL0 hR)]; exact eL0
    have erev : (vI (Rm.inv o)).reverse = vI (Rm.inv o).reverse := (List.map_reverse ..).symm
    rw [erev] at S3 eR eL3 ⊢
    generalize hE3 : upd H2 R (.lst (vI (Rm.inv o).reverse)) = H3 at S3 eR eL3 ⊢
    have hlr : (Rm.inv o).reverse.length = n := by rw [List.length_reverse, (Rm.inv_lay Lo).len]
    have hmr : ∀ x ∈ (Rm.inv o).reverse, x < n := fun x hx => (Rm.inv_lay Lo).lt x (List.mem_reverse.mp hx)
    refine ⟨R, rfl, ⟨_, .of eR⟩, ?_⟩
    refine for_it (walk_list (K := K) (a := R) (xs := vI (Rm.inv o).reverse)) (fun i σ H4 => Stp K H H4 ∧ H4 R = some (.lst (vI (Rm.inv o).reverse)) ∧ ∃ (L : Addr) (r : Rm.LN) (v4 : Option V), σ = [some (.ref a), some (.ref b), some (.ref N), some (.ref L), v4] ∧ H4 L = some (.lst (vI r)) ∧
      Rm.kgo (fun x => p.getD x 0) ((Rm.inv o).reverse.drop i) r = Rm.kept p o ∧ (∀ x ∈ r, x < n) ∧ r.length ≤ i) ⟨S3, eR, L0, [], none, rfl, eL3, rfl, fun x hx => (by cases hx), Nat.le_refl _⟩ (fun i σ H4 _ z => .of z.2.1) ?_ ?_
    · rintro i x σ H0 H4 hi ⟨S4, eR4, L, r, v4, rfl, hL, hk, hrn, hrl⟩ ⟨rfl, hx⟩
      obtain ⟨rfl, hi2⟩ := vI_get hx
      have hxn : (Rm.inv o).reverse.getD i 0 < n := hmr _ (Rm.getD_mem hi2)
      have hdrop : (Rm.inv o).reverse.drop i = (Rm.inv o).reverse.getD i 0 :: (Rm.inv o).reverse.drop (i + 1) := by
        rw [List.drop_eq_getElem_cons hi2, List.getD_eq_getElem?_getD, List.getElem?_eq_getElem hi2]
        rfl
      rw [hdrop] at hk
      generalize (Rm.inv o).reverse.getD i 0 = x at hk hxn ⊢
      have ha4 := S4.t ha
      refine ⟨_, rfl, Nat.zero_le _, fun e he => ?_⟩
      have S5 := Stp.new (o := .lst []) S4.2 he
      have ee : upd H4 e (.lst []) e = some (.lst (vI [])) := upd_same
      generalize hE5 : upd H4 e (.lst []) = H5 at S5 ee ⊢
      have hL5 := S5.l hL
      refine ⟨.list (dN r), .list (dN []), .lst (.of hL5) (dp_all r), .lst (.of ee) (dp_all []), shp_lst _, shp_lst _, _, rfl, ?_⟩
      have ha5 := S5.t ha4
      have hkg : (¬ (r ≠ [] ∧ p.getD (r.headD 0) 0 < p.getD x 0)) → Rm.kgo (fun x => p.getD x 0) ((Rm.inv o).reverse.drop (i + 1)) (x :: r) = Rm.kept p o := fun hn => by
        rw [← hk]
        show _ = if _ then _ else _
        rw [if_neg hn]
      have step : ∀ (l : Addr), H5 l = none → Rm.kgo (fun x => p.getD x 0) ((Rm.inv o).reverse.drop (i + 1)) (x :: r) = Rm.kept p o →
          rCat (.ref l) (.ref L) (upd H5 l (.lst [V.int (x : Int)])) (fun v H6 => Stp K H H6 ∧ H6 R = some (.lst (vI (Rm.inv o).reverse)) ∧ ∃ (L : Addr) (r : Rm.LN) (v4 : Option V), [some (.ref a), some (.ref b), some (.ref N), some v, some (V.int (x : Int))] = [some (.ref a), some (.ref b), some (.ref N), some (.ref L), v4] ∧ H6 L = some (.lst (vI r)) ∧
            Rm.kgo (fun x => p.getD x 0) ((Rm.inv o).reverse.drop (i + 1)) r = Rm.kept p o ∧ (∀ x ∈ r, x < n) ∧ r.length ≤ i + 1) := fun l hl hkk => by
        have S6 := Stp.new (o := .lst [V.int (x : Int)]) S5.2 hl
        refine catL_use (xs := [V.int (x : Int)]) upd_same (S6.l hL5) (by rw [vI_length, sizeLine_eq]; show 1 + r.length ≤ _; rw [vI_length] at hi; omega) fun H7 l2 S7 _ e7 => ?_
        have S47 : Stp K H4 H7 := (S5.trans S6).trans (Stp.same S6.2 S7)
        refine ⟨S4.trans S47, S47.l eR4, l2, x :: r, _, rfl, e7, hkk, fun y hy => ?_, by rw [List.length_cons]; omega⟩
        rcases List.mem_cons.mp hy with e | e
        · rw [e]; exact hxn
        · exact hrn y e
      by_cases c : r = []
      · refine ifN (by rw [eqv_lst]; exact decide_eq_true c) (iteF ?_)
        exact ⟨_, rfl, (by show 1 ≤ sizeLine; decide), fun l hl => ⟨_, rfl, step l hl (hkg fun z => z.1 c)⟩⟩
      · refine ifNF (by rw [eqv_lst]; exact decide_eq_false c) ?_
        obtain ⟨y, r', rfl⟩ : ∃ y r', r = y :: r' := by
          cases r with
          | nil => exact absurd rfl c
          | cons y r' => exact ⟨y, r', rfl⟩
        have hyn : y < n := hrn y List.mem_cons_self
        refine ⟨_, rfl, _, rfl, a, _, _, _, rfl, rfl, .of ha5, atI_nat (vI_at (by rw [Lp.len]; exact hxn)), _, rfl, _, rfl, L, _, _, _, rfl, rfl, .of hL5, atI_nat (j := 0) (v := V.int (y : Int)) rfl, a, _, _, _, rfl, rfl, .of ha5, atI_nat (vI_at (by rw [Lp.len]; exact hyn)), _, _, rfl, rfl, _, rfl, ?_⟩
        by_cases c2 : p.getD y 0 < p.getD x 0
        · refine ifT (decide_eq_true (by omega)) ?_
          have hk2 : (y :: r') = Rm.kept p o := by
            rw [← hk]
            show _ = if _ then _ else _
            rw [if_pos ⟨List.cons_ne_nil _ _, c2⟩]
          refine ⟨_, rfl, q H5 L (S4.trans S5) ?_⟩
          rw [← hk2]
          exact hL5
        · refine ifF (decide_eq_false (by omega)) ?_
          exact ⟨_, rfl, (by show 1 ≤ sizeLine; decide), fun l hl => ⟨_, rfl, step l hl (hkg fun z => c2 z.2)⟩⟩
    · rintro σ H4 ⟨S4, eR4, L, r, v4, rfl, hL, hk, hrn, hrl⟩
      rw [List.drop_of_length_le (by rw [vI_length]; exact Nat.le_refl _)] at hk
      refine ⟨_, rfl, q H4 L S4 ?_⟩
      have hk2 : r = Rm.kept p o := hk
      rw [← hk2]
      exact hL
end
end Rs
set_option maxHeartbeats 8000000
/-! kinds: kept_end, front_distance, front_word -/
namespace Rs
open PySem PySem.Spec PyProof.Rows L2 LamX
/-- nothing but a table stands there -/
def Nt (H : Hp) (b : Addr) : Prop := ∀ o, H b = some o → ∃ ps, o = .tbl ps
theorem Nt.of {H H' : Hp} {b : Addr} (e : ExtN H H') (h : H' b = none) : Nt H b := fun o ho => by
  by_cases c : ∃ ps, o = HO.tbl ps
  · exact c
  · have z := e b o ho fun ps z => c ⟨ps, z⟩
    rw [h] at z
    cases z
theorem Nt.none {H : Hp} {b : Addr} (h : H b = none) : Nt H b := fun o ho => by
  rw [h] at ho
  cases ho
theorem Stp.wr {K : PySem.W.Frag} {H H' : Hp} {b : Addr} {xs ys : List V} (s : Stp K H H') (n : Nt H b) (h : H' b = some (.lst xs)) : Stp K H (upd H' b (.lst ys)) := by
  refine ⟨fun c o e ne => ?_, s.2.wr h (fun ps z => by cases z) (fun φ z => by cases z)⟩
  rw [upd_ne (fun z => by
    rw [z] at e
    obtain ⟨ps, hp⟩ := n o e
    exact ne ps hp)]
  exact s.1 c o e ne
theorem idx_before {x : Nat} : ∀ {l : List Nat} {m : Nat}, m < l.idxOf x → l.getD m 0 ≠ x
  | [], m, h => by simp at h
  | y :: l, m, h => by
    by_cases c : y = x
    · simp [List.idxOf_cons, c] at h
    · cases m with
      | zero => exact c
      | succ m =>
        refine idx_before (l := l) (m := m) ?_
        have hb : (y == x) = false := beq_false_of_ne c
        rw [List.idxOf_cons, hb] at h
        have h2 : m + 1 < l.idxOf x + 1 := h
        omega
theorem map_del {α β : Type} (f : α → β) : ∀ (l : List α) (j : Nat), (l.eraseIdx j).map f = (l.map f).eraseIdx j
  | [], _ => rfl
  | x :: l, 0 => rfl
  | x :: l, j + 1 => congrArg (f x :: ·) (map_del f l j)
theorem flat_vI (l : List Nat) : (vI l).all flatV = true := by
  rw [List.all_eq_true]
  intro v hv
  obtain ⟨k, _, rfl⟩ := List.mem_map.mp hv
  rfl
theorem vI_idx {l : List Nat} {x : Nat} (h : x ∈ l) : (vI l)[l.idxOf x]? = some (V.int (x : Int)) := by
  rw [vI_at (Rm.idx_lt h), Rm.getD_idx h]
theorem idx_eq (x : Nat) : eqV (V.int (x : Int)) (V.int (x : Int)) = true := by simp [eqV]
theorem idx_no {l : List Nat} {x : Nat} : ∀ (m : Nat) (z : V), m < l.idxOf x → (vI l)[m]? = some z → eqV z (V.int (x : Int)) = false := fun m z hm hz => by
  obtain ⟨rfl, _⟩ := vI_get hz
  have := idx_before hm
  simp only [eqV, beq_eq_false_iff_ne]
  omega
theorem rem_at {l : List Nat} {x : Nat} (hx : x ∈ l) : (l.map fun k : Nat => (k : Int))[l.idxOf x]? = some (x : Int) := by
  rw [List.getElem?_map, List.getElem?_eq_getElem (Rm.idx_lt hx), List.getElem_idxOf]
  rfl
theorem rem_no {l : List Nat} {x : Nat} : ∀ m : Nat, m < l.idxOf x → (l.map fun k : Nat => (k : Int))[m]? ≠ some (x : Int) := fun m hm hz => by
  rw [List.getElem?_map] at hz
  obtain ⟨k, h1, h2⟩ := Option.map_eq_some_iff.mp hz
  have h3 := idx_before hm
  rw [List.getD_eq_getElem?_getD, h1] at h3
  have h4 : k ≠ x := h3
  omega
theorem rem_is (l : List Nat) (x : Nat) : ((l.map fun k : Nat => (k : Int)).eraseIdx (l.idxOf x)).map V.int = vI (l.erase x) := by
  rw [List.erase_eq_eraseIdx_of_idxOf (by rfl), vI_map]
  exact congrArg (List.map V.int) (map_del _ l _).symm
theorem ins_is (l : List Nat) (x : Nat) : (vI l).take (Int.toNat 0) ++ [V.int (x : Int)] ++ (vI l).drop (Int.toNat 0) = vI (x :: l) := rfl
theorem cut_to {l : List Nat} {m : Nat} : cutV (vI l) none (some (m : Int)) = vI (l.take m) := by
  unfold cutV
  rw [HT.sIx_none, HT.sIx_nat, List.drop_zero, Nat.sub_zero, vI_length]
  unfold vI
  rw [← List.map_take]
  congr 1
  rcases Nat.le_total m l.length with h | h
  · rw [Nat.min_eq_left h]
  · rw [Nat.min_eq_right h, List.take_of_length_le (Nat.le_refl _), List.take_of_length_le h]
theorem vI_rev (l : List Nat) : (vI l).reverse = vI l.reverse := (List.map_reverse ..).symm
theorem okL_of {n : Nat} {p : Rm.LN} (L : Rm.Lay n p) (h1 : 1 ≤ n) (h2 : n ≤ 40) : okL p := ⟨by rw [L.len]; exact h1, by rw [L.len]; exact h2, by rw [L.len]; exact L⟩
theorem arg_of {H : Hp} {a : Addr} {n : Nat} {p : Rm.LN} (h : H a = some (vT p)) (L : Rm.Lay n p) (h2 : n ≤ 40) : LayArg H (.ref a) (some p) := .inr (.inr ⟨a, p, rfl, h, by rw [L.len]; omega, rfl⟩)
section
variable {P : Program} {w : World} {K : PySem.W.Frag} {mg : Str → Option Value} {base : Heap}
/-- two layouts of n places -/
structure Two (K : PySem.W.Frag) (H : Hp) (a b : Addr) (n : Nat) (p o : Rm.LN) : Prop where
  a : H a = some (vT p)
  la : Rm.Lay n p
  b : H b = some (vT o)
  lb : Rm.Lay n o
  lo : 1 ≤ n
  hi : n ≤ 40
  tb : Tb K H
theorem Two.step {H H' : Hp} {a b : Addr} {n : Nat} {p o : Rm.LN} (t : Two K H a b n p o) (s : Stp K H H') : Two K H' a b n p o := ⟨s.t t.a, t.la, s.t t.b, t.lb, t.lo, t.hi, s.2⟩
/-- need_layouts of such -/
theorem Two.nl {H : Hp} {a b : Addr} {n : Nat} {p o : Rm.LN} {Q : VK} {E : XK} (t : Two K H a b n p o) (q : ∀ H', Stp K H H' → Q .non H') : spNL K [.ref a, .ref b] H Q E := by
  have ft : Fits p (some o) := ⟨o, rfl, okL_of t.lb t.lo t.hi, by rw [t.la.len, t.lb.len]⟩
  exact ⟨_, _, p, some o, rfl, arg_of t.a t.la t.hi, okL_of t.la t.lo t.hi, arg_of t.b t.lb t.hi, t.tb, fun _ => q, fun h => absurd ft h⟩
theorem Two.ek {H : Hp} {a b : Addr} {n : Nat} {p o : Rm.LN} {Q : VK} (t : Two K H a b n p o) (q : ∀ H' c, Stp K H H' → H' c = some (.lst (vI (Rm.kept p o))) → Q (.ref c) H') : EkP K [.ref a, .ref b] H Q :=
  ⟨⟨a, b, n, p, o, rfl, t.a, t.la, t.b, t.lb, t.hi, t.tb, q⟩⟩
theorem Two.ff1 {H : Hp} {a b : Addr} {n : Nat} {p o : Rm.LN} {Q : VK} (t : Two K H a b n p o) (q : ∀ H' c, Stp K H H' → H c = none → H' c = some (.lst (vI (Rm.inv p))) → Q (.ref c) H') : FfP K [.ref a] H Q :=
  ⟨⟨a, n, p, rfl, t.a, t.la, t.hi, t.tb, q⟩⟩
theorem Two.ff2 {H : Hp} {a b : Addr} {n : Nat} {p o : Rm.LN} {Q : VK} (t : Two K H a b n p o) (q : ∀ H' c, Stp K H H' → H c = none → H' c = some (.lst (vI (Rm.inv o))) → Q (.ref c) H') : FfP K [.ref b] H Q :=
  ⟨⟨b, n, o, rfl, t.b, t.lb, t.hi, t.tb, q⟩⟩
/-! ### kept_end -/
def spKE (K : PySem.W.Frag) : Sp := fun vs H Q _ => ∃ (a b : Addr) (n : Nat) (p o : Rm.LN), vs = [.ref a, .ref b] ∧ Two K H a b n p o ∧ ∀ H' q, Stp K H H' → H' q = some (vT (Rm.kept p o)) → Q (.ref q) H'
theorem scKE : FnScope ["one", "other"] ["one", "other"] (defScope s_kept_end) := ⟨rfl, rfl, rfl, by decide +kernel, rfl, by decide +kernel, by decide +kernel⟩
theorem ok_KE (G : Gd K mg base) : FnOk P w K mg base CX0 3 (He.ga K "kept_end") (fdO K "kept_end") ["one", "other"] (spKE K) := by
  have T := G.T
  have GN : FnOk P w K mg base (L2.CX P w) 2 (He.ga K "need_layouts") (fdO K "need_layouts") ["one", "other"] (spNL K) := ok_NL G
  have GE : FnOk P w K mg base CX0 2 (He.ga K "end_kept") (fdO K "end_kept") ["one", "other"] (spEK K) := ok_EK G
  refine T.F_kept_end.ok scKE (fun vs H Q E h => ?_) (fun A outer s H vs Q E hr h => ?_)
  · obtain ⟨a, b, n, p, o, rfl, _⟩ := h
    rfl
  · obtain ⟨a, b, n, p, o, rfl, tw, q⟩ := h
    refine ⟨_, PSs.nox (pss_cons (ps_expr (pe_call GN hr rfl T.g_need_layouts T.F_need_layouts.kp T.b_need_layouts .nil passF (pa_cons (pv 0) (pa_cons (pv 1) pa_nil))))
      (pss_one (ps_ret (pe_tupleOf (by rfl) T.z_tuple (pe_call GE hr rfl T.g_end_kept T.F_end_kept.kp T.b_end_kept .nil pass0 (pa_cons (pv 0) (pa_cons (pv 1) pa_nil))))))), ?_⟩
    refine ⟨_, rfl, _, rfl, ?_⟩
    refine tw.nl fun H2 S2 => ?_
    refine ⟨_, rfl, _, rfl, ?_⟩
    refine (tw.step S2).ek fun H3 c S3 hc => ?_
    exact .inl ⟨c, _, rfl, .of hc, fun r hr2 => q _ r ((S2.trans S3).trans (Stp.new S3.2 hr2)) upd_same⟩
/-! ### front_distance -/
def spFD (K : PySem.W.Frag) : Sp := fun vs H Q _ => ∃ (a b : Addr) (n : Nat) (p o : Rm.LN), vs = [.ref a, .ref b] ∧ Two K H a b n p o ∧ ∀ H', Stp K H H' → Q (.int ((n - (Rm.kept p o).length : Nat) : Int)) H'
theorem scFD : FnScope ["one", "other"] ["one", "other"] (defScope s_front_distance) := ⟨rfl, rfl, rfl, by decide +kernel, rfl, by decide +kernel, by decide +kernel⟩
theorem ok_FD (G : Gd K mg base) : FnOk P w K mg base CX0 3 (He.ga K "front_distance") (fdO K "front_distance") ["one", "other"] (spFD K) := by
  have T := G.T
  have GN : FnOk P w K mg base (L2.CX P w) 2 (He.ga K "need_layouts") (fdO K "need_layouts") ["one", "other"] (spNL K) := ok_NL G
  have GE : FnOk P w K mg base CX0 2 (He.ga K "end_kept") (fdO K "end_kept") ["one", "other"] (spEK K) := ok_EK G
  refine T.F_front_distance.ok scFD (fun vs H Q E h => ?_) (fun A outer s H vs Q E hr h => ?_)
  · obtain ⟨a, b, n, p, o, rfl, _⟩ := h
    rfl
  · obtain ⟨a, b, n, p, o, rfl, tw, q⟩ := h
    refine ⟨_, PSs.nox (pss_cons (ps_expr (pe_call GN hr rfl T.g_need_layouts T.F_need_layouts.kp T.b_need_layouts .nil passF (pa_cons (pv 0) (pa_cons (pv 1) pa_nil))))
      (pss_one (ps_ret (pe_op op_sub (pe_callB call_len_seq (by rfl) T.z_len boot_len (pa_cons (pv 0) pa_nil)) (pe_callB call_len_seq (by rfl) T.z_len boot_len (pa_cons (pe_call GE hr rfl T.g_end_kept T.F_end_kept.kp T.b_end_kept .nil pass0 (pa_cons (pv 0) (pa_cons (pv 1) pa_nil))) pa_nil)))))), ?_⟩
    refine ⟨_, rfl, _, rfl, ?_⟩
    refine tw.nl fun H2 S2 => ?_
    have tw2 := tw.step S2
    refine ⟨_, rfl, a, _, rfl, .inr (.of tw2.a), _, rfl, _, rfl, ?_⟩
    refine tw2.ek fun H3 c S3 hc => ?_
    refine ⟨c, _, rfl, .inl (.of hc), _, _, rfl, rfl, ?_⟩
    have hk := Rm.kept_len tw.la tw.lb
    have e : V.int (((vI p).length : Nat) - ((vI (Rm.kept p o)).length : Nat) : Int) = V.int ((n - (Rm.kept p o).length : Nat) : Int) := by
      rw [vI_length, vI_length, tw.la.len, Int.ofNat_sub hk]
    show Q (V.int (((vI p).length : Nat) - ((vI (Rm.kept p o)).length : Nat) : Int)) H3
    rw [e]
    exact q H3 (S2.trans S3)
end
end Rs
set_option maxHeartbeats 8000000
/-! kinds: front_word -/
namespace Rs
open PySem PySem.Spec PyProof.Rows L2 LamX
section
variable {P : Program} {w : World} {K : PySem.W.Frag} {mg : Str → Option Value} {base : Heap}
structure FwP (K : PySem.W.Frag) (vs : List V) (H : Hp) (Q : VK) (E : XK) : Prop where
  ex : (∃ (a b : Addr) (n : Nat) (p o : Rm.LN), vs = [.ref a, .ref b] ∧ Two K H a b n p o ∧ ∀ H' q, Stp K H H' → H' q = some (vT (Rm.frontWord p o)) → Q (.ref q) H') ∨
    (∃ (x y : V) (one : Rm.LN) (oo : Option Rm.LN), vs = [x, y] ∧ LayArg H x (some one) ∧ okL one ∧ LayArg H y oo ∧ Tb K H ∧ ¬ Fits one oo ∧ ∀ H', Stp K H H' → E (.ref (He.ga K "BadLayout")) none H')
def spFW (K : PySem.W.Frag) : Sp := fun vs H Q E => FwP K vs H Q E
abbrev nFW : List Str := ["one", "other", "row", "word", "names", "name"]
theorem scFW : FnScope nFW ["one", "other"] (defScope s_front_word) := ⟨rfl, rfl, rfl, by decide +kernel, rfl, by decide +kernel, by decide +kernel⟩
theorem ok_FW (G : Gd K mg base) : FnOk P w K mg base (L2.CX P w) 3 (He.ga K "front_word") (fdO K "front_word") ["one", "other"] (spFW K) := by
  have T := G.T
  have GN : FnOk P w K mg base (L2.CX P w) 2 (He.ga K "need_layouts") (fdO K "need_layouts") ["one", "other"] (spNL K) := ok_NL G
  have GE : FnOk P w K mg base CX0 2 (He.ga K "end_kept") (fdO K "end_kept") ["one", "other"] (spEK K) := ok_EK G
  have GF : FnOk P w K mg base CX0 1 (He.ga K "from_front") (fdO K "from_front") ["layout"] (spFF K) := ok_FF G
  refine T.F_front_word.ok scFW (fun vs H Q E h => ?_) (fun A outer s H vs Q E hr h => ?_)
  · rcases h.ex with ⟨a, b, n, p, o, rfl, _⟩ | ⟨x, y, one, oo, rfl, _⟩ <;> rfl
  · refine ⟨_, pss_cons (ps_expr (pe_call GN hr rfl T.g_need_layouts T.F_need_layouts.kp T.b_need_layouts .nil (passes_call (takes_of rfl rfl rfl rfl) (fun _ _ _ _ h => h)) (pa_cons (pv 0) (pa_cons (pv 1) pa_nil))))
      (pss_cons (ps_par (i := 2) (j := 3) rfl scFW.nd rfl rfl (by decide) rfl rfl (pa_cons (pe_call GF (hr.mono (by decide)) rfl T.g_from_front T.F_from_front.kp T.b_from_front .nil pass0 (pa_cons (pv 0) pa_nil)) (pa_cons (pe_lst pa_nil) pa_nil)) (by rfl))
      (pss_cons (ps_set (i := 4) scFW.nd rfl (.inl rfl) (pe_call GF (hr.mono (by decide)) rfl T.g_from_front T.F_from_front.kp T.b_from_front .nil pass0 (pa_cons (pv 1) pa_nil)))
      (pss_cons (ps_for (passes_of rfl) rfl (pi_list (pe_revL (pe_slice sl_list (pv 4) po_none (po_some (pe_op op_sub (pe_callB call_len_seq (by rfl) T.z_len boot_len (pa_cons (pv 4) pa_nil))
          (pe_callB call_len_seq (by rfl) T.z_len boot_len (pa_cons (pe_call GE hr rfl T.g_end_kept T.F_end_kept.kp T.b_end_kept .nil pass0 (pa_cons (pv 0) (pa_cons (pv 1) pa_nil))) pa_nil))))))) (pg_name (i := 5) scFW.nd rfl (.inl rfl))
        (pss_cons (ps_expr (pe_bm PySem.F.plainAttrs_list PySem.F.slot_list_append PySem.F.type_list_append mt_append (pv 3) (pa_cons (pe_bm PySem.F.plainAttrs_list PySem.F.slot_list_index PySem.F.type_list_index mt_index (pv 2) (pa_cons (pv 5) pa_nil)) pa_nil)))
        (pss_cons (ps_expr (pe_bm PySem.F.plainAttrs_list PySem.F.slot_list_remove PySem.F.type_list_remove mt_remove (pv 2) (pa_cons (pv 5) pa_nil)))
        (pss_one (ps_expr (pe_bm PySem.F.plainAttrs_list PySem.F.slot_list_insert PySem.F.type_list_insert mt_insert (pv 2) (pa_cons pe_int (pa_cons (pv 5) pa_nil))))))))
      (pss_one (ps_ret (pe_tupleOf (by rfl) T.z_tuple (pv 3))))))), ?_⟩
    rcases h.ex with ⟨a, b, n, p, o, rfl, tw, q⟩ | ⟨x, y, one, oo, rfl, hx, okx, hy, hT, nf, q⟩
    · refine ⟨_, rfl, _, rfl, ?_⟩
      refine tw.nl fun H2 S2 => ?_
      have tw2 := tw.step S2
      refine ⟨_, rfl, ?_⟩
      refine tw2.ff1 fun H3 Rw S3 _ hRw => ?_
      refine ⟨Nat.zero_le _, fun Wd hWd => ⟨_, _, rfl, ?_⟩⟩
      have S13 := S2.trans S3
      have nWd : Nt H Wd := Nt.of S13.1 hWd
      have nRw : Nt H Rw := Nt.of S2.1 (by assumption)
      have S4 := S13.trans (Stp.new (o := .lst []) S13.2 hWd)
      have eRw : upd H3 Wd (.lst []) Rw = some (.lst (vI (Rm.inv p))) := by rw [upd_ne (ne_of_none hRw hWd)]; exact hRw
      have eWd : upd H3 Wd (.lst []) Wd = some (.lst (vI [])) := upd_same
      have nRW : Rw ≠ Wd := ne_of_none hRw hWd
      generalize hE : upd H3 Wd (.lst []) = H4 at S4 eRw eWd ⊢
      refine ⟨_, rfl, ?_⟩
      refine (tw.step S4).ff2 fun H5 Nm S5 _ hNm => ?_
      have S15 := S4.trans S5
      have tw5 := tw.step S15
      refine ⟨_, rfl, _, rfl, Nm, _, rfl, .inl (.of hNm), _, rfl, _, rfl, ?_⟩
      refine tw5.ek fun H6 Kc S6 hKc => ?_
      have hk := Rm.kept_len tw.la tw.lb
      have ec : cutV (vI (Rm.inv o)) none (some (((vI (Rm.inv o)).length : Nat) - ((vI (Rm.kept p o)).length : Nat) : Int)) = vI (Rm.moved p o) := by
        rw [vI_length, vI_length, (Rm.inv_lay tw.lb).len, ← Int.ofNat_sub hk, cut_to]
        unfold Rm.moved
        rw [tw.lb.len]
      refine ⟨Kc, _, rfl, .inl (.of hKc), _, _, rfl, rfl, _, rfl, Nm, _, rfl, .of (S6.l hNm), fun Sl hSl => ?_⟩
      have ec2 : cutV (vI (Rm.inv o)) none (some ((fun i j => i - j) (((vI (Rm.inv o)).length : Nat) : Int) (((vI (Rm.kept p o)).length : Nat) : Int))) = vI (Rm.moved p o) := ec
      rw [ec]
      have S7 := (S15.trans S6).trans (Stp.new (o := .lst (vI (Rm.moved p o))) S6.2 hSl)
      have T67 : Stp K H5 (upd H6 Sl (.lst (vI (Rm.moved p o)))) := S6.trans (Stp.new S6.2 hSl)
      have eSl : upd H6 Sl (.lst (vI (Rm.moved p o))) Sl = some (.lst (vI (Rm.moved p o))) := upd_same
      generalize hE7 : upd H6 Sl (.lst (vI (Rm.moved p o))) = H7 at S7 T67 eSl ⊢
      refine ⟨Sl, _, rfl, .of eSl, fun It hIt => ?_⟩
      rw [vI_rev]
      have S8 := S7.trans (Stp.new (o := .lst (vI (Rm.moved p o).reverse)) S7.2 hIt)
      have T78 := Stp.new (o := .lst (vI (Rm.moved p o).reverse)) S7.2 hIt
      have eIt : upd H7 It (.lst (vI (Rm.moved p o).reverse)) It = some (.lst (vI (Rm.moved p o).reverse)) := upd_same
      have eRw7 := T67.l (S5.l eRw)
      have eWd7 := T67.l (S5.l eWd)
      have nIR : It ≠ Rw := (ne_of_none eRw7 hIt).symm
      have nIW : It ≠ Wd := (ne_of_none eWd7 hIt).symm
      have eRw8 := T78.l eRw7
      have eWd8 := T78.l eWd7
      generalize hE8 : upd H7 It (.lst (vI (Rm.moved p o).reverse)) = H8 at S8 eIt eRw8 eWd8 ⊢
      clear hE hE7 hE8 T67 T78
      have hmm := Rm.moved_mem tw.la tw.lb
      have hml : (Rm.moved p o).reverse.length ≤ 40 := by
        rw [List.length_reverse]
        unfold Rm.moved
        rw [List.length_take, (Rm.inv_lay tw.lb).len]
        have := tw.hi
        omega
      have hfw : Rm.fwGo (Rm.inv p) (Rm.moved p o).reverse = Rm.frontWord p o := rfl
      generalize hms : (Rm.moved p o).reverse = ms at *
      refine ⟨It, rfl, ⟨_, .of eIt⟩, ?_⟩
      refine for_it (walk_list (K := K) (a := It) (xs := vI ms)) (fun i σ H9 => Stp K H H9 ∧ H9 It = some (.lst (vI ms)) ∧ ∃ (rw wd : Rm.LN) (v5 : Option V), σ = [some (.ref a), some (.ref b), some (.ref Rw), some (.ref Wd), some (.ref Nm), v5] ∧ H9 Rw = some (.lst (vI rw)) ∧ H9 Wd = some (.lst (vI wd)) ∧
        rw.Perm (Rm.inv p) ∧ wd ++ Rm.fwGo rw (ms.drop i) = Rm.frontWord p o ∧ wd.length = i) ⟨S8, eIt, Rm.inv p, [], none, rfl, eRw8, eWd8, List.Perm.refl _, hfw, rfl⟩ (fun i σ H9 _ z => .of z.2.1) ?_ ?_
      · rintro i x σ H0 H9 hi ⟨S9, eIt9, rw, wd, v5, rfl, hR, hW, pm, hf, hwl⟩ ⟨rfl, hx⟩
        obtain ⟨rfl, hi2⟩ := vI_get hx
        have hxm : ms.getD i 0 ∈ rw := pm.mem_iff.mpr (hmm _ (Rm.getD_mem hi2))
        have hdrop : ms.drop i = ms.getD i 0 :: ms.drop (i + 1) := by
          rw [List.drop_eq_getElem_cons hi2, List.getD_eq_getElem?_getD, List.getElem?_eq_getElem hi2]
          rfl
        rw [hdrop] at hf
        generalize ms.getD i 0 = x at hf hxm ⊢
        have hrl : rw.length = n := by rw [pm.length_eq, (Rm.inv_lay tw.la).len]
        have hn40 := tw.hi
        refine ⟨_, rfl, .inl ⟨rfl, _, .of hW⟩, _, rfl, .inl ⟨rfl, _, .of hR⟩, _, rfl, Rw, vI rw, .int (x : Int), rw.idxOf x, .int (x : Int), rfl, rfl, .of hR, rfl, flat_vI _, vI_idx hxm, idx_eq x, idx_no, Wd, _, _, rfl, rfl, hW, by rw [vI_length, sizeLine_eq]; omega, ?_⟩
        rw [vI_snoc]
        have S10 := S9.wr (ys := vI (wd ++ [rw.idxOf x])) nWd hW
        have hW10 : upd H9 Wd (.lst (vI (wd ++ [rw.idxOf x]))) Wd = some (.lst (vI (wd ++ [rw.idxOf x]))) := upd_same
        have hR10 : upd H9 Wd (.lst (vI (wd ++ [rw.idxOf x]))) Rw = some (.lst (vI rw)) := by rw [upd_ne nRW]; exact hR
        have hI10 : upd H9 Wd (.lst (vI (wd ++ [rw.idxOf x]))) It = some (.lst (vI ms)) := by rw [upd_ne nIW]; exact eIt9
        generalize hE10 : upd H9 Wd (.lst (vI (wd ++ [rw.idxOf x]))) = H10 at S10 hW10 hR10 hI10 ⊢
        refine ⟨_, rfl, .inl ⟨rfl, _, .of hR10⟩, _, rfl, Rw, rw.map fun k : Nat => (k : Int), (x : Int), rw.idxOf x, rfl, rfl, by rw [← vI_map]; exact hR10, rem_at hxm, rem_no, ?_⟩
        rw [rem_is]
        have S11 := S10.wr (ys := vI (rw.erase x)) nRw hR10
        have hR11 : upd H10 Rw (.lst (vI (rw.erase x))) Rw = some (.lst (vI (rw.erase x))) := upd_same
        have hW11 : upd H10 Rw (.lst (vI (rw.erase x))) Wd = some (.lst (vI (wd ++ [rw.idxOf x]))) := by rw [upd_ne nRW.symm]; exact hW10
        have hI11 : upd H10 Rw (.lst (vI (rw.erase x))) It = some (.lst (vI ms)) := by rw [upd_ne nIR]; exact hI10
        generalize hE11 : upd H10 Rw (.lst (vI (rw.erase x))) = H11 at S11 hW11 hR11 hI11 ⊢
        refine ⟨_, rfl, .inl ⟨rfl, _, .of hR11⟩, _, rfl, Rw, vI (rw.erase x), 0, .int (x : Int), rfl, rfl, hR11, by rw [vI_length, sizeLine_eq]; have := List.length_erase_of_mem hxm; omega, by omega, by omega, ?_⟩
        rw [ins_is]
        refine ⟨S11.wr nRw hR11, by rw [upd_ne nIR]; exact hI11, x :: rw.erase x, wd ++ [rw.idxOf x], _, rfl, upd_same, by rw [upd_ne nRW.symm]; exact hW11, (Rm.toFront_perm hxm).trans pm, ?_, by rw [List.length_append, hwl]; rfl⟩
        rw [← hf, List.append_assoc]
        rfl
      · rintro σ H9 ⟨S9, eIt9, rw, wd, v5, rfl, hR, hW, pm, hf, hwl⟩
        rw [List.drop_of_length_le (by rw [vI_length]; exact Nat.le_refl _)] at hf
        have hf2 : wd = Rm.frontWord p o := by rw [← hf]; exact (List.append_nil wd).symm
        refine ⟨_, rfl, .inl ⟨Wd, _, rfl, .of hW, fun r hr2 => q _ r (S9.trans (Stp.new S9.2 hr2)) (by rw [upd_same, hf2])⟩⟩
    · refine ⟨_, rfl, _, rfl, ?_⟩
      exact ⟨x, y, one, oo, rfl, hx, okx, hy, hT, fun hf => absurd hf nf, fun _ => q⟩
end
end Rs
set_option maxHeartbeats 8000000
/-! kinds: neighbour_word -/
namespace Rs
open PySem PySem.Spec PyProof.Rows L2 LamX
theorem ixN_of {n : Nat} {z : Int} {j : Nat} (e : z = (j : Int)) (h : j < n) : ixN n z = some j := by
  subst e
  unfold ixN
  rw [if_pos (by omega), if_pos (by omega), Int.toNat_natCast]
theorem set_two {α : Type} (a b c d : α) : ∀ (T D : List α), ((T ++ a :: b :: D).set T.length c).set (T.length + 1) d = T ++ c :: d :: D
  | [], _ => rfl
  | x :: T, D => congrArg (x :: ·) (set_two a b c d T D)
theorem swp_set {l : List Nat} {k : Nat} (h0 : 0 < k) (hk : k < l.length) : ((vI l).set (k - 1) (V.int ((l.getD k 0 : Nat) : Int))).set k (V.int ((l.getD (k - 1) 0 : Nat) : Int)) = vI (Rm.swp l k) := by
  have e := Rm.parts2 h0 hk
  have ht : (l.take (k - 1)).length = k - 1 := by rw [List.length_take]; omega
  have e2 : Rm.swp l k = l.take (k - 1) ++ (l.getD k 0 :: l.getD (k - 1) 0 :: l.drop (k + 1)) := by
    unfold Rm.swp
    rw [if_neg (by omega)]
  rw [e2]
  generalize l.getD k 0 = b at e e2 ⊢
  generalize l.getD (k - 1) 0 = a at e e2 ⊢
  have e3 : vI l = vI (l.take (k - 1)) ++ (V.int (a : Int) :: V.int (b : Int) :: vI (l.drop (k + 1))) := by
    conv => lhs; rw [e]
    show List.map _ _ = _
    rw [List.map_append]
    rfl
  rw [e3]
  have h1 : k - 1 = (vI (l.take (k - 1))).length := by rw [vI_length, ht]
  have h2 : k = (vI (l.take (k - 1))).length + 1 := by rw [vI_length, ht]; omega
  have := set_two (V.int (a : Int)) (V.int (b : Int)) (V.int (b : Int)) (V.int (a : Int)) (vI (l.take (k - 1))) (vI (l.drop (k + 1)))
  rw [← h1, Nat.sub_add_cancel h0] at this
  rw [this]
  show _ = List.map _ _
  rw [List.map_append]
  rfl
theorem down_at {i g t : Nat} (h : t < i - g) : (Rm.down i g).getD t 0 = i - t := by
  unfold Rm.down
  rw [Rm.getD_map (by rw [List.length_range]; exact h), Rm.getD_range h]
theorem take_snoc {l : List Nat} {t : Nat} (h : t < l.length) : l.take (t + 1) = l.take t ++ [l.getD t 0] := by
  rw [List.take_add_one, List.getD_eq_getElem?_getD, List.getElem?_eq_getElem h]
  rfl
theorem fold_perm {w : List Nat} : ∀ {row : List Nat}, (∀ k ∈ w, k < row.length) → (w.foldl Rm.swp row).Perm row := by
  induction w with
  | nil => exact fun _ => List.Perm.refl _
  | cons k w ih =>
    intro row h
    have hp := Rm.swp_perm (h k List.mem_cons_self)
    refine (ih (row := Rm.swp row k) fun j hj => ?_).trans hp
    rw [hp.length_eq]
    exact h j (List.mem_cons_of_mem _ hj)
section
variable {P : Program} {w : World} {K : PySem.W.Frag} {mg : Str → Option Value} {base : Heap}
structure NwP (K : PySem.W.Frag) (vs : List V) (H : Hp) (Q : VK) : Prop where
  ex : ∃ (a b : Addr) (n : Nat) (p o : Rm.LN), vs = [.ref a, .ref b] ∧ Two K H a b n p o ∧ ∀ H' q, Stp K H H' → H' q = some (vT (Rm.nbWord p o)) → Q (.ref q) H'
def spNW (K : PySem.W.Frag) : Sp := fun vs H Q _ => NwP K vs H Q
abbrev nNW : List Str := ["one", "other", "row", "word", "names", "goal", "name", "place"]
theorem scNW : FnScope nNW ["one", "other"] (defScope s_neighbour_word) := ⟨rfl, rfl, rfl, by decide +kernel, rfl, by decide +kernel, by decide +kernel⟩
theorem ok_NW (G : Gd K mg base) : FnOk P w K mg base CX0 3 (He.ga K "neighbour_word") (fdO K "neighbour_word") ["one", "other"] (spNW K) := by
  have T := G.T
  have GN : FnOk P w K mg base (L2.CX P w) 2 (He.ga K "need_layouts") (fdO K "need_layouts") ["one", "other"] (spNL K) := ok_NL G
  have GF : FnOk P w K mg base CX0 1 (He.ga K "from_front") (fdO K "from_front") ["layout"] (spFF K) := ok_FF G
  refine T.F_neighbour_word.ok scNW (fun vs H Q E h => ?_) (fun A outer s H vs Q E hr h => ?_)
  · obtain ⟨a, b, n, p, o, rfl, _⟩ := h.ex
    rfl
  · obtain ⟨a, b, n, p, o, rfl, tw, q⟩ := h.ex
    refine ⟨_, PSs.nox (pss_cons (ps_expr (pe_call GN hr rfl T.g_need_layouts T.F_need_layouts.kp T.b_need_layouts .nil passF (pa_cons (pv 0) (pa_cons (pv 1) pa_nil))))
      (pss_cons (ps_par3 (i := 2) (j := 3) (l := 4) rfl scNW.nd rfl rfl rfl (by decide) (by decide) (by decide) rfl rfl rfl (pa_cons (pe_call GF (hr.mono (by decide)) rfl T.g_from_front T.F_from_front.kp T.b_from_front .nil pass0 (pa_cons (pv 0) pa_nil))
        (pa_cons (pe_lst pa_nil) (pa_cons (pe_call GF (hr.mono (by decide)) rfl T.g_from_front T.F_from_front.kp T.b_from_front .nil pass0 (pa_cons (pv 1) pa_nil)) pa_nil))) (by rfl))
      (pss_cons (ps_for PassesOwn.never rfl (pi_enum (by rfl) T.z_enumerate (pa_cons (pv 4) pa_nil)) (pg_tup (by rfl) (pgs_cons (pg_name (i := 5) scNW.nd rfl (.inl rfl)) (pgs_cons (pg_name (i := 6) scNW.nd rfl (.inl rfl)) pgs_nil)))
        (pss_one (ps_for PassesOwn.never rfl (pi_range3 (by rfl) T.z_range (pa_cons (pe_bm PySem.F.plainAttrs_list PySem.F.slot_list_index PySem.F.type_list_index mt_index (pv 2) (pa_cons (pv 6) pa_nil)) (pa_cons (pv 5) (pa_cons (pe_un un_neg pe_int) pa_nil)))) (pg_name (i := 7) scNW.nd rfl (.inl rfl))
          (pss_cons (ps_expr (pe_bm PySem.F.plainAttrs_list PySem.F.slot_list_append PySem.F.type_list_append mt_append (pv 3) (pa_cons (pv 7) pa_nil)))
          (pss_one (ps_asg (pe_tup (pa_cons (pe_ix ix_list (pv 2) (pv 7) (fun _ _ => rfl)) (pa_cons (pe_ix ix_list (pv 2) (pe_op op_sub (pv 7) pe_int) (fun _ _ => rfl)) pa_nil)))
            (pg_tup (by rfl) (pgs_cons (pg_sub (pv 2) (pe_op op_sub (pv 7) pe_int) set_list) (pgs_cons (pg_sub (pv 2) (pv 7) set_list) pgs_nil)))))))))
      (pss_one (ps_ret (pe_tupleOf (by rfl) T.z_tuple (pv 3))))))), ?_⟩
    refine ⟨_, rfl, _, rfl, ?_⟩
    refine tw.nl fun H2 S2 => ?_
    have tw2 := tw.step S2
    refine ⟨_, rfl, ?_⟩
    refine tw2.ff1 fun H3 Rw S3 hRn hRw => ?_
    refine ⟨Nat.zero_le _, fun Wd hWd => ?_⟩
    have S13 := S2.trans S3
    have nWd : Nt H Wd := Nt.of S13.1 hWd
    have nRw : Nt H Rw := Nt.of S2.1 hRn
    have S4 := S13.trans (Stp.new (o := .lst []) S13.2 hWd)
    have eRw : upd H3 Wd (.lst []) Rw = some (.lst (vI (Rm.inv p))) := by rw [upd_ne (ne_of_none hRw hWd)]; exact hRw
    have eWd : upd H3 Wd (.lst []) Wd = some (.lst (vI [])) := upd_same
    have nRW : Rw ≠ Wd := ne_of_none hRw hWd
    generalize hE : upd H3 Wd (.lst []) = H4 at S4 eRw eWd ⊢
    refine ⟨_, rfl, ?_⟩
    refine (tw.step S4).ff2 fun H5 Nm S5 hNn hNm => ?_
    refine ⟨_, _, _, rfl, ?_⟩
    have S15 := S4.trans S5
    have eRw5 := S5.l eRw
    have eWd5 := S5.l eWd
    have nNR : Nm ≠ Rw := (ne_of_none eRw hNn).symm
    have nNW' : Nm ≠ Wd := (ne_of_none eWd hNn).symm
    clear hE
    have Lo := Rm.inv_lay tw.lb
    have hnl : (Rm.inv o).length = n := Lo.len
    have hnb : Rm.nbGo (Rm.inv p) 0 (Rm.inv o) = Rm.nbWord p o := rfl
    have hn40 := tw.hi
    refine ⟨_, rfl, Nm, _, rfl, .of hNm, ?_⟩
    refine for_it (walk_enum (K := K) (a := Nm) (xs := vI (Rm.inv o))) (fun i σ H6 => Stp K H H6 ∧ H6 Nm = some (.lst (vI (Rm.inv o))) ∧ ∃ (rw wd : Rm.LN) (v5 v6 v7 : Option V), σ = [some (.ref a), some (.ref b), some (.ref Rw), some (.ref Wd), some (.ref Nm), v5, v6, v7] ∧ H6 Rw = some (.lst (vI rw)) ∧ H6 Wd = some (.lst (vI wd)) ∧
      rw.Perm (Rm.inv p) ∧ wd ++ Rm.nbGo rw i ((Rm.inv o).drop i) = Rm.nbWord p o ∧ wd.length ≤ 40 * i) ⟨S15, hNm, Rm.inv p, [], none, none, none, rfl, eRw5, eWd5, List.Perm.refl _, hnb, Nat.zero_le _⟩ (fun i σ H6 _ z => .of z.2.1) ?_ ?_
    · rintro i x σ H6 H6' hi ⟨S6, hNm6, rw, wd, v5, v6, v7, rfl, hR, hW, pm, hf, hwl⟩ ⟨Tt, x1, x2, rfl, hTn, rfl, e1, e2⟩
      have hi2 : i < (Rm.inv o).length := by rw [← vI_length]; exact hi
      obtain rfl : x2 = V.int (((Rm.inv o).getD i 0 : Nat) : Int) := (vI_get e2).1
      obtain rfl : x1 = V.int ((i : Nat) : Int) := (Option.some.inj e1).symm
      have hxo : (Rm.inv o).getD i 0 ∈ Rm.inv o := Rm.getD_mem hi2
      have hxm : (Rm.inv o).getD i 0 ∈ rw := pm.mem_iff.mpr ((Rm.inv_perm tw.la tw.lb).mem_iff.mpr hxo)
      have hdrop : (Rm.inv o).drop i = (Rm.inv o).getD i 0 :: (Rm.inv o).drop (i + 1) := by
        rw [List.drop_eq_getElem_cons hi2, List.getD_eq_getElem?_getD, List.getElem?_eq_getElem hi2]
        rfl
      rw [hdrop] at hf
      generalize (Rm.inv o).getD i 0 = x at hf hxm hxo e2 hTn ⊢
      have hrl : rw.length = n := by rw [pm.length_eq, (Rm.inv_lay tw.la).len]
      have hjl : rw.idxOf x < n := by rw [← hrl]; exact Rm.idx_lt hxm
      have S7 := Stp.new (o := .tup [V.int ((i : Nat) : Int), V.int (x : Int)]) S6.2 hTn
      have eT : upd H6 Tt (.tup [V.int ((i : Nat) : Int), V.int (x : Int)]) Tt = some (.tup [V.int ((i : Nat) : Int), V.int (x : Int)]) := upd_same
      have hR7 := S7.l hR
      have hW7 := S7.l hW
      have hN7 := S7.l hNm6
      have S17 := S6.trans S7
      generalize hE7 : upd H6 Tt (.tup [V.int ((i : Nat) : Int), V.int (x : Int)]) = H7 at S7 eT hR7 hW7 hN7 S17 ⊢
      refine ⟨Tt, [V.int ((i : Nat) : Int), V.int (x : Int)], rfl, .of eT, rfl, _, [V.int (x : Int)], rfl, _, [], rfl, rfl, ?_⟩
      refine ⟨_, rfl, .inl ⟨rfl, _, .of hR7⟩, _, rfl, Rw, vI rw, .int (x : Int), rw.idxOf x, .int (x : Int), rfl, rfl, .of hR7, rfl, flat_vI _, vI_idx hxm, idx_eq x, idx_no, _, rfl, _, rfl, ?_⟩
      refine ⟨((rw.idxOf x : Nat) : Int), ((i : Nat) : Int), -1, _, rfl, RgC.neg (by omega) (by omega) (by omega) (by omega), ?_⟩
      have hdl := Rm.down_len (rw.idxOf x) i
      have hdm : ∀ k ∈ Rm.down (rw.idxOf x) i, k < rw.length := fun k hk => by
        have := (Rm.down_mem hk).2
        rw [hrl]
        omega
      have hcnt : ((((rw.idxOf x : Nat) : Int) - ((i : Nat) : Int))).toNat = rw.idxOf x - i := by omega
      refine for_it (walk_rangeC (lo := ((rw.idxOf x : Nat) : Int)) (c := -1) (n := (((rw.idxOf x : Nat) : Int) - ((i : Nat) : Int)).toNat)) (fun t σ H8 => Stp K H H8 ∧ H8 Nm = some (.lst (vI (Rm.inv o))) ∧ ∃ (v7 : Option V), σ = [some (.ref a), some (.ref b), some (.ref Rw), some (.ref Wd), some (.ref Nm), some (.int ((i : Nat) : Int)), some (.int (x : Int)), v7] ∧
        H8 Rw = some (.lst (vI (((Rm.down (rw.idxOf x) i).take t).foldl Rm.swp rw))) ∧ H8 Wd = some (.lst (vI (wd ++ (Rm.down (rw.idxOf x) i).take t)))) ⟨S17, hN7, v7, rfl, hR7, by rw [List.take_zero, List.append_nil]; exact hW7⟩ (fun _ _ _ _ _ => trivial) ?_ ?_
      · rintro t y σ H0 H8 ht ⟨S8, hN8, v7, rfl, hR8, hW8⟩ ⟨rfl, rfl⟩
        rw [hcnt] at ht
        have hk0 : 0 < rw.idxOf x - t := by omega
        have htl : t < (Rm.down (rw.idxOf x) i).length := by rw [hdl]; exact ht
        have hat : (Rm.down (rw.idxOf x) i).getD t 0 = rw.idxOf x - t := down_at ht
        have e0 : (fun i_1 : Nat => V.int (((rw.idxOf x : Nat) : Int) + (i_1 : Nat) * (-1))) t = V.int ((rw.idxOf x - t : Nat) : Int) := by
          show V.int (((rw.idxOf x : Nat) : Int) + ((t : Nat) : Int) * (-1)) = _
          congr 1
          omega
        rw [e0]
        have ets : (Rm.down (rw.idxOf x) i).take (t + 1) = (Rm.down (rw.idxOf x) i).take t ++ [rw.idxOf x - t] := by rw [take_snoc htl, hat]
        have pm2 := fold_perm (row := rw) (w := (Rm.down (rw.idxOf x) i).take t) fun k hk => hdm k (List.mem_of_mem_take hk)
        have efs : ((Rm.down (rw.idxOf x) i).take (t + 1)).foldl Rm.swp rw = Rm.swp (((Rm.down (rw.idxOf x) i).take t).foldl Rm.swp rw) (rw.idxOf x - t) := by rw [ets, List.foldl_append]; rfl
        rw [efs, ets]
        have hl2 := pm2.length_eq
        have hwt : ((Rm.down (rw.idxOf x) i).take t).length ≤ 40 := by rw [List.length_take]; omega
        generalize ((Rm.down (rw.idxOf x) i).take t).foldl Rm.swp rw = r2 at hR8 hl2 pm2 ⊢
        generalize (Rm.down (rw.idxOf x) i).take t = dt at hW8 hwt ⊢
        have hkl : rw.idxOf x - t < r2.length := by rw [hl2, hrl]; omega
        generalize rw.idxOf x - t = k at hk0 hkl ⊢
        refine ⟨_, rfl, .inl ⟨rfl, _, .of hW8⟩, _, rfl, Wd, _, _, rfl, rfl, hW8, by rw [vI_length, List.length_append, sizeLine_eq]; omega, ?_⟩
        rw [vI_snoc]
        have S9 := S8.wr (ys := vI ((wd ++ dt) ++ [k])) nWd hW8
        have hW9 : upd H8 Wd (.lst (vI ((wd ++ dt) ++ [k]))) Wd = some (.lst (vI ((wd ++ dt) ++ [k]))) := upd_same
        have hR9 : upd H8 Wd (.lst (vI ((wd ++ dt) ++ [k]))) Rw = some (.lst (vI r2)) := by rw [upd_ne nRW]; exact hR8
        have hN9 : upd H8 Wd (.lst (vI ((wd ++ dt) ++ [k]))) Nm = some (.lst (vI (Rm.inv o))) := by rw [upd_ne nNW']; exact hN8
        generalize hE9 : upd H8 Wd (.lst (vI ((wd ++ dt) ++ [k]))) = H9 at S9 hW9 hR9 hN9 ⊢
        refine ⟨_, rfl, _, rfl, Rw, _, _, _, rfl, rfl, .of hR9, atI_nat (vI_at hkl), _, rfl, _, rfl, _, _, rfl, rfl, Rw, _, _, _, rfl, rfl, .of hR9, at_of (j := k - 1) (by omega) (vI_at (by omega)), (by show 2 ≤ sizeLine; decide), fun tt htt => ?_⟩
        have S10 := Stp.new (o := .tup [V.int ((r2.getD k 0 : Nat) : Int), V.int ((r2.getD (k - 1) 0 : Nat) : Int)]) S9.2 htt
        have eT10 : upd H9 tt (.tup [V.int ((r2.getD k 0 : Nat) : Int), V.int ((r2.getD (k - 1) 0 : Nat) : Int)]) tt = some (.tup [V.int ((r2.getD k 0 : Nat) : Int), V.int ((r2.getD (k - 1) 0 : Nat) : Int)]) := upd_same
        generalize hE10 : upd H9 tt (.tup [V.int ((r2.getD k 0 : Nat) : Int), V.int ((r2.getD (k - 1) 0 : Nat) : Int)]) = H10 at S10 eT10 ⊢
        have S110 := S9.trans S10
        have hR10 := S10.l hR9
        have hW10 := S10.l hW9
        have hN10 := S10.l hN9
        refine ⟨tt, _, rfl, .of eT10, rfl, _, _, rfl, _, rfl, _, rfl, _, _, rfl, rfl, Rw, _, _, k - 1, rfl, rfl, hR10, ixN_of (by omega) (by rw [vI_length]; omega), _, _, rfl, _, rfl, _, rfl, Rw, _, _, k, rfl, rfl, upd_same, ixN_of rfl (by rw [List.length_set, vI_length]; exact hkl), rfl, ?_⟩
        rw [upd_upd, swp_set hk0 hkl]
        exact ⟨S110.wr nRw hR10, by rw [upd_ne nNR]; exact hN10, _, rfl, upd_same, by rw [upd_ne nRW.symm, ← List.append_assoc]; exact hW10⟩
      · rintro σ H8 ⟨S8, hN8, v7, rfl, hR8, hW8⟩
        rw [hcnt, ← hdl, List.take_length] at hR8 hW8
        refine ⟨S8, hN8, (Rm.down (rw.idxOf x) i).foldl Rm.swp rw, wd ++ Rm.down (rw.idxOf x) i, _, _, _, rfl, hR8, hW8, (fold_perm hdm).trans pm, ?_, ?_⟩
        · rw [← hf, List.append_assoc]
          rfl
        · rw [List.length_append, hdl]
          omega
    · rintro σ H6 ⟨S6, hNm6, rw, wd, v5, v6, v7, rfl, hR, hW, pm, hf, hwl⟩
      rw [List.drop_of_length_le (by rw [vI_length]; exact Nat.le_refl _)] at hf
      have hf2 : wd = Rm.nbWord p o := by rw [← hf]; exact (List.append_nil wd).symm
      refine ⟨_, rfl, .inl ⟨Wd, _, rfl, .of hW, fun r hr2 => q _ r (S6.trans (Stp.new S6.2 hr2)) (by rw [upd_same, hf2])⟩⟩
end
end Rs
set_option maxHeartbeats 8000000
/-! kinds: neighbour_distance, turning_word -/
namespace Rs
open PySem PySem.Spec PyProof.Rows L2 LamX
theorem cut_from {l : List Nat} {m : Nat} : cutV (vI l) (some (m : Int)) none = vI (l.drop m) := by
  unfold cutV
  rw [HT.sIx_none, HT.sIx_nat, vI_length]
  unfold vI
  rw [← List.map_drop, ← List.map_take]
  congr 1
  rcases Nat.le_total m l.length with h | h
  · rw [Nat.min_eq_left h, List.take_of_length_le (by rw [List.length_drop]; exact Nat.le_refl _)]
  · rw [Nat.min_eq_right h, List.drop_of_length_le (Nat.le_refl _), List.drop_of_length_le h, List.take_nil]
theorem fil_snoc {l : List Nat} {j : Nat} {c : Nat → Bool} (h : j < l.length) : (l.take (j + 1)).filter c = (l.take j).filter c ++ if c (l.getD j 0) = true then [l.getD j 0] else [] := by
  rw [take_snoc h, List.filter_append]
  congr 1
  by_cases q : c (l.getD j 0) = true
  · rw [if_pos q, List.filter_cons_of_pos q]
    rfl
  · rw [if_neg q, List.filter_cons_of_neg q]
    rfl
theorem fil_one {c : Nat → Bool} {x : Nat} {l : List Nat} (h : c x = true) : l ++ (if c x = true then [x] else []) = l ++ [x] := by rw [if_pos h]
theorem fil_none {c : Nat → Bool} {x : Nat} {l : List Nat} (h : c x = false) : l ++ (if c x = true then [x] else []) = l := by rw [if_neg (by rw [h]; exact Bool.false_ne_true), List.append_nil]
abbrev rLn (K : PySem.W.Frag) : List V → Hp → VK → Prop := fun xs H Q => ∃ p ys, xs = [.ref p] ∧ (SqL K H p ys ∨ SqT K H p ys) ∧ Q (.int ys.length) H
section
variable {P : Program} {w : World} {K : PySem.W.Frag} {mg : Str → Option Value} {base : Heap}
structure NdP (K : PySem.W.Frag) (vs : List V) (H : Hp) (Q : VK) : Prop where
  ex : ∃ (a b : Addr) (n : Nat) (p o : Rm.LN), vs = [.ref a, .ref b] ∧ Two K H a b n p o ∧ ∀ H', Stp K H H' → Q (.int ((Rm.crossed p o : Nat) : Int)) H'
def spND (K : PySem.W.Frag) : Sp := fun vs H Q _ => NdP K vs H Q
abbrev nND : List Str := ["one", "other", "names", "found", "place", "name", "later"]
theorem scND : FnScope nND ["one", "other"] (defScope s_neighbour_distance) := ⟨rfl, rfl, rfl, by decide +kernel, rfl, by decide +kernel, by decide +kernel⟩
theorem ok_ND (G : Gd K mg base) : FnOk P w K mg base CX0 3 (He.ga K "neighbour_distance") (fdO K "neighbour_distance") ["one", "other"] (spND K) := by
  have T := G.T
  have GN : FnOk P w K mg base (L2.CX P w) 2 (He.ga K "need_layouts") (fdO K "need_layouts") ["one", "other"] (spNL K) := ok_NL G
  have GF : FnOk P w K mg base CX0 1 (He.ga K "from_front") (fdO K "from_front") ["layout"] (spFF K) := ok_FF G
  refine T.F_neighbour_distance.ok scND (fun vs H Q E h => ?_) (fun A outer s H vs Q E hr h => ?_)
  · obtain ⟨a, b, n, p, o, rfl, _⟩ := h.ex
    rfl
  · obtain ⟨a, b, n, p, o, rfl, tw, q⟩ := h.ex
    refine ⟨_, PSs.nox (pss_cons (ps_expr (pe_call GN hr rfl T.g_need_layouts T.F_need_layouts.kp T.b_need_layouts .nil passF (pa_cons (pv 0) (pa_cons (pv 1) pa_nil))))
      (pss_cons (ps_par (i := 2) (j := 3) rfl scND.nd rfl rfl (by decide) rfl rfl (pa_cons (pe_call GF (hr.mono (by decide)) rfl T.g_from_front T.F_from_front.kp T.b_from_front .nil pass0 (pa_cons (pv 0) pa_nil)) (pa_cons pe_int pa_nil)) (by rfl))
      (pss_cons (ps_for PassesOwn.never rfl (pi_enum (by rfl) T.z_enumerate (pa_cons (pv 2) pa_nil)) (pg_tup (by rfl) (pgs_cons (pg_name (i := 4) scND.nd rfl (.inl rfl)) (pgs_cons (pg_name (i := 5) scND.nd rfl (.inr rfl)) pgs_nil)))
        (pss_one (ps_aug (i := 3) scND.nd rfl (.inl rfl) (pe_callB call_len_seq (by rfl) T.z_len boot_len (pa_cons (pe_lc (own := [("later", 6)]) (g := gName 6) (by rfl) scND.nd (pi_list (pe_slice sl_list (pv 2) (po_some (pe_op op_add (pv 4) pe_int)) po_none))
          (blkOk_by (own := [("later", 6)]) (N := nND) (sc := defScope s_neighbour_distance) (by decide +kernel)) (fun _ _ _ _ _ => pg_name (i := 6) scND.nd rfl (Or.inl rfl))
          (fun _ _ _ _ _ => pts_one (pt_cmpR op_lt (pe_ix (r := rIxT K) ix_tup (pv 1) (pv 6) (fun _ _ => rfl)) (pe_ix (r := rIxT K) ix_tup (pv 1) (pv 5) (fun _ _ => rfl)) (nomark _))) (fun _ _ _ _ _ => pv 6)) pa_nil)) ip_add)))
      (pss_one (ps_ret (pv 3)))))), ?_⟩
    refine ⟨_, rfl, _, rfl, ?_⟩
    refine tw.nl fun H2 S2 => ?_
    have tw2 := tw.step S2
    refine ⟨_, rfl, ?_⟩
    refine tw2.ff1 fun H3 Nm S3 _ hNm => ?_
    refine ⟨_, _, rfl, ?_⟩
    have S13 := S2.trans S3
    have hcr : 0 + Rm.invs (fun x => o.getD x 0) (Rm.inv p) = Rm.crossed p o := Nat.zero_add _
    have Lp := Rm.inv_lay tw.la
    refine ⟨_, rfl, Nm, _, rfl, .of hNm, ?_⟩
    refine for_it (walk_enum (K := K) (a := Nm) (xs := vI (Rm.inv p))) (fun i σ H6 => Stp K H H6 ∧ H6 Nm = some (.lst (vI (Rm.inv p))) ∧ ∃ (c : Nat) (v4 v5 v6 : Option V), σ = [some (.ref a), some (.ref b), some (.ref Nm), some (.int (c : Int)), v4, v5, v6] ∧
      c + Rm.invs (fun x => o.getD x 0) ((Rm.inv p).drop i) = Rm.crossed p o) ⟨S13, hNm, 0, none, none, none, rfl, hcr⟩ (fun i σ H6 _ z => .of z.2.1) ?_ ?_
    · rintro i x σ H6 H6' hi ⟨S6, hNm6, c, v4, v5, v6, rfl, hf⟩ ⟨Tt, x1, x2, rfl, hTn, rfl, e1, e2⟩
      have hi2 : i < (Rm.inv p).length := by rw [← vI_length]; exact hi
      obtain rfl : x2 = V.int (((Rm.inv p).getD i 0 : Nat) : Int) := (vI_get e2).1
      obtain rfl : x1 = V.int ((i : Nat) : Int) := (Option.some.inj e1).symm
      have hxn : (Rm.inv p).getD i 0 < n := Lp.lt _ (Rm.getD_mem hi2)
      have hdrop : (Rm.inv p).drop i = (Rm.inv p).getD i 0 :: (Rm.inv p).drop (i + 1) := by
        rw [List.drop_eq_getElem_cons hi2, List.getD_eq_getElem?_getD, List.getElem?_eq_getElem hi2]
        rfl
      rw [hdrop] at hf
      generalize (Rm.inv p).getD i 0 = x at hf hxn e2 hTn ⊢
      have S7 := Stp.new (o := .tup [V.int ((i : Nat) : Int), V.int (x : Int)]) S6.2 hTn
      have eT : upd H6 Tt (.tup [V.int ((i : Nat) : Int), V.int (x : Int)]) Tt = some (.tup [V.int ((i : Nat) : Int), V.int (x : Int)]) := upd_same
      have hN7 := S7.l hNm6
      have S17 := S6.trans S7
      generalize hE7 : upd H6 Tt (.tup [V.int ((i : Nat) : Int), V.int (x : Int)]) = H7 at S7 eT hN7 S17 ⊢
      refine ⟨Tt, [V.int ((i : Nat) : Int), V.int (x : Int)], rfl, .of eT, rfl, _, [V.int (x : Int)], rfl, _, [], rfl, rfl, ?_⟩
      refine ⟨_, rfl, _, rfl, _, rfl, _, _, rfl, rfl, _, rfl, Nm, _, rfl, .of hN7, fun sl hsl => ?_⟩
      have ec : cutV (vI (Rm.inv p)) (some (((i : Nat) : Int) + 1)) none = vI ((Rm.inv p).drop (i + 1)) := by
        rw [← cut_from, Int.natCast_add]
        rfl
      rw [ec]
      have htl : ((Rm.inv p).drop (i + 1)).length ≤ 40 := by rw [List.length_drop, Lp.len]; have := tw.hi; omega
      have htm : ∀ y ∈ (Rm.inv p).drop (i + 1), y < n := fun y hy => Lp.lt y (List.mem_of_mem_drop hy)
      generalize (Rm.inv p).drop (i + 1) = tl at hf htl htm ⊢
      have S8 := S17.trans (Stp.new (o := .lst (vI tl)) S17.2 hsl)
      have hN8 := (Stp.new (o := .lst (vI tl)) S17.2 hsl).l hN7
      have eS : upd H7 sl (.lst (vI tl)) sl = some (.lst (vI tl)) := upd_same
      generalize hE8 : upd H7 sl (.lst (vI tl)) = H8 at S8 hN8 eS ⊢
      refine ⟨sl, rfl, ⟨_, .of eS⟩, fun D hD => ?_⟩
      have hb8 := S8.t tw.b
      have nD : ∀ c u, H8 c = some u → c ≠ D := fun c u e => ne_of_none e hD
      refine lc_it (walk_list (K := K) (a := sl) (xs := vI tl)) (fun j H9 => H9 = upd H8 D (.lst (vI ((tl.take j).filter fun y => decide (o.getD y 0 < o.getD x 0))))) rfl (fun j H9 _ e => by rw [e]; exact .of (by rw [upd_ne (nD _ _ eS)]; exact eS)) ?_ ?_
      · rintro j y H9 H9' hj rfl ⟨rfl, hy⟩
        obtain ⟨rfl, hj2⟩ := vI_get hy
        have hyn := htm _ (Rm.getD_mem hj2)
        rw [fil_snoc hj2]
        have hfl : ((tl.take j).filter fun y => decide (o.getD y 0 < o.getD x 0)).length ≤ 40 := Nat.le_trans (List.length_filter_le _ _) (by rw [List.length_take]; omega)
        generalize ((tl.take j).filter fun y => decide (o.getD y 0 < o.getD x 0)) = fl at hfl ⊢
        generalize tl.getD j 0 = y at hyn hy ⊢
        have hb9 : upd H8 D (.lst (vI fl)) b = some (vT o) := by rw [upd_ne (nD _ _ hb8)]; exact hb8
        refine ⟨rfl, ?_⟩
        refine ⟨_, rfl, _, rfl, b, _, _, _, rfl, rfl, .of hb9, atI_nat (vI_at (by rw [tw.lb.len]; exact hyn)), _, rfl, _, rfl, b, _, _, _, rfl, rfl, .of hb9, atI_nat (vI_at (by rw [tw.lb.len]; exact hxn)), _, _, rfl, rfl, _, rfl, ?_⟩
        by_cases cc : o.getD y 0 < o.getD x 0
        · refine ifT (decide_eq_true (by omega)) ?_
          refine ⟨_, rfl, _, upd_same, by rw [vI_length, sizeLine_eq]; omega, ?_⟩
          rw [upd_upd, vI_snoc, if_pos (decide_eq_true cc)]
        · refine ifF (decide_eq_false (by omega)) ?_
          rw [if_neg (by rw [decide_eq_false cc]; exact Bool.false_ne_true), List.append_nil]
      · rintro H9 rfl
        have et : tl.take (vI tl).length = tl := by rw [vI_length, List.take_length]
        rw [et]
        refine ⟨D, _, rfl, .inl (.of upd_same), _, _, rfl, rfl, ?_⟩
        rw [vI_length, ← List.countP_eq_length_filter]
        refine ⟨S8.trans (Stp.new S8.2 hD), by rw [upd_ne (nD _ _ hN8)]; exact hN8, c + tl.countP (fun y => decide (o.getD y 0 < o.getD x 0)), _, _, _, rfl, ?_⟩
        rw [← hf]
        show _ = c + (tl.countP (fun y => decide (o.getD y 0 < o.getD x 0)) + Rm.invs (fun x => o.getD x 0) tl)
        rw [Nat.add_assoc]
    · rintro σ H6 ⟨S6, hNm6, c, v4, v5, v6, rfl, hf⟩
      rw [List.drop_of_length_le (by rw [vI_length]; exact Nat.le_refl _)] at hf
      have hf2 : c = Rm.crossed p o := by rw [← hf]; rfl
      refine ⟨_, rfl, ?_⟩
      rw [hf2]
      exact q _ S6
end
end Rs
set_option maxHeartbeats 8000000
/-! kinds: turning_word -/
namespace Rs
open PySem PySem.Spec PyProof.Rows L2 LamX RZ
theorem take_vI' {l : List Nat} {i : Nat} (h : i < l.length) : vI (l.take (i + 1)) = vI (l.take i) ++ [V.int ((l.getD i 0 : Nat) : Int)] := by
  rw [take_snoc h, vI_snoc]
theorem walk_zipT {K : PySem.W.Frag} {a b : Addr} {xs ys : List V} {n : Nat} (h1 : xs.length = n) (h2 : ys.length = n) : Walk (ItzT K a b) n (fun H => SqT K H a xs ∧ SqT K H b ys) (YPair (fun i => xs[i]?) (fun i => ys[i]?)) := by
  refine ⟨fun i _ hi q => ⟨xs, ys, xs[i], ys[i], q.1, q.2, by simp [h1, hi], by simp [h2, hi]⟩, fun _ q => ⟨xs, ys, q.1, q.2, .inl (by omega)⟩, fun i H v H' _ q y => ?_⟩
  obtain ⟨T, x, z, e1, e2, e3, e4, e5⟩ := y
  exact ⟨T, x, z, e1, e2, e3, e4 xs q.1, e5 ys q.2⟩
theorem fmod_nat {a b n : Nat} (ha : a < n) (hn : 0 < n) : Int.fmod ((b : Int) - (a : Int)) (n : Int) = (((b + n - a) % n : Nat) : Int) := by
  rw [Int.fmod_eq_emod_of_nonneg _ (by omega), Int.natCast_emod, ← Int.add_emod_right ((b : Int) - (a : Int)) (n : Int)]
  congr 1
  omega
/-- the members in order, against the first one -/
theorem sorted_same {ns : List Int} {c : Nat} {r : List Nat} (hp : ns.Pairwise (· < ·)) (hm : ∀ j, j ∈ ns ↔ j ∈ (c :: r).map fun k : Nat => (k : Int)) :
    ((∀ x ∈ r, x = c) ∧ ns = [(c : Int)]) ∨ ((¬ ∀ x ∈ r, x = c) ∧ 1 < ns.length) := by
  have hc : (c : Int) ∈ ns := (hm _).mpr (List.mem_map.mpr ⟨c, List.mem_cons_self, rfl⟩)
  by_cases h : ∀ x ∈ r, x = c
  · refine .inl ⟨h, ?_⟩
    have all : ∀ j ∈ ns, j = (c : Int) := fun j hj => by
      obtain ⟨k, hk, rfl⟩ := List.mem_map.mp ((hm j).mp hj)
      rcases List.mem_cons.mp hk with e | e
      · rw [e]
      · rw [h k e]
    cases ns with
    | nil => cases hc
    | cons a l =>
      rw [all a List.mem_cons_self]
      cases l with
      | nil => rfl
      | cons b l =>
        have h1 := (List.pairwise_cons.mp hp).1 b List.mem_cons_self
        rw [all a List.mem_cons_self, all b (List.mem_cons_of_mem _ List.mem_cons_self)] at h1
        exact absurd h1 (Int.lt_irrefl _)
  · refine .inr ⟨h, ?_⟩
    obtain ⟨x, hx, hne⟩ : ∃ x, x ∈ r ∧ x ≠ c := by
      by_cases q : ∃ x, x ∈ r ∧ x ≠ c
      · exact q
      · exact absurd (fun x hx => by
          by_cases e : x = c
          · exact e
          · exact absurd ⟨x, hx, e⟩ q) h
    have hxm : (x : Int) ∈ ns := (hm _).mpr (List.mem_map.mpr ⟨x, List.mem_cons_of_mem _ hx, rfl⟩)
    cases ns with
    | nil => cases hc
    | cons a l =>
      cases l with
      | nil =>
        have e1 := List.mem_singleton.mp hc
        have e2 := List.mem_singleton.mp hxm
        omega
      | cons b l => exact Nat.succ_lt_succ (Nat.succ_pos _)
section
variable {P : Program} {w : World} {K : PySem.W.Frag} {mg : Str → Option Value} {base : Heap}
structure TwP (K : PySem.W.Frag) (vs : List V) (H : Hp) (Q : VK) : Prop where
  ex : ∃ (a b : Addr) (n : Nat) (p o : Rm.LN), vs = [.ref a, .ref b] ∧ Two K H a b n p o ∧ ∀ H' v, Stp K H H' → WdV H' v (Rm.turnOf (Rm.diffs n p o)) → Q v H'
def spTW (K : PySem.W.Frag) : Sp := fun vs H Q _ => TwP K vs H Q
abbrev nTW : List Str := ["one", "other", "turns", "here", "there"]
theorem scTW : FnScope nTW ["one", "other"] (defScope s_turning_word) := ⟨rfl, rfl, rfl, by decide +kernel, rfl, by decide +kernel, by decide +kernel⟩
theorem ok_TW (G : Gd K mg base) : FnOk P w K mg base CX0 3 (He.ga K "turning_word") (fdO K "turning_word") ["one", "other"] (spTW K) := by
  have T := G.T
  have GN : FnOk P w K mg base (L2.CX P w) 2 (He.ga K "need_layouts") (fdO K "need_layouts") ["one", "other"] (spNL K) := ok_NL G
  refine T.F_turning_word.ok scTW (fun vs H Q E h => ?_) (fun A outer s H vs Q E hr h => ?_)
  · obtain ⟨a, b, n, p, o, rfl, _⟩ := h.ex
    rfl
  · obtain ⟨a, b, n, p, o, rfl, tw, q⟩ := h.ex
    refine ⟨_, PSs.nox (pss_cons (ps_expr (pe_call GN hr rfl T.g_need_layouts T.F_need_layouts.kp T.b_need_layouts .nil passF (pa_cons (pv 0) (pa_cons (pv 1) pa_nil))))
      (pss_cons (ps_set (i := 2) scTW.nd rfl (.inl rfl) (pe_callB (r := rSortedSet w) (cr_sortedSet rfl) (by rfl) T.z_sorted boot_sorted (pa_cons (pe_callTy (r := rSetL w K) (cr_setL rfl) (by rfl) T.z_set boot_set (pa_cons (pe_lc (own := [("here", 3), ("there", 4)]) (g := gTup K 2 (gCons (gName 3) (gCons (gName 4) gNil))) (tt := tYes) (by rfl) scTW.nd
          (pi_zipA (by rfl) T.z_zip (pa_cons (pv 0) (pa_cons (pv 1) pa_nil))) (blkOk_by (own := [("here", 3), ("there", 4)]) (N := nTW) (sc := defScope s_turning_word) (by decide +kernel))
          (fun _ _ _ _ _ => pg_tup (by rfl) (pgs_cons (pg_name (i := 3) scTW.nd rfl (.inl rfl)) (pgs_cons (pg_name (i := 4) scTW.nd rfl (.inl rfl)) pgs_nil))) (fun _ _ _ _ _ => pts_nil)
          (fun _ _ _ _ _ => pe_op op_modN (pe_op op_sub (pv 4) (pv 3)) (pe_callB (r := rLn K) call_len_seq (by rfl) T.z_len boot_len (pa_cons (pv 0) pa_nil)))) pa_nil)) pa_nil)))
      (pss_cons (ps_if (pt_cmpR op_gt (pe_callB call_len_seq (by rfl) T.z_len boot_len (pa_cons (pv 2) pa_nil)) pe_int (nomark _)) (pss_one (ps_ret pe_non)) pss_nil)
      (pss_one (ps_ret (pe_ifExp (pt_cmpR (op_eqD hr.units) (pv 2) (pe_lst (pa_cons pe_int pa_nil)) (nomark _)) (pe_tup pa_nil) (pe_tup (pa_cons (pe_ix ix_list (pv 2) pe_int (fun _ _ => rfl)) pa_nil)))))))), ?_⟩
    refine ⟨_, rfl, _, rfl, ?_⟩
    refine tw.nl fun H2 S2 => ?_
    have tw2 := tw.step S2
    refine ⟨_, rfl, _, rfl, a, b, _, _, rfl, .inr ⟨.of tw2.a, .of tw2.b, fun D hD => ?_⟩⟩
    have nD : Nt H D := Nt.of S2.1 hD
    have hdl := Rm.diffs_len tw.la tw.lb
    have hn0 := tw.lo
    have hn40 := tw.hi
    refine lc_it (walk_zipT (K := K) (a := a) (b := b) (xs := vI p) (ys := vI o) (n := n) (by rw [vI_length, tw.la.len]) (by rw [vI_length, tw.lb.len])) (fun i H3 => Stp K H H3 ∧ H3 D = some (.lst (vI ((Rm.diffs n p o).take i)))) ⟨S2.trans (Stp.new S2.2 hD), upd_same⟩ (fun i H3 _ z => ⟨.of (z.1.t tw.a), .of (z.1.t tw.b)⟩) ?_ ?_
    · rintro i x H3 H3' hi ⟨S3, hD3⟩ ⟨Tt, x1, x2, rfl, hTn, rfl, e1, e2⟩
      obtain rfl := (vI_get e1).1
      obtain rfl := (vI_get e2).1
      have hpi : p.getD i 0 < n := tw.la.lt _ (Rm.getD_mem (by rw [tw.la.len]; exact hi))
      have S4 := S3.trans (Stp.new (o := .tup [V.int ((p.getD i 0 : Nat) : Int), V.int ((o.getD i 0 : Nat) : Int)]) S3.2 hTn)
      have eT : upd H3 Tt (.tup [V.int ((p.getD i 0 : Nat) : Int), V.int ((o.getD i 0 : Nat) : Int)]) Tt = some (.tup [V.int ((p.getD i 0 : Nat) : Int), V.int ((o.getD i 0 : Nat) : Int)]) := upd_same
      have hD4 : upd H3 Tt (.tup [V.int ((p.getD i 0 : Nat) : Int), V.int ((o.getD i 0 : Nat) : Int)]) D = some (.lst (vI ((Rm.diffs n p o).take i))) := by rw [upd_ne (ne_of_none hD3 hTn)]; exact hD3
      generalize hE : upd H3 Tt (.tup [V.int ((p.getD i 0 : Nat) : Int), V.int ((o.getD i 0 : Nat) : Int)]) = H4 at S4 eT hD4 ⊢
      refine ⟨Tt, _, rfl, .of eT, rfl, _, _, rfl, _, _, rfl, rfl, rfl, ?_⟩
      refine yes_use ?_
      have tw4 := tw.step S4
      refine ⟨_, rfl, _, rfl, _, _, rfl, rfl, _, rfl, a, _, rfl, .inr (.of tw4.a), _, _, rfl, rfl, by rw [vI_length, tw.la.len]; omega, _, hD4, by rw [vI_length, List.length_take, sizeLine_eq]; omega, ?_⟩
      have ev : V.int (Int.fmod (((o.getD i 0 : Nat) : Int) - ((p.getD i 0 : Nat) : Int)) (((vI p).length : Nat) : Int)) = V.int (((Rm.diffs n p o).getD i 0 : Nat) : Int) := by
        rw [vI_length, tw.la.len, Rm.diffs_at tw.la tw.lb hi, fmod_nat hpi (by omega)]
      refine ⟨S4.wr nD hD4, ?_⟩
      rw [upd_same, take_vI' (by rw [hdl]; exact hi)]
      exact congrArg (fun z => some (HO.lst (vI ((Rm.diffs n p o).take i) ++ [z]))) ev
    · rintro H3 ⟨S3, hD3⟩
      rw [List.take_of_length_le (by rw [hdl]; exact Nat.le_refl _)] at hD3
      have hlt : ∀ x ∈ Rm.diffs n p o, x < n := fun x hx => by
        unfold Rm.diffs at hx
        obtain ⟨z, _, rfl⟩ := List.mem_map.mp hx
        exact Nat.mod_lt _ (by omega)
      refine ⟨D, (Rm.diffs n p o).map fun k : Nat => (k : Int), rfl, .of (by rw [← vI_map]; exact hD3), by rw [List.length_map, hdl]; omega, fun ps S m ks hps hnd hmem hlk hS hle => ?_⟩
      rw [List.length_map, hdl] at hle
      refine ⟨ps, S, m, rfl, upd_same, by omega, fun ns p2 hpw hmm hlen hp2 => ?_⟩
      have S5 := (S3.trans (Stp.new (o := SetO w ps S m) S3.2 hps))
      have S6 := S5.trans (Stp.new (o := .lst (ns.map V.int)) S5.2 hp2)
      have e6 : upd (upd H3 ps (SetO w ps S m)) p2 (.lst (ns.map V.int)) p2 = some (.lst (ns.map V.int)) := upd_same
      generalize hE6 : upd (upd H3 ps (SetO w ps S m)) p2 (.lst (ns.map V.int)) = H6 at S6 e6 ⊢
      have hmem2 : ∀ j, j ∈ ns ↔ j ∈ (Rm.diffs n p o).map fun k : Nat => (k : Int) := fun j => (hmm j).trans (hS j)
      cases hds : Rm.diffs n p o with
      | nil => rw [hds] at hdl; exact absurd hdl (by show 0 ≠ n; omega)
      | cons c r =>
        rw [hds] at hmem2 q
        refine ⟨_, rfl, p2, _, rfl, .inl (.of e6), _, _, rfl, rfl, _, rfl, ?_⟩
        rcases sorted_same hpw hmem2 with ⟨hall, rfl⟩ | ⟨hall, h1⟩
        · refine ifF (by rfl) ?_
          have hto : Rm.turnOf (c :: r) = if c = 0 then some [] else some [c] := by
            show (if ∀ x ∈ r, x = c then (if c = 0 then some [] else some [c]) else none) = _
            rw [if_pos hall]
          rw [hto] at q
          have e6' : H6 p2 = some (.lst (vI [c])) := e6
          refine ⟨_, rfl, (by show 1 ≤ sizeLine; decide), fun e he => ?_⟩
          have S7 := S6.trans (Stp.new (o := .lst [V.int 0]) S6.2 he)
          have h7 := (Stp.new (o := .lst [V.int 0]) S6.2 he).l e6'
          have e7 : upd H6 e (.lst [V.int 0]) e = some (.lst (vI [0])) := upd_same
          generalize hE7 : upd H6 e (.lst [V.int 0]) = H7 at S7 h7 e7 ⊢
          refine ⟨.list (dN [c]), .list (dN [0]), .lst (.of h7) (dp_all _), .lst (.of e7) (dp_all _), shp_lst _, shp_lst _, _, rfl, ?_⟩
          by_cases c0 : c = 0
          · refine ifT (by rw [eqv_lst, c0]; rfl) ?_
            rw [if_pos c0] at q
            exact ⟨Nat.zero_le _, fun t ht => q _ _ (S7.trans (Stp.new S7.2 ht)) (.inr ⟨t, [], rfl, rfl, upd_same⟩)⟩
          · refine ifF (by rw [eqv_lst]; exact decide_eq_false fun z => c0 (List.cons.inj z).1) ?_
            rw [if_neg c0] at q
            refine ⟨_, rfl, p2, _, _, _, rfl, rfl, .of h7, atI_nat (j := 0) (v := V.int (c : Int)) rfl, (by show 1 ≤ sizeLine; decide), fun t ht => q _ _ (S7.trans (Stp.new S7.2 ht)) (.inr ⟨t, [c], rfl, rfl, upd_same⟩)⟩
        · refine ifT (decide_eq_true (by rw [List.length_map]; omega)) ?_
          have hto : Rm.turnOf (c :: r) = none := by
            show (if ∀ x ∈ r, x = c then (if c = 0 then some [] else some [c]) else none) = _
            rw [if_neg hall]
          rw [hto] at q
          exact q _ _ S6 (.inl ⟨rfl, rfl⟩)
end
end Rs
set_option maxHeartbeats 8000000
/-! the law's draws -/
namespace Rs
open PySem PySem.Spec PyProof.Rows L2 LamX
def rowV (sa : Addr) (i m c : Int) : HO := .lst [.ref sa, .int i, .int m, .int c]
/-- the row at R: the script at sa -/
def RowAt (H : Hp) (R sa : Addr) : Prop := ∃ i m c : Int, H R = some (rowV sa i m c) ∧ 0 ≤ i ∧ 0 ≤ m ∧ m < 2147483647
structure TkP (K : PySem.W.Frag) (vs : List V) (H : Hp) (Q : VK) : Prop where
  ex : ∃ (R sa : Addr) (ns : List Int) (n : Nat), vs = [.ref R, .int (n : Int)] ∧ RowAt H R sa ∧ SqL K H sa (ns.map V.int) ∧ (sa ≠ R ∨ ∀ H' : Hp, SqL K H' sa (ns.map V.int)) ∧ ns.length ≤ 63 ∧ 1 ≤ n ∧ n ≤ 1000 ∧
    ∀ (i m c : Int) (r : Nat), r < n → 0 ≤ i → 0 ≤ m → m < 2147483647 → Q (.int (r : Int)) (upd H R (rowV sa i m c))
def spTK (K : PySem.W.Frag) : Sp := fun vs H Q _ => TkP K vs H Q
theorem sqL_upd {K : PySem.W.Frag} {H : Hp} {a R : Addr} {xs : List V} {o : HO} (h : SqL K H a xs) (n : a ≠ R ∨ ∀ H' : Hp, SqL K H' a xs) : SqL K (upd H R o) a xs := by
  rcases n with n | n
  rotate_left
  · exact n _
  rcases h with (h | ⟨u, h⟩) | h
  · exact .inl (.inl (by rw [upd_ne n]; exact h))
  · exact .inl (.inr ⟨u, by rw [upd_ne n]; exact h⟩)
  · exact .inr h
theorem fmod_of {x : Int} {n : Nat} (hn : 1 ≤ n) : ∃ r : Nat, Int.fmod x (n : Int) = (r : Int) ∧ r < n := by
  have h1 := Int.fmod_nonneg_of_pos x (show (0 : Int) < (n : Int) by omega)
  have h2 := Int.fmod_lt_of_pos x (show (0 : Int) < (n : Int) by omega)
  exact ⟨(Int.fmod x (n : Int)).toNat, by omega, by omega⟩
section
variable {P : Program} {w : World} {K : PySem.W.Frag} {mg : Str → Option Value} {base : Heap}
abbrev nTK : List Str := ["_law_row", "_law_many", "_law_found", "_law_cell"]
theorem scTK : FnScope nTK ["_law_row", "_law_many"] (defScope s_law_taken) := ⟨rfl, rfl, rfl, by decide +kernel, rfl, by decide +kernel, by decide +kernel⟩
theorem ok_TK (G : Gd K mg base) : FnOk P w K mg base CX0 1 (He.ga K "_law_taken") (fdO K "_law_taken") ["_law_row", "_law_many"] (spTK K) := by
  have T := G.T
  refine T.F_law_taken.ok scTK (fun vs H Q E h => ?_) (fun A outer s H vs Q E hr h => ?_)
  · obtain ⟨R, sa, ns, n, rfl, _⟩ := h.ex
    rfl
  · obtain ⟨R, sa, ns, n, rfl, ⟨i, m, c, hR, hi, hm0, hm1⟩, hS, hne, hl, hn1, hn2, q⟩ := h.ex
    refine ⟨_, PSs.nox (pss_cons (ps_if (pt_cmpR op_gt (pe_ix ix_list (pv 0) pe_int (fun _ _ => rfl)) pe_int (nomark _))
        (pss_cons (ps_set (i := 2) scTK.nd rfl (.inl rfl) (pe_op op_modN (pe_callTy call_int1 (by rfl) T.z_int boot_int (pa_cons (pe_ix ix_list (pv 0) pe_int (fun _ _ => rfl)) pa_nil)) (pv 1)))
        (pss_cons (ps_asg (pe_op op_fdivN (pe_ix ix_list (pv 0) pe_int (fun _ _ => rfl)) (pv 1)) (pg_sub (pv 0) pe_int set_list))
        (pss_one (ps_ret (pv 2))))) pss_nil)
      (pss_cons (ps_asg (pe_op op_add (pe_ix ix_list (pv 0) pe_int (fun _ _ => rfl)) pe_int) (pg_sub (pv 0) pe_int set_list))
      (pss_cons (ps_if (pt_cmpR op_gt (pe_ix ix_list (pv 0) pe_int (fun _ _ => rfl)) (pe_callB call_len_seq (by rfl) T.z_len boot_len (pa_cons (pe_ix ix_list (pv 0) pe_int (fun _ _ => rfl)) pa_nil)) (nomark _))
        (pss_cons (ps_asg (pe_op op_modN (pe_callTy call_int1 (by rfl) T.z_int boot_int (pa_cons (pe_op op_add (pe_op op_mul (pe_ix ix_list (pv 0) pe_int (fun _ _ => rfl)) pe_int) pe_int) pa_nil)) pe_int) (pg_sub (pv 0) pe_int set_list))
        (pss_one (ps_ret (pe_op op_modN (pe_callTy call_int1 (by rfl) T.z_int boot_int (pa_cons (pe_op op_fdivN (pe_ix ix_list (pv 0) pe_int (fun _ _ => rfl)) pe_int) pa_nil)) (pv 1))))) pss_nil)
      (pss_cons (ps_set (i := 3) scTK.nd rfl (.inl rfl) (pe_ix ix_list (pe_ix ix_list (pv 0) pe_int (fun _ _ => rfl)) (pe_op op_sub (pe_ix ix_list (pv 0) pe_int (fun _ _ => rfl)) pe_int) (fun _ _ => rfl)))
      (pss_cons (ps_asg (pe_op op_modN (pe_callTy call_int1 (by rfl) T.z_int boot_int (pa_cons (pe_op op_add (pe_op op_add (pe_op op_mul (pe_ix ix_list (pv 0) pe_int (fun _ _ => rfl)) pe_int) (pv 3)) pe_int) pa_nil)) pe_int) (pg_sub (pv 0) pe_int set_list))
      (pss_cons (ps_if (pt_cmpR op_ge (pv 3) (pe_op op_pow pe_int pe_int) (nomark _)) (pss_one (ps_asg (pe_op op_fdivN (pv 3) (pv 1)) (pg_sub (pv 0) pe_int set_list))) pss_nil)
      (pss_one (ps_ret (pe_op op_modN (pe_callTy call_int1 (by rfl) T.z_int boot_int (pa_cons (pv 3) pa_nil)) (pv 1)))))))))), ?_⟩
    have hR' : H R = some (.lst [.ref sa, .int i, .int m, .int c]) := hR
    have pr : ∀ x : Int, 0 ≤ Int.fmod x 2147483647 ∧ Int.fmod x 2147483647 < 2147483647 := fun x => ⟨Int.fmod_nonneg_of_pos x (by decide), Int.fmod_lt_of_pos x (by decide)⟩
    refine ⟨_, rfl, R, _, _, _, rfl, rfl, .of hR', atI_nat (j := 3) rfl, _, _, rfl, rfl, _, rfl, ?_⟩
    by_cases c0 : 0 < c
    · refine ifT (decide_eq_true c0) ?_
      obtain ⟨r, er, hr1⟩ := fmod_of (x := c) hn1
      refine ⟨_, rfl, R, _, _, _, rfl, rfl, .of hR', atI_nat (j := 3) rfl, .inl ⟨_, rfl, _, rfl, _, _, rfl, rfl, by omega, ?_⟩⟩
      refine ⟨_, rfl, R, _, _, _, rfl, rfl, .of hR', atI_nat (j := 3) rfl, _, rfl, _, _, rfl, rfl, ⟨by omega, by omega⟩, _, rfl, R, _, _, 3, rfl, rfl, hR', ixN_of rfl (by show 3 < 4; decide), ?_⟩
      refine ⟨_, rfl, ?_⟩
      show Q (V.int (Int.fmod c (n : Int))) _
      rw [er]
      exact q i m _ r hr1 hi hm0 hm1
    · refine ifF (decide_eq_false c0) ?_
      refine ⟨_, rfl, R, _, _, _, rfl, rfl, .of hR', atI_nat (j := 1) rfl, _, _, rfl, rfl, _, rfl, R, _, _, 1, rfl, rfl, hR', ixN_of rfl (by show 1 < 4; decide), ?_⟩
      have hR2 : upd H R (rowV sa (i + 1) m c) R = some (.lst [.ref sa, .int (i + 1), .int m, .int c]) := upd_same
      have hS2 : SqL K (upd H R (rowV sa (i + 1) m c)) sa (ns.map V.int) := sqL_upd hS hne
      refine ⟨_, rfl, R, _, _, _, rfl, rfl, .of hR2, atI_nat (j := 1) rfl, _, rfl, R, _, _, _, rfl, rfl, .of hR2, atI_nat (j := 0) rfl, sa, _, rfl, .inl hS2, _, _, rfl, rfl, _, rfl, ?_⟩
      by_cases c1 : (((ns.map V.int).length : Nat) : Int) < i + 1
      · refine ifT (decide_eq_true c1) ?_
        refine ⟨_, rfl, R, _, _, _, rfl, rfl, .of hR2, atI_nat (j := 2) rfl, _, _, rfl, rfl, .inl ⟨by omega, by omega⟩, _, _, rfl, rfl, .inl ⟨_, rfl, _, _, rfl, rfl, (by show (2147483647 : Int) ≠ 0; decide), _, rfl, R, _, _, 2, rfl, rfl, hR2, ixN_of rfl (by show 2 < 4; decide), ?_⟩⟩
        rw [upd_upd]
        obtain ⟨p1, p2⟩ := pr (m * 48271 + 11)
        have hR3 : upd H R (rowV sa (i + 1) (Int.fmod (m * 48271 + 11) 2147483647) c) R = some (.lst [.ref sa, .int (i + 1), .int (Int.fmod (m * 48271 + 11) 2147483647), .int c]) := upd_same
        refine ⟨_, rfl, R, _, _, _, rfl, rfl, .of hR3, atI_nat (j := 2) rfl, _, _, rfl, rfl, ⟨by decide, by decide⟩, .inl ⟨_, rfl, _, rfl, _, _, rfl, rfl, by omega, ?_⟩⟩
        obtain ⟨r, er, hr1⟩ := fmod_of (x := Int.fdiv (Int.fmod (m * 48271 + 11) 2147483647) 7) hn1
        show Q (V.int (Int.fmod (Int.fdiv (Int.fmod (m * 48271 + 11) 2147483647) 7) (n : Int))) _
        rw [er]
        exact q (i + 1) _ c r hr1 (by omega) p1 p2
      · refine ifF (decide_eq_false c1) ?_
        rw [List.length_map] at c1
        have hj : i.toNat < ns.length := by omega
        obtain ⟨v, hv⟩ : ∃ v, ns[i.toNat]? = some v := ⟨_, List.getElem?_eq_getElem hj⟩
        refine ⟨_, rfl, R, _, _, _, rfl, rfl, .of hR2, atI_nat (j := 0) rfl, _, rfl, R, _, _, _, rfl, rfl, .of hR2, atI_nat (j := 1) rfl, _, _, rfl, rfl, sa, _, _, V.int v, rfl, rfl, hS2, at_of (j := i.toNat) (by omega) (by rw [List.getElem?_map, hv]; rfl), ?_⟩
        refine ⟨_, rfl, R, _, _, _, rfl, rfl, .of hR2, atI_nat (j := 2) rfl, _, _, rfl, rfl, .inl ⟨by omega, by omega⟩, _, rfl, _, _, rfl, rfl, _, _, rfl, rfl, .inl ⟨_, rfl, _, _, rfl, rfl, (by show (2147483647 : Int) ≠ 0; decide), _, rfl, R, _, _, 2, rfl, rfl, hR2, ixN_of rfl (by show 2 < 4; decide), ?_⟩⟩
        rw [upd_upd]
        obtain ⟨p1, p2⟩ := pr (m * 48271 + v + 11)
        have hR3 : upd H R (rowV sa (i + 1) (Int.fmod (m * 48271 + v + 11) 2147483647) c) R = some (.lst [.ref sa, .int (i + 1), .int (Int.fmod (m * 48271 + v + 11) 2147483647), .int c]) := upd_same
        obtain ⟨r, er, hr1⟩ := fmod_of (x := v) hn1
        refine ⟨_, rfl, _, _, rfl, rfl, ⟨by decide, by decide, by decide⟩, _, _, rfl, rfl, _, rfl, ?_⟩
        refine ite2 (fun _ => ?_) fun _ => ?_
        · refine ⟨_, rfl, _, rfl, _, _, rfl, rfl, ⟨by omega, by omega⟩, _, rfl, R, _, _, 3, rfl, rfl, hR3, ixN_of rfl (by show 3 < 4; decide), ?_⟩
          rw [upd_upd]
          refine ⟨_, rfl, .inl ⟨_, rfl, _, rfl, _, _, rfl, rfl, by omega, ?_⟩⟩
          show Q (V.int (Int.fmod v (n : Int))) _
          rw [er]
          exact q (i + 1) _ _ r hr1 (by omega) p1 p2
        · refine ⟨_, rfl, .inl ⟨_, rfl, _, rfl, _, _, rfl, rfl, by omega, ?_⟩⟩
          show Q (V.int (Int.fmod v (n : Int))) _
          rw [er]
          exact q (i + 1) _ c r hr1 (by omega) p1 p2
end
end Rs
set_option maxHeartbeats 8000000
/-! the law's picks and permutations -/
namespace Rs
open PySem PySem.Spec PyProof.Rows L2 LamX
/-- all but the tables and the row stay -/
def ExtR (R : Addr) (H H' : Hp) : Prop := ∀ b o, b ≠ R → H b = some o → (∀ ps, o ≠ .tbl ps) → H' b = some o
theorem ExtR.refl {R : Addr} (H : Hp) : ExtR R H H := fun _ _ _ e _ => e
theorem ExtR.trans {R : Addr} {H H1 H2 : Hp} (a : ExtR R H H1) (b : ExtR R H1 H2) : ExtR R H H2 := fun c o n e t => b c o n (a c o n e t) t
theorem ExtR.of {R : Addr} {H H' : Hp} (e : ExtN H H') : ExtR R H H' := fun b o _ h t => e b o h t
theorem ExtR.upd {R : Addr} {H : Hp} {o : HO} : ExtR R H (upd H R o) := fun b u n e _ => by rw [upd_ne n]; exact e
/-- the state of the draws -/
structure Dr (K : PySem.W.Frag) (R sa : Addr) (ns : List Int) (H : Hp) : Prop where
  row : RowAt H R sa
  scr : SqL K H sa (ns.map V.int)
  ne : sa ≠ R ∨ ∀ H' : Hp, SqL K H' sa (ns.map V.int)
  len : ns.length ≤ 63
  tb : Tb K H
theorem sqL_ext {K : PySem.W.Frag} {R : Addr} {H H' : Hp} {a : Addr} {xs : List V} (h : SqL K H a xs) (n : a ≠ R ∨ ∀ H' : Hp, SqL K H' a xs) (e : ExtR R H H') : SqL K H' a xs := by
  rcases n with n | n
  rotate_left
  · exact n _
  rcases h with (h | ⟨u, h⟩) | h
  · exact .inl (.inl (e _ _ n h fun ps z => by cases z))
  · exact .inl (.inr ⟨u, e _ _ n h fun ps z => by cases z⟩)
  · exact .inr h
theorem Dr.step {K : PySem.W.Frag} {R sa : Addr} {ns : List Int} {H H' : Hp} (d : Dr K R sa ns H) (s : Stp K H H') : Dr K R sa ns H' := by
  obtain ⟨i, m, c, h, r⟩ := d.row
  exact ⟨⟨i, m, c, s.1 _ _ h (fun ps z => by cases z), r⟩, sqL_ext d.scr d.ne (ExtR.of s.1), d.ne, d.len, s.2⟩
theorem Dr.put {K : PySem.W.Frag} {R sa : Addr} {ns : List Int} {H : Hp} (d : Dr K R sa ns H) {i m c : Int} (hi : 0 ≤ i) (h0 : 0 ≤ m) (h1 : m < 2147483647) : Dr K R sa ns (upd H R (rowV sa i m c)) := by
  obtain ⟨i', m', c', h, r⟩ := d.row
  exact ⟨⟨i, m, c, upd_same, hi, h0, h1⟩, sqL_upd d.scr d.ne, d.ne, d.len, d.tb.wr h (fun ps z => by cases z) (fun φ z => by cases z)⟩
theorem sq_or {K : PySem.W.Frag} {H : Hp} {a b : Addr} {xs : List V} (h : SqL K H a xs) (hb : H b = none) : a ≠ b ∨ ∀ H', SqL K H' a xs := by
  rcases h with (h | ⟨u, h⟩) | h
  · exact .inl (ne_of_none h hb)
  · exact .inl (ne_of_none h hb)
  · exact .inr fun _ => .inr h
/-- an other list written -/
theorem Dr.wr {K : PySem.W.Frag} {R sa b : Addr} {ns : List Int} {H : Hp} {xs ys : List V} (d : Dr K R sa ns H) (hb : H b = some (.lst xs)) (n1 : b ≠ R) (n2 : sa ≠ b ∨ ∀ H', SqL K H' sa (ns.map V.int)) : Dr K R sa ns (upd H b (.lst ys)) := by
  obtain ⟨i', m', c', h, r⟩ := d.row
  refine ⟨⟨i', m', c', by rw [upd_ne n1.symm]; exact h, r⟩, ?_, d.ne, d.len, d.tb.wr hb (fun ps z => by cases z) (fun φ z => by cases z)⟩
  exact sqL_upd d.scr n2
/-- a draw -/
theorem Dr.tk {K : PySem.W.Frag} {R sa : Addr} {ns : List Int} {H : Hp} {n : Nat} {Q : VK} (d : Dr K R sa ns H) (h1 : 1 ≤ n) (h2 : n ≤ 1000) (q : ∀ (H' : Hp) (r : Nat), r < n → Dr K R sa ns H' → (∀ b, b ≠ R → H' b = H b) → Q (.int (r : Int)) H') : TkP K [.ref R, .int (n : Int)] H Q :=
  ⟨⟨R, sa, ns, n, rfl, d.row, d.scr, d.ne, d.len, h1, h2, fun i m c r hr hi h0 h1' => q _ r hr (d.put hi h0 h1') fun b hb => upd_ne hb⟩⟩
theorem del_perm {α : Type} : ∀ {l : List α} {r : Nat} (h : r < l.length), (l[r] :: l.eraseIdx r).Perm l
  | x :: l, 0, _ => List.Perm.refl _
  | x :: l, r + 1, h => (List.Perm.swap _ _ _).trans ((del_perm (l := l) (r := r) (Nat.lt_of_succ_lt_succ h)).cons x)
section
variable {P : Program} {w : World} {K : PySem.W.Frag} {mg : Str → Option Value} {base : Heap}
/-! ### _law_pick -/
structure PkP (K : PySem.W.Frag) (vs : List V) (H : Hp) (Q : VK) : Prop where
  ex : ∃ (R sa l : Addr) (ns : List Int) (xs : List V), vs = [.ref R, .ref l] ∧ Dr K R sa ns H ∧ H l = some (.lst xs) ∧ l ≠ R ∧ 1 ≤ xs.length ∧ xs.length ≤ 1000 ∧
    ∀ (H' : Hp) (v : V), v ∈ xs → Dr K R sa ns H' → (∀ b, b ≠ R → H' b = H b) → Q v H'
def spPK (K : PySem.W.Frag) : Sp := fun vs H Q _ => PkP K vs H Q
theorem scPK : FnScope ["_law_row", "_law_things"] ["_law_row", "_law_things"] (defScope s_law_pick) := ⟨rfl, rfl, rfl, by decide +kernel, rfl, by decide +kernel, by decide +kernel⟩
theorem ok_PK (G : Gd K mg base) : FnOk P w K mg base CX0 2 (He.ga K "_law_pick") (fdO K "_law_pick") ["_law_row", "_law_things"] (spPK K) := by
  have T := G.T
  have GT : FnOk P w K mg base CX0 1 (He.ga K "_law_taken") (fdO K "_law_taken") ["_law_row", "_law_many"] (spTK K) := ok_TK G
  refine T.F_law_pick.ok scPK (fun vs H Q E h => ?_) (fun A outer s H vs Q E hr h => ?_)
  · obtain ⟨R, sa, l, ns, xs, rfl, _⟩ := h.ex
    rfl
  · obtain ⟨R, sa, l, ns, xs, rfl, d, hl, nl, h1, h2, q⟩ := h.ex
    refine ⟨_, PSs.nox (pss_one (ps_ret (pe_ix ix_list (pv 1) (pe_call GT hr rfl T.g_law_taken T.F_law_taken.kp T.b_law_taken .nil pass0 (pa_cons (pv 0) (pa_cons (pe_callB call_len_seq (by rfl) T.z_len boot_len (pa_cons (pv 1) pa_nil)) pa_nil))) (fun _ _ => rfl)))), ?_⟩
    refine ⟨_, rfl, _, rfl, _, rfl, l, _, rfl, .inl (.of hl), ?_⟩
    refine d.tk h1 h2 fun H2 r hr1 d2 hk => ?_
    have hl2 : H2 l = some (.lst xs) := by rw [hk l nl]; exact hl
    exact ⟨l, _, _, xs[r], rfl, rfl, .of hl2, atI_nat (List.getElem?_eq_getElem hr1), q H2 _ (List.getElem_mem hr1) d2 hk⟩
/-! ### _law_permutation -/
structure LpP (K : PySem.W.Frag) (vs : List V) (H : Hp) (Q : VK) : Prop where
  ex : ∃ (R sa : Addr) (ns : List Int) (n : Nat), vs = [.ref R, .int (n : Int)] ∧ Dr K R sa ns H ∧ 1 ≤ n ∧ n ≤ 40 ∧
    ∀ (H' : Hp) (a : Addr) (p : Rm.LN), Dr K R sa ns H' → ExtR R H H' → Rm.Lay n p → H' a = some (vT p) → Q (.ref a) H'
def spLP (K : PySem.W.Frag) : Sp := fun vs H Q _ => LpP K vs H Q
theorem lay_of_perm {n : Nat} {p : List Nat} (h : p.Perm (List.range n)) : Rm.Lay n p := Rm.lay_perm (Rm.lay_range n) h
abbrev nLP : List Str := ["_law_row", "_law_many", "_law_left", "_law_found", "_law_turn"]
theorem scLP : FnScope nLP ["_law_row", "_law_many"] (defScope s_law_permutation) := ⟨rfl, rfl, rfl, by decide +kernel, rfl, by decide +kernel, by decide +kernel⟩
theorem ok_LP (G : Gd K mg base) : FnOk P w K mg base CX0 2 (He.ga K "_law_permutation") (fdO K "_law_permutation") ["_law_row", "_law_many"] (spLP K) := by
  have T := G.T
  have GT : FnOk P w K mg base CX0 1 (He.ga K "_law_taken") (fdO K "_law_taken") ["_law_row", "_law_many"] (spTK K) := ok_TK G
  refine T.F_law_permutation.ok scLP (fun vs H Q E h => ?_) (fun A outer s H vs Q E hr h => ?_)
  · obtain ⟨R, sa, ns, n, rfl, _⟩ := h.ex
    rfl
  · obtain ⟨R, sa, ns, n, rfl, d, h1, h2, q⟩ := h.ex
    refine ⟨_, PSs.nox (pss_cons (ps_par (i := 2) (j := 3) rfl scLP.nd rfl rfl (by decide) rfl rfl (pa_cons (pe_listRg rfl (by rfl) T.z_list (prg_1 (by rfl) T.z_range (pv 1))) (pa_cons (pe_lst pa_nil) pa_nil)) (by rfl))
      (pss_cons (ps_for PassesOwn.never rfl (pi_range1 (by rfl) T.z_range (pa_cons (pv 1) pa_nil)) (pg_name (i := 4) scLP.nd rfl (.inl rfl))
        (pss_one (ps_expr (pe_bm PySem.F.plainAttrs_list PySem.F.slot_list_append PySem.F.type_list_append mt_append (pv 3) (pa_cons (pe_bm PySem.F.plainAttrs_list PySem.F.slot_list_pop PySem.F.type_list_pop mt_popAt (pv 2)
          (pa_cons (pe_call GT hr rfl T.g_law_taken T.F_law_taken.kp T.b_law_taken .nil pass0 (pa_cons (pv 0) (pa_cons (pe_callB call_len_seq (by rfl) T.z_len boot_len (pa_cons (pv 2) pa_nil)) pa_nil))) pa_nil)) pa_nil)))))
      (pss_one (ps_ret (pe_tupleOf (by rfl) T.z_tuple (pv 3)))))), ?_⟩
    have row0 : rgV 0 (n : Int) = vI (List.range n) := by
      have e := rg_nat 0 n
      refine e.trans (congrArg vI ?_)
      conv => rhs; rw [← List.map_id (List.range n)]
      exact List.map_congr_left fun i _ => Nat.zero_add i
    refine ⟨_, rfl, (n : Int), rfl, RgOk.of_le (by omega) (by omega) (by omega) (by omega), fun L hL => ?_⟩
    rw [row0]
    have S1 := Stp.new (o := .lst (vI (List.range n))) d.tb hL
    have d1 := d.step S1
    have e1 : upd H L (.lst (vI (List.range n))) L = some (.lst (vI (List.range n))) := upd_same
    obtain ⟨ri, rm, rc, hRw, _⟩ := d.row
    have nLR : L ≠ R := (ne_of_none hRw hL).symm
    generalize hE1 : upd H L (.lst (vI (List.range n))) = H1 at S1 d1 e1 ⊢
    refine ⟨Nat.zero_le _, fun F hF => ⟨_, _, rfl, ?_⟩⟩
    have nFH : H F = none := by
      cases e : H F with
      | none => rfl
      | some u =>
        by_cases c : ∃ ps, u = HO.tbl ps
        · obtain ⟨ps, rfl⟩ := c
          have : H1 F = some (.tbl ps) := by
            rw [← hE1, upd_ne (fun z => by rw [z, hL] at e; cases e)]
            exact e
          rw [hF] at this
          cases this
        · have := S1.1 F u e fun ps z => c ⟨ps, z⟩
          rw [hF] at this
          cases this
    have S2 := Stp.new (o := .lst []) d1.tb hF
    have d2 := d1.step S2
    have e2 : upd H1 F (.lst []) F = some (.lst (vI [])) := upd_same
    have e12 := S2.l e1
    have nFL : F ≠ L := (ne_of_none e1 hF).symm
    obtain ⟨ri2, rm2, rc2, hRw1, _⟩ := d1.row
    have nFR : F ≠ R := (ne_of_none hRw1 hF).symm
    have oL := sq_or d.scr hL
    have oF := sq_or d.scr nFH
    generalize hE2 : upd H1 F (.lst []) = H2 at S2 d2 e2 e12 ⊢
    have X2 : ExtR R H H2 := ExtR.of (S1.trans S2).1
    refine ⟨_, rfl, (n : Int), rfl, by omega, by omega, ?_⟩
    refine for_it (walk_range (lo := 0) (n := n)) (fun i σ H3 => Dr K R sa ns H3 ∧ ExtR R H H3 ∧ ∃ (lv fv : List Nat) (v4 : Option V), σ = [some (.ref R), some (.int (n : Int)), some (.ref L), some (.ref F), v4] ∧ H3 L = some (.lst (vI lv)) ∧ H3 F = some (.lst (vI fv)) ∧ (fv ++ lv).Perm (List.range n) ∧ fv.length = i)
      ⟨d2, X2, List.range n, [], none, rfl, e12, e2, List.Perm.refl _, rfl⟩ (fun _ _ _ _ _ => trivial) ?_ ?_
    · rintro i x σ H0 H3 hi ⟨d3, X3, lv, fv, v4, rfl, hL3, hF3, pm, hfl⟩ ⟨rfl, rfl⟩
      have hpl := pm.length_eq
      rw [List.length_append, List.length_range] at hpl
      refine ⟨_, rfl, .inl ⟨rfl, _, .of hF3⟩, _, rfl, .inl ⟨rfl, _, .of hL3⟩, _, rfl, _, rfl, L, _, rfl, .inl (.of hL3), ?_⟩
      rw [vI_length]
      refine d3.tk (by omega) (by omega) fun H4 r hr1 d4 hk => ?_
      have hL4 : H4 L = some (.lst (vI lv)) := by rw [hk L nLR]; exact hL3
      have hF4 : H4 F = some (.lst (vI fv)) := by rw [hk F nFR]; exact hF3
      have X4 : ExtR R H H4 := X3.trans fun b o n e t => by rw [hk b n]; exact e
      refine ⟨L, _, _, r, _, rfl, rfl, hL4, by omega, by omega, seqIndex_of (by omega) (by rw [vI_length]; omega), vI_at hr1, ?_⟩
      have ee : (vI lv).eraseIdx r = vI (lv.eraseIdx r) := (map_del _ lv r).symm
      rw [ee]
      have d5 := d4.wr (ys := vI (lv.eraseIdx r)) hL4 nLR oL
      have X5 : ExtR R H (upd H4 L (.lst (vI (lv.eraseIdx r)))) := fun b o n e t => by
        rw [upd_ne (ne_of_none e hL)]
        exact X4 b o n e t
      have hL5 : upd H4 L (.lst (vI (lv.eraseIdx r))) L = some (.lst (vI (lv.eraseIdx r))) := upd_same
      have hF5 : upd H4 L (.lst (vI (lv.eraseIdx r))) F = some (.lst (vI fv)) := by rw [upd_ne nFL]; exact hF4
      generalize hE5 : upd H4 L (.lst (vI (lv.eraseIdx r))) = H5 at d5 X5 hL5 hF5 ⊢
      refine ⟨F, _, _, rfl, rfl, hF5, by rw [vI_length, sizeLine_eq]; omega, ?_⟩
      rw [vI_snoc]
      refine ⟨d5.wr hF5 nFR oF, fun b o n e t => ?_, lv.eraseIdx r, fv ++ [lv.getD r 0], _, rfl, by rw [upd_ne nFL.symm]; exact hL5, upd_same, ?_, by rw [List.length_append, hfl]; rfl⟩
      · rw [upd_ne (ne_of_none e nFH)]
        exact X5 b o n e t
      · refine List.Perm.trans ?_ pm
        rw [List.append_assoc]
        refine List.Perm.append_left fv ?_
        have hg : lv.getD r 0 = lv[r] := by rw [List.getD_eq_getElem?_getD, List.getElem?_eq_getElem hr1]; rfl
        rw [hg]
        exact del_perm hr1
    · rintro σ H3 ⟨d3, X3, lv, fv, v4, rfl, hL3, hF3, pm, hfl⟩
      have hpl := pm.length_eq
      rw [List.length_append, List.length_range] at hpl
      have e : lv = [] := List.length_eq_zero_iff.mp (by omega)
      rw [e, List.append_nil] at pm
      exact ⟨_, rfl, .inl ⟨F, _, rfl, .of hF3, fun r hr2 => q _ r fv (d3.step (Stp.new d3.tb hr2)) (X3.trans (ExtR.of (Stp.new d3.tb hr2).1)) (lay_of_perm pm) upd_same⟩⟩
end
end Rs
set_option maxHeartbeats 8000000
/-! the law's own end and its own shelf to the front -/
namespace Rs
open PySem PySem.Spec PyProof.Rows L2 LamX
/-- ints as names, sorted by a layout -/
theorem sort_names {e : Rm.LN} {ns : List Int} {p : Rm.LN} (h1 : ns.Perm (e.map fun k : Nat => (k : Int))) (h2 : ns.Pairwise fun x y => keyOf p x ≤ keyOf p y) : ∃ l : Rm.LN, ns.map V.int = vI l ∧ l.Perm e ∧ l.Pairwise fun a b => p.getD a 0 ≤ p.getD b 0 := by
  obtain ⟨l, rfl⟩ := ints_nat (ns := ns) fun z hz => by
    obtain ⟨k, _, rfl⟩ := List.mem_map.mp (h1.mem_iff.mp hz)
    omega
  exact ⟨l, (vI_map l).symm, perm_cast h1, pw_cast h2⟩
section
variable {P : Program} {w : World} {K : PySem.W.Frag} {mg : Str → Option Value} {base : Heap}
/-! ### _law_end -/
structure LeP (K : PySem.W.Frag) (vs : List V) (H : Hp) (Q : VK) : Prop where
  ex : ∃ (a b : Addr) (n : Nat) (p o : Rm.LN), vs = [.ref a, .ref b] ∧ Two K H a b n p o ∧ ∀ H' q, Stp K H H' → H' q = some (vT (Rm.kept p o)) → Q (.ref q) H'
def spLE (K : PySem.W.Frag) : Sp := fun vs H Q _ => LeP K vs H Q
abbrev nLE : List Str := ["_law_one", "_law_other", "_law_many", "_law_names", "_law_size", "_law_end_here"]
theorem scLE : FnScope nLE ["_law_one", "_law_other"] (defScope s_law_end) := ⟨rfl, rfl, rfl, by decide +kernel, rfl, by decide +kernel, by decide +kernel⟩
theorem ok_LE (G : Gd K mg base) : FnOk P w K mg base CX0 1 (He.ga K "_law_end") (fdO K "_law_end") ["_law_one", "_law_other"] (spLE K) := by
  have T := G.T
  refine T.F_law_end.ok scLE (fun vs H Q E h => ?_) (fun A outer s H vs Q E hr h => ?_)
  · obtain ⟨a, b, n, p, o, rfl, _⟩ := h.ex
    rfl
  · obtain ⟨a, b, n, p, o, rfl, tw, q⟩ := h.ex
    refine ⟨_, PSs.nox (pss_cons (ps_set (i := 2) scLE.nd rfl (.inl rfl) (pe_callB call_len_seq (by rfl) T.z_len boot_len (pa_cons (pv 0) pa_nil)))
      (pss_cons (ps_set (i := 3) scLE.nd rfl (.inl rfl) (pe_sortK (i := 1) (x := "_law_name") (t := "_law_other") hr (by rfl) T.z_sorted (pcol_rg rfl (prg_1 (by rfl) T.z_range (pv 2))) (G.B "_law_end" (by decide)) rfl
        (lamK_by (sc := defScope s_law_end) (by decide +kernel)) rfl (.inr (.inl rfl)) rfl rfl (fun _ _ _ _ _ _ => by rfl)))
      (pss_cons (ps_for PassesOwn.never rfl (pi_range3 (by rfl) T.z_range (pa_cons (pv 2) (pa_cons pe_int (pa_cons (pe_op op_sub pe_int pe_int) pa_nil)))) (pg_name (i := 4) scLE.nd rfl (.inl rfl))
        (pss_cons (ps_set (i := 5) scLE.nd rfl (.inl rfl) (pe_slice sl_list (pv 3) (po_some (pe_op op_sub (pv 2) (pv 4))) po_none))
        (pss_one (ps_if (pt_cmpR (op_eqD hr.units) (pe_sortK (i := 0) (x := "_law_book") (t := "_law_one") hr (by rfl) T.z_sorted (pcol_list (pv 5)) (G.B "_law_end" (by decide)) rfl
            (lamK_by (sc := defScope s_law_end) (by decide +kernel)) rfl (.inr (.inl rfl)) rfl rfl (fun _ _ _ _ _ _ => by rfl)) (pv 5) (nomark _))
          (pss_one (ps_ret (pe_tupleOf (by rfl) T.z_tuple (pv 5)))) pss_nil))))
      (pss_one (ps_ret (pe_tup pa_nil)))))), ?_⟩
    have hn40 := tw.hi
    refine ⟨_, rfl, a, _, rfl, .inr (.of tw.a), ?_⟩
    refine ⟨_, rfl, _, rfl, n, rfl, by rw [vI_length, tw.la.len], by omega, tabS_has tw.tb.le, b, o, rfl, .of tw.b, ?_, ?_, tw.tb.le, fun H2 p2 ns' bp tb hp2 pm pw => ?_⟩
    · unfold rgI
      rw [List.length_map, List.length_range]
      omega
    · intro z hz
      obtain ⟨k, hk, rfl⟩ := List.mem_map.mp hz
      have := List.mem_range.mp hk
      rw [tw.lb.len]
      omega
    rw [sort_is tw.lb pm pw, vI_length, tw.la.len]
    have S2 := stp_le T tw.tb bp tb
    have S3 := S2.trans (Stp.new (o := .lst (vI (Rm.inv o))) S2.2 hp2)
    have e3 : upd H2 p2 (.lst (vI (Rm.inv o))) p2 = some (.lst (vI (Rm.inv o))) := upd_same
    generalize hE3 : upd H2 p2 (.lst (vI (Rm.inv o))) = H3 at S3 e3 ⊢
    refine ⟨_, rfl, _, _, rfl, rfl, (n : Int), 0, -1, n, rfl, ?_, ?_⟩
    · have := RgC.neg (i := (n : Int)) (j := 0) (by omega) (by omega) (by omega) (by omega)
      rw [show (((n : Int)) - 0).toNat = n by omega] at this
      exact this
    have hend := Rm.lawEnd tw.la tw.lb
    have Lo := Rm.inv_lay tw.lb
    refine for_it (walk_rangeC (lo := (n : Int)) (c := -1) (n := n)) (fun i σ H4 => Stp K H H4 ∧ ∃ v4 v5 : Option V, σ = [some (.ref a), some (.ref b), some (.int (n : Int)), some (.ref p2), v4, v5] ∧ H4 p2 = some (.lst (vI (Rm.inv o))) ∧ Rm.endGo (fun x => p.getD x 0) (Rm.inv o) (n - i) = Rm.kept p o)
      ⟨S3, none, none, rfl, e3, hend⟩ (fun _ _ _ _ _ => trivial) ?_ ?_
    · rintro i x σ H0 H4 hi ⟨S4, v4, v5, rfl, hN, hg⟩ ⟨rfl, rfl⟩
      have e0 : (fun i : Nat => V.int ((n : Int) + (i : Nat) * (-1))) i = V.int ((n - i : Nat) : Int) := by
        show V.int ((n : Int) + ((i : Nat) : Int) * (-1)) = _
        congr 1
        omega
      rw [e0]
      have hs : n - i = (n - (i + 1)) + 1 := by omega
      rw [hs] at hg
      have hg2 : (if Rm.Inc (fun x => p.getD x 0) ((Rm.inv o).drop ((Rm.inv o).length - (n - (i + 1) + 1))) then (Rm.inv o).drop ((Rm.inv o).length - (n - (i + 1) + 1)) else Rm.endGo (fun x => p.getD x 0) (Rm.inv o) (n - (i + 1))) = Rm.kept p o := hg
      have hd : (Rm.inv o).length - (n - (i + 1) + 1) = i := by rw [Lo.len]; omega
      rw [hd] at hg2
      refine ⟨_, rfl, _, rfl, _, rfl, _, _, rfl, rfl, _, rfl, p2, _, rfl, .of hN, fun sl hsl => ?_⟩
      have ec : cutV (vI (Rm.inv o)) (some ((n : Int) - ((n - i : Nat) : Int))) none = vI ((Rm.inv o).drop i) := by
        rw [← cut_from, show (n : Int) - ((n - i : Nat) : Int) = ((i : Nat) : Int) by omega]
      rw [ec]
      have htl : ((Rm.inv o).drop i).length ≤ 40 := by rw [List.length_drop, Lo.len]; omega
      have htm : ∀ y ∈ (Rm.inv o).drop i, y < n := fun y hy => Lo.lt y (List.mem_of_mem_drop hy)
      have htn : ((Rm.inv o).drop i).Nodup := (List.drop_sublist i _).nodup Lo.nd
      generalize hT : (Rm.inv o).drop i = tl at htl htm htn hg2 ⊢
      have S5 := S4.trans (Stp.new (o := .lst (vI tl)) S4.2 hsl)
      have T5 := Stp.new (o := .lst (vI tl)) S4.2 hsl
      have e5 : upd H4 sl (.lst (vI tl)) sl = some (.lst (vI tl)) := upd_same
      have hN5 := T5.l hN
      generalize hE5 : upd H4 sl (.lst (vI tl)) = H5 at S5 e5 hN5 ⊢
      refine ⟨_, rfl, sl, tl.map fun k : Nat => (k : Int), rfl, .of (by rw [← vI_map]; exact e5), by rw [List.length_map]; omega, tabS_has S5.2.le, a, p, rfl, .of (S5.t tw.a), by rw [List.length_map]; omega, ?_, S5.2.le, fun H6 p3 ns3 bp3 tb3 hp3 pm3 pw3 => ?_⟩
      · intro z hz
        obtain ⟨k, hk, rfl⟩ := List.mem_map.mp hz
        have := htm k hk
        rw [tw.la.len]
        omega
      obtain ⟨l, el, pl, wl⟩ := sort_names pm3 pw3
      rw [el]
      have T6 := stp_le T S5.2 bp3 tb3
      have S6 := S5.trans T6
      have T7 := Stp.new (o := .lst (vI l)) S6.2 hp3
      have S7 := S6.trans T7
      have e7 : upd H6 p3 (.lst (vI l)) p3 = some (.lst (vI l)) := upd_same
      have e5' := T7.l (T6.l e5)
      have hN7 := T7.l (T6.l hN5)
      generalize hE7 : upd H6 p3 (.lst (vI l)) = H7 at S7 e7 e5' hN7 ⊢
      refine ⟨_, rfl, .list (dN l), .list (dN tl), .lst (.of e7) (dp_all _), .lst (.of e5') (dp_all _), shp_lst _, shp_lst _, _, rfl, ?_⟩
      have hiff := Rm.sort_back tw.la htn htm pl wl
      by_cases c : Rm.Inc (fun x => p.getD x 0) tl
      · refine ifT (by rw [eqv_lst]; exact decide_eq_true (hiff.mpr c)) ?_
        rw [if_pos c] at hg2
        refine ⟨_, rfl, .inl ⟨sl, _, rfl, .of e5', fun r hr2 => q _ r (S7.trans (Stp.new S7.2 hr2)) (by rw [upd_same, hg2])⟩⟩
      · refine ifF (by rw [eqv_lst]; exact decide_eq_false fun z => c (hiff.mp z)) ?_
        rw [if_neg c] at hg2
        exact ⟨S7, _, _, rfl, hN7, hg2⟩
    · rintro σ H4 ⟨S4, v4, v5, rfl, hN, hg⟩
      rw [Nat.sub_self] at hg
      have hg2 : [] = Rm.kept p o := hg
      exact ⟨Nat.zero_le _, fun t ht => q _ t (S4.trans (Stp.new S4.2 ht)) (by rw [upd_same, ← hg2]; rfl)⟩
end
end Rs
set_option maxHeartbeats 8000000
/-! the law's own shelf to the front; alike -/
namespace Rs
open PySem PySem.Spec PyProof.Rows L2 LamX
section
variable {P : Program} {w : World} {K : PySem.W.Frag} {mg : Str → Option Value} {base : Heap}
structure GoP (K : PySem.W.Frag) (vs : List V) (H : Hp) (Q : VK) : Prop where
  ex : ∃ (a c : Addr) (n : Nat) (p v : Rm.LN), vs = [.ref a, .ref c] ∧ H a = some (vT p) ∧ Rm.Lay n p ∧ n ≤ 40 ∧ H c = some (vT v) ∧ (∀ k ∈ v, k < n) ∧ Tb K H ∧ ∀ H' q, Stp K H H' → H' q = some (vT (Rm.inv (v.foldl Rm.mtf (Rm.inv p)))) → Q (.ref q) H'
def spGo (K : PySem.W.Frag) : Sp := fun vs H Q _ => GoP K vs H Q
abbrev nGo : List Str := ["_law_layout", "_law_word", "_law_line", "_law_place", "_law_name"]
theorem scGo : FnScope nGo ["_law_layout", "_law_word"] (defScope s_law_goes) := ⟨rfl, rfl, rfl, by decide +kernel, rfl, by decide +kernel, by decide +kernel⟩
theorem ok_Go (G : Gd K mg base) : FnOk P w K mg base CX0 1 (He.ga K "_law_goes") (fdO K "_law_goes") ["_law_layout", "_law_word"] (spGo K) := by
  have T := G.T
  refine T.F_law_goes.ok scGo (fun vs H Q E h => ?_) (fun A outer s H vs Q E hr h => ?_)
  · obtain ⟨a, c, n, p, v, rfl, _⟩ := h.ex
    rfl
  · obtain ⟨a, c, n, p, v, rfl, ha, L, n40, hc, hv, hT, q⟩ := h.ex
    refine ⟨_, PSs.nox (pss_cons (ps_set (i := 2) scGo.nd rfl (.inr rfl) (pe_sortK (i := 0) (x := "_law_name") (t := "_law_layout") hr (by rfl) T.z_sorted (pcol_rg rfl (prg_1 (by rfl) T.z_range (pe_callB call_len_seq (by rfl) T.z_len boot_len (pa_cons (pv 0) pa_nil)))) (G.B "_law_goes" (by decide)) rfl
        (lamK_by (sc := defScope s_law_goes) (by decide +kernel)) rfl (.inr (.inl rfl)) rfl rfl (fun _ _ _ _ _ _ => by rfl)))
      (pss_cons (ps_for PassesOwn.never rfl (pi_tup (pv 1)) (pg_name (i := 3) scGo.nd rfl (.inl rfl))
        (pss_one (ps_set (i := 2) scGo.nd rfl (.inr rfl) (pe_op op_cat (pe_op op_cat (pe_lst (pa_cons (pe_ix ix_list (pv 2) (pv 3) (fun _ _ => rfl)) pa_nil)) (pe_slice sl_list (pv 2) po_none (po_some (pv 3)))) (pe_slice sl_list (pv 2) (po_some (pe_op op_add (pv 3) pe_int)) po_none)))))
      (pss_one (ps_ret (pe_tupleOf (by rfl) T.z_tuple (pe_lc (own := [("_law_name", 4)]) (g := gName 4) (tt := tYes) (by rfl) scGo.nd (pi_range1 (by rfl) T.z_range (pa_cons (pe_callB call_len_seq (by rfl) T.z_len boot_len (pa_cons (pv 0) pa_nil)) pa_nil))
        (blkOk_by (own := [("_law_name", 4)]) (N := nGo) (sc := defScope s_law_goes) (by decide +kernel)) (fun _ _ _ _ _ => pg_name (i := 4) scGo.nd rfl (Or.inl rfl)) (fun _ _ _ _ _ => pts_nil)
        (fun _ _ _ _ _ => (pe_bm PySem.F.plainAttrs_list PySem.F.slot_list_index PySem.F.type_list_index mt_index (pv 2) (pa_cons (pv 4) pa_nil) : PE _ _ (tBM K "list" (rIndex K) _ _))))))))), ?_⟩
    refine ⟨_, rfl, a, _, rfl, .inr (.of ha), _, rfl, n, rfl, by rw [vI_length, L.len], by omega, tabS_has hT.lg, a, p, rfl, .of ha, ?_, ?_, hT.lg, fun H2 p2 ns' bp tb hp2 pm pw => ?_⟩
    · unfold rgI
      rw [List.length_map, List.length_range]
      omega
    · intro z hz
      obtain ⟨k, hk, rfl⟩ := List.mem_map.mp hz
      have := List.mem_range.mp hk
      rw [L.len]
      omega
    rw [sort_is L pm pw]
    have S2 := stp_lg T hT bp tb
    have S3 := S2.trans (Stp.new (o := .lst (vI (Rm.inv p))) S2.2 hp2)
    have e3 : upd H2 p2 (.lst (vI (Rm.inv p))) p2 = some (.lst (vI (Rm.inv p))) := upd_same
    generalize hE3 : upd H2 p2 (.lst (vI (Rm.inv p))) = H3 at S3 e3 ⊢
    refine ⟨_, rfl, c, rfl, ⟨_, .of (S3.t hc)⟩, ?_⟩
    refine for_it (walk_tup (K := K) (a := c) (xs := vI v)) (fun i σ H4 => Stp K H H4 ∧ ∃ (Ln : Addr) (rw : Rm.LN) (v3 : Option V), σ = [some (.ref a), some (.ref c), some (.ref Ln), v3, none] ∧ H4 Ln = some (.lst (vI rw)) ∧ Rm.Lay n rw ∧ rw = (v.take i).foldl Rm.mtf (Rm.inv p))
      ⟨S3, p2, Rm.inv p, none, rfl, e3, Rm.inv_lay L, rfl⟩ (fun i σ H4 _ z => .of (z.1.t hc)) ?_ ?_
    · rintro i x σ H0 H4 hi ⟨S4, Ln, rw, v3, rfl, hL, Lr, er⟩ ⟨rfl, hx⟩
      obtain ⟨rfl, hi2⟩ := vI_get hx
      have hk := hv _ (Rm.getD_mem hi2)
      have ets : (v.take (i + 1)).foldl Rm.mtf (Rm.inv p) = Rm.mtf rw (v.getD i 0) := by rw [take_snoc hi2, List.foldl_append, ← er]; rfl
      rw [ets]
      generalize v.getD i 0 = k at hk hx ⊢
      clear er ets
      refine ⟨_, rfl, _, rfl, Ln, _, _, _, rfl, rfl, .of hL, atI_nat (vI_at (by rw [Lr.len]; exact hk)), (by show 1 ≤ sizeLine; decide), fun l1 h1 => ?_⟩
      have S5 := S4.trans (Stp.new (o := .lst [V.int ((rw.getD k 0 : Nat) : Int)]) S4.2 h1)
      have T5 := Stp.new (o := .lst [V.int ((rw.getD k 0 : Nat) : Int)]) S4.2 h1
      have e5 : upd H4 l1 (.lst [V.int ((rw.getD k 0 : Nat) : Int)]) l1 = some (.lst [V.int ((rw.getD k 0 : Nat) : Int)]) := upd_same
      have hL5 := T5.l hL
      generalize hE5 : upd H4 l1 (.lst [V.int ((rw.getD k 0 : Nat) : Int)]) = H5 at S5 e5 hL5 ⊢
      refine ⟨_, rfl, _, rfl, _, rfl, Ln, _, rfl, .of hL5, fun l2 h2 => ?_⟩
      rw [cut_to]
      have T6 := Stp.new (o := .lst (vI (rw.take k))) S5.2 h2
      have S6 := S5.trans T6
      have e6 : upd H5 l2 (.lst (vI (rw.take k))) l2 = some (.lst (vI (rw.take k))) := upd_same
      have hL6 := T6.l hL5
      have e56 := T6.l e5
      generalize hE6 : upd H5 l2 (.lst (vI (rw.take k))) = H6 at S6 e6 hL6 e56 ⊢
      have hrl := Lr.len
      refine catL_use e56 e6 (by rw [vI_length, List.length_take, sizeLine_eq]; show 1 + min k rw.length ≤ _; omega) fun H7 l3 S7 _ e7 => ?_
      have T7 := Stp.same S6.2 S7
      have S17 := S6.trans T7
      have hL7 := T7.l hL6
      refine ⟨_, rfl, _, rfl, _, _, rfl, rfl, _, rfl, Ln, _, rfl, .of hL7, fun l4 h4 => ?_⟩
      have ec : cutV (vI rw) (some ((k : Int) + 1)) none = vI (rw.drop (k + 1)) := by
        rw [← cut_from, Int.natCast_add]
        rfl
      rw [ec]
      have T8 := Stp.new (o := .lst (vI (rw.drop (k + 1)))) S17.2 h4
      have S8 := S17.trans T8
      have e8 : upd H7 l4 (.lst (vI (rw.drop (k + 1)))) l4 = some (.lst (vI (rw.drop (k + 1)))) := upd_same
      have e78 := T8.l e7
      generalize hE8 : upd H7 l4 (.lst (vI (rw.drop (k + 1)))) = H8 at S8 e8 e78 ⊢
      refine catL_use e78 e8 (by rw [List.length_append, vI_length, vI_length, List.length_take, List.length_drop, sizeLine_eq]; show 1 + min k rw.length + (rw.length - (k + 1)) ≤ _; omega) fun H9 l5 S9 _ e9 => ?_
      have T9 := Stp.same S8.2 S9
      refine ⟨S8.trans T9, l5, Rm.mtf rw k, _, rfl, ?_, Rm.mtf_lay Lr hk, rfl⟩
      rw [e9]
      refine congrArg (fun z => some (HO.lst z)) ?_
      show [V.int ((rw.getD k 0 : Nat) : Int)] ++ vI (rw.take k) ++ vI (rw.drop (k + 1)) = vI (rw.getD k 0 :: (rw.take k ++ rw.drop (k + 1)))
      unfold vI
      rw [List.map_cons, List.map_append]
      rfl
    · rintro σ H4 ⟨S4, Ln, rw, v3, rfl, hL, Lr, er⟩
      rw [vI_length, List.take_length] at er
      rw [← er] at q
      refine ⟨_, rfl, a, _, rfl, .inr (.of (S4.t ha)), (n : Int), by rw [vI_length, L.len], by omega, by omega, fun D hD => ?_⟩
      have hLD : Ln ≠ D := ne_of_none hL hD
      have hil : (Rm.inv rw).length = n := by rw [Rm.inv_len, Lr.len]
      refine lc_it (walk_range (lo := 0) (n := n)) (fun j H5 => H5 = upd H4 D (.lst (vI ((Rm.inv rw).take j)))) rfl (fun _ _ _ _ => trivial) ?_ ?_
      · rintro j y H5 H5' hj rfl ⟨rfl, rfl⟩
        have e0 : (fun i : Nat => V.int ((0 : Int) + (i : Nat))) j = V.int (j : Nat) := by
          show V.int ((0 : Int) + ((j : Nat) : Int)) = _
          rw [Int.zero_add]
        rw [e0]
        have hjm : j ∈ rw := Lr.mem hj
        refine ⟨rfl, ?_⟩
        refine yes_use ?_
        have hL5 : upd H4 D (.lst (vI ((Rm.inv rw).take j))) Ln = some (.lst (vI rw)) := by rw [upd_ne hLD]; exact hL
        refine ⟨_, rfl, .inl ⟨rfl, _, .of hL5⟩, _, rfl, Ln, vI rw, .int (j : Int), rw.idxOf j, .int (j : Int), rfl, rfl, .of hL5, rfl, flat_vI _, vI_idx hjm, idx_eq j, idx_no, _, upd_same, by rw [vI_length, List.length_take, sizeLine_eq]; omega, ?_⟩
        have eg : (Rm.inv rw).getD j 0 = rw.idxOf j := by
          rw [List.getD_eq_getElem?_getD, Rm.inv_get (by rw [Lr.len]; exact hj)]
          rfl
        rw [upd_upd, take_snoc (by rw [hil]; exact hj), eg, vI_snoc]
      · rintro H5 rfl
        rw [List.take_of_length_le (by rw [hil]; exact Nat.le_refl _)]
        have S5 := S4.trans (Stp.new (o := .lst (vI (Rm.inv rw))) S4.2 hD)
        refine .inl ⟨D, _, rfl, .of upd_same, fun r hr2 => q _ r (S5.trans (Stp.new S5.2 hr2)) upd_same⟩
end
end Rs
set_option maxHeartbeats 8000000
/-! alike -/
namespace Rs
open PySem PySem.Spec PyProof.Rows L2 LamX
section
variable {P : Program} {w : World} {K : PySem.W.Frag} {mg : Str → Option Value} {base : Heap}
theorem any_int : PySem.W.kitAny K (.type "int") [.type "tuple", .type "list"] = some false := kitAny_cons (b := false) (kit_ty (by decide +kernel)) (fun _ => kitAny_cons (b := false) (kit_ty (by decide +kernel)) (fun _ => kitAny_nil) (fun z => by cases z)) (fun z => by cases z)
theorem any_tup : PySem.W.kitAny K (.type "tuple") [.type "tuple", .type "list"] = some true := kitAny_cons (b := true) (kit_ty (by decide +kernel)) (fun z => by cases z) (fun _ => rfl)
structure A1P (vs : List V) (H : Hp) (Q : VK) : Prop where
  ex : ∃ x y : Int, vs = [.int x, .int y] ∧ ∀ H', Same H H' → Q (.bl (decide (x = y))) H'
def spA1 : Sp := fun vs H Q _ => A1P vs H Q
abbrev nAL : List Str := ["_law_found", "_law_due", "_law_k"]
theorem scAL : FnScope nAL ["_law_found", "_law_due"] (defScope s_law_alike) := ⟨rfl, rfl, rfl, by decide +kernel, rfl, by decide +kernel, by decide +kernel⟩
theorem ok_A1 (G : Gd K mg base) : FnOk P w K mg base CX0 1 (He.ga K "_law_alike") (fdO K "_law_alike") ["_law_found", "_law_due"] spA1 := by
  have T := G.T
  refine T.F_law_alike.ok scAL (fun vs H Q E h => ?_) (fun A outer s H vs Q E hr h => ?_)
  · obtain ⟨x, y, rfl, _⟩ := h.ex
    rfl
  · obtain ⟨x, y, rfl, q⟩ := h.ex
    refine ⟨_, PSs.nox (pss_cons (ps_if (pt_val (pe_callB call_isiT (by rfl) T.z_isinstance boot_isinstance (pa_cons (pv 1) (pa_cons (pe_tup (pa_cons (pe_bltn (by rfl) T.z_tuple boot_tuple (v := .ty "tuple") rfl) (pa_cons (pe_bltn (by rfl) T.z_list boot_list (v := .ty "list") rfl) pa_nil))) pa_nil))))
        (pss_cons ps_never (pss_cons ps_never (pss_one ps_never))) pss_nil)
      (pss_cons (ps_if (PW.pt (pw_or (pt_cmpR op_isN (pv 1) pe_non (nomark _)) (pw_or1 (pt_val (pe_callB call_isi (by rfl) T.z_isinstance boot_isinstance (pa_cons (pv 1) (pa_cons (pe_bltn (by rfl) T.z_str boot_str (v := .ty "str") rfl) pa_nil))))))) (pss_one ps_never) pss_nil)
      (pss_one (ps_ret (pe_and (pe_callB call_isi (by rfl) T.z_isinstance boot_isinstance (pa_cons (pv 0) (pa_cons (pe_bltn (by rfl) T.z_int boot_int (v := .ty "int") rfl) pa_nil)))
        (pe_and (pe_cmpR op_eq (pe_callB call_isi (by rfl) T.z_isinstance boot_isinstance (pa_cons (pv 0) (pa_cons (pe_bltn (by rfl) T.z_bool boot_bool (v := .ty "bool") rfl) pa_nil))) (pe_callB call_isi (by rfl) T.z_isinstance boot_isinstance (pa_cons (pv 1) (pa_cons (pe_bltn (by rfl) T.z_bool boot_bool (v := .ty "bool") rfl) pa_nil))) (nomark _))
        (pe_one (pe_cmpR op_eq (pv 0) (pv 1) (nomark _))))))))), ?_⟩
    refine ⟨_, rfl, (by show 2 ≤ sizeLine; decide), fun t ht => ?_⟩
    refine ⟨.int y, t, [.ty "tuple", .ty "list"], .type "int", _, false, rfl, upd_same, .cons (.ty _) (.cons (.ty _) .nil), .base (.int y), any_int, false, rfl, iteF ?_⟩
    refine ⟨_, rfl, rfl, _, rfl, iteF ?_⟩
    refine ⟨_, rfl, .int y, .ty "str", .type "int", .type "str", false, rfl, .ty _, .base (.int y), kit_ty (by decide +kernel), false, rfl, iteF ?_⟩
    refine ⟨_, rfl, .int x, .ty "int", .type "int", .type "int", true, rfl, .ty _, .base (.int x), kit_ty (by decide +kernel), true, rfl, iteT ?_⟩
    refine ⟨_, rfl, .int x, .ty "bool", .type "int", .type "bool", false, rfl, .ty _, .base (.int x), kit_ty (by decide +kernel), _, rfl, .int y, .ty "bool", .type "int", .type "bool", false, rfl, .ty _, .base (.int y), kit_ty (by decide +kernel), rfl, true, rfl, iteT ?_⟩
    refine ⟨_, rfl, _, rfl, rfl, ?_⟩
    have e : decide (V.int x = V.int y) = decide (x = y) := decide_eq_decide.mpr ⟨fun z => V.int.inj z, fun z => by rw [z]⟩
    show Q (V.bl (decide (V.int x = V.int y))) _
    rw [e]
    exact q _ (same_new ht)
structure A2P (vs : List V) (H : Hp) (Q : VK) : Prop where
  ex : ∃ (a b : Addr) (p : Rm.LN), vs = [.ref a, .ref b] ∧ H a = some (vT p) ∧ H b = some (vT p) ∧ p.length ≤ 40 ∧ ∀ H', Same H H' → Q (.bl true) H'
def spA2 : Sp := fun vs H Q _ => A2P vs H Q
theorem ok_A2 (G : Gd K mg base) : FnOk P w K mg base CX0 2 (He.ga K "_law_alike") (fdO K "_law_alike") ["_law_found", "_law_due"] spA2 := by
  have T := G.T
  have GA : FnOk P w K mg base CX0 1 (He.ga K "_law_alike") (fdO K "_law_alike") ["_law_found", "_law_due"] spA1 := ok_A1 G
  refine T.F_law_alike.ok scAL (fun vs H Q E h => ?_) (fun A outer s H vs Q E hr h => ?_)
  · obtain ⟨a, b, p, rfl, _⟩ := h.ex
    rfl
  · obtain ⟨a, b, p, rfl, ha, hb, hl, q⟩ := h.ex
    refine ⟨_, PSs.nox (pss_cons (ps_if (pt_val (pe_callB call_isiT (by rfl) T.z_isinstance boot_isinstance (pa_cons (pv 1) (pa_cons (pe_tup (pa_cons (pe_bltn (by rfl) T.z_tuple boot_tuple (v := .ty "tuple") rfl) (pa_cons (pe_bltn (by rfl) T.z_list boot_list (v := .ty "list") rfl) pa_nil))) pa_nil))))
        (pss_cons (ps_if (PW.pt (pw_or (pt_not (pt_val (pe_callB call_isiT (by rfl) T.z_isinstance boot_isinstance (pa_cons (pv 0) (pa_cons (pe_tup (pa_cons (pe_bltn (by rfl) T.z_tuple boot_tuple (v := .ty "tuple") rfl) (pa_cons (pe_bltn (by rfl) T.z_list boot_list (v := .ty "list") rfl) pa_nil))) pa_nil)))))
          (pw_or1 (pt_cmpR op_ne (pe_callB call_isi (by rfl) T.z_isinstance boot_isinstance (pa_cons (pv 0) (pa_cons (pe_bltn (by rfl) T.z_list boot_list (v := .ty "list") rfl) pa_nil))) (pe_callB call_isi (by rfl) T.z_isinstance boot_isinstance (pa_cons (pv 1) (pa_cons (pe_bltn (by rfl) T.z_list boot_list (v := .ty "list") rfl) pa_nil))) (nomark _))))) (pss_one ps_never) pss_nil)
        (pss_cons (ps_if (pt_cmpR op_ne (pe_callB call_len_seq (by rfl) T.z_len boot_len (pa_cons (pv 0) pa_nil)) (pe_callB call_len_seq (by rfl) T.z_len boot_len (pa_cons (pv 1) pa_nil)) (nomark _)) (pss_one ps_never) pss_nil)
        (pss_one (ps_ret (pe_cmpR (op_eqD hr.units) (pe_lc (own := [("_law_k", 2)]) (g := gName 2) (by rfl) scAL.nd (pi_range1 (by rfl) T.z_range (pa_cons (pe_callB call_len_seq (by rfl) T.z_len boot_len (pa_cons (pv 1) pa_nil)) pa_nil))
          (blkOk_by (own := [("_law_k", 2)]) (N := nAL) (sc := defScope s_law_alike) (by decide +kernel)) (fun _ _ _ _ _ => pg_name (i := 2) scAL.nd rfl (Or.inl rfl))
          (fun _ _ _ _ _ => pts_one (pt_not (pt_val (pe_call GA hr rfl T.g_law_alike T.F_law_alike.kp T.b_law_alike .nil pass0 (pa_cons (pe_ix (r := rIxT K) ix_tup (pv 0) (pv 2) (fun _ _ => rfl)) (pa_cons (pe_ix (r := rIxT K) ix_tup (pv 1) (pv 2) (fun _ _ => rfl)) pa_nil)))))) (fun _ _ _ _ _ => pv 2)) (pe_lst pa_nil) (nomark _)))))) pss_nil)
      (pss_cons ps_never (pss_one ps_never))), ?_⟩
    refine ⟨_, rfl, (by show 2 ≤ sizeLine; decide), fun t ht => ?_⟩
    have S1 := same_new (o := .tup [.ty "tuple", .ty "list"]) ht
    have e1 : upd H t (.tup [.ty "tuple", .ty "list"]) t = some (.tup [.ty "tuple", .ty "list"]) := upd_same
    generalize hE1 : upd H t (.tup [.ty "tuple", .ty "list"]) = H1 at S1 e1 ⊢
    refine ⟨.ref b, t, [.ty "tuple", .ty "list"], .type "tuple", _, true, rfl, e1, .cons (.ty _) (.cons (.ty _) .nil), .base (.tup (S1 _ _ hb)), any_tup, true, rfl, iteT ?_⟩
    refine ⟨_, rfl, (by show 2 ≤ sizeLine; decide), fun t2 ht2 => ?_⟩
    have S2 := same_new (o := .tup [.ty "tuple", .ty "list"]) ht2
    have e2 : upd H1 t2 (.tup [.ty "tuple", .ty "list"]) t2 = some (.tup [.ty "tuple", .ty "list"]) := upd_same
    generalize hE2 : upd H1 t2 (.tup [.ty "tuple", .ty "list"]) = H2 at S2 e2 ⊢
    have ha2 := S2 _ _ (S1 _ _ ha)
    have hb2 := S2 _ _ (S1 _ _ hb)
    refine ⟨.ref a, t2, [.ty "tuple", .ty "list"], .type "tuple", _, true, rfl, e2, .cons (.ty _) (.cons (.ty _) .nil), .base (.tup ha2), any_tup, true, rfl, iteF ?_⟩
    refine ⟨_, rfl, .ref a, .ty "list", .type "tuple", .type "list", false, rfl, .ty _, .base (.tup ha2), kit_ty (by decide +kernel), _, rfl, .ref b, .ty "list", .type "tuple", .type "list", false, rfl, .ty _, .base (.tup hb2), kit_ty (by decide +kernel), rfl, _, rfl, iteF ?_⟩
    refine ⟨_, rfl, a, _, rfl, .inr (.of ha2), _, rfl, b, _, rfl, .inr (.of hb2), rfl, _, rfl, iteNS rfl ?_⟩
    refine ⟨_, rfl, b, _, rfl, .inr (.of hb2), ((p.length : Nat) : Int), by rw [vI_length], by omega, by omega, fun D hD => ?_⟩
    have S3 := S1.trans S2
    refine lc_it (walk_range (lo := 0) (n := p.length)) (fun j H3 => Same H2 H3 ∧ H3 D = some (.lst [])) ⟨same_new hD, upd_same⟩ (fun _ _ _ _ => trivial) ?_ ?_
    · rintro j y H3 H3' hj ⟨S4, hD3⟩ ⟨rfl, rfl⟩
      have e0 : (fun i : Nat => V.int ((0 : Int) + (i : Nat))) j = V.int (j : Nat) := by
        show V.int ((0 : Int) + ((j : Nat) : Int)) = _
        rw [Int.zero_add]
      rw [e0]
      refine ⟨rfl, ?_⟩
      refine ⟨_, rfl, _, rfl, a, _, _, _, rfl, rfl, .of (S4 _ _ ha2), atI_nat (vI_at hj), _, rfl, _, rfl, b, _, _, _, rfl, rfl, .of (S4 _ _ hb2), atI_nat (vI_at hj), _, _, rfl, fun H5 S5 => ⟨_, rfl, ?_⟩⟩
      rw [decide_eq_true rfl]
      refine iteF ?_
      exact ⟨S4.trans S5, S5 _ _ hD3⟩
    · rintro H3 ⟨S4, hD3⟩
      refine ⟨Nat.zero_le _, fun e he => ?_⟩
      have S5 := same_new (o := .lst []) he
      refine ⟨.list (dN []), .list (dN []), .lst (.of (S5 _ _ hD3)) (dp_all []), .lst (.of upd_same) (dp_all []), shp_lst _, shp_lst _, ?_⟩
      rw [eqv_lst, decide_eq_true rfl]
      exact q _ ((S3.trans S4).trans S5)
end
end Rs
set_option maxHeartbeats 16000000
/-! the law: its last part -/
namespace Rs
open PySem PySem.Spec PyProof.Rows L2 LamX SX
section
variable {P : Program} {w : World} {K : PySem.W.Frag} {mg : Str → Option Value} {base : Heap}
/-- a def that may raise, where it does not -/
theorem fn_calm {k : Nat} {f : Addr} {fd : FuncData} {ps : List Str} {sp : Sp} (F : FnOk P w K mg base (L2.CX P w) k f fd ps sp) : FnOk P w K mg base CX0 k f fd ps (fun vs H Q _ => sp vs H Q fun _ _ _ => False) := by
  refine ⟨fun vs H Q E h => F.len vs H Q _ h, fun A outer s H args us vs Q E hr e0 hb r h => codeAny_mono (F.run A outer s H args us vs Q _ hr e0 hb r h) fun r s' hq => ?_⟩
  cases r with
  | ok fl => cases fl <;> exact hq
  | error e =>
    obtain ⟨_, _, _, _, _, _, _, _, _, _, _, _, z⟩ := hq
    exact z.elim
abbrev nLW : List Str := ["_law_script", "_law_row", "_law_many", "_law_one", "_law_other", "_law_kinds", "_law_kind", "_law_word", "_law_far", "_law_due", "_law_told", "_law_turn", "_law_shift", "_law_great", "_law_near", "_law_end_here", "_law_crossed", "_law_name", "_law_behind", "e", "_law_place", "_law_later"]
theorem scLW : FnScope nLW ["_law_script"] (defScope s_law) := ⟨rfl, rfl, rfl, by decide +kernel, rfl, by decide +kernel, by decide +kernel⟩
abbrev lawX (P : Program) (w : World) (K : PySem.W.Frag) (mg : Str → Option Value) (base : Heap) (A : Around) (outer : List Env) (s : Shared) (H : Hp) (E : XK) : Cx :=
  (cxOf CX0 P w K mg base nLW "law" (defScope s_law) (He.ga K "law") (.ref (cdA K "law")) A outer s H E).nox
abbrev lawA (K : PySem.W.Frag) (A : Around) (s : Shared) : Around := A.deeper (envOfC "law" (defScope s_law) s.heap.objs.size (He.ga K "law") (.ref (cdA K "law")))
/-- all the promises -/
structure Pr (P : Program) (w : World) (K : PySem.W.Frag) (mg : Str → Option Value) (base : Heap) : Prop where
  tk : FnOk P w K mg base CX0 1 (He.ga K "_law_taken") (fdO K "_law_taken") ["_law_row", "_law_many"] (spTK K)
  pk : FnOk P w K mg base CX0 2 (He.ga K "_law_pick") (fdO K "_law_pick") ["_law_row", "_law_things"] (spPK K)
  lp : FnOk P w K mg base CX0 2 (He.ga K "_law_permutation") (fdO K "_law_permutation") ["_law_row", "_law_many"] (spLP K)
  a1 : FnOk P w K mg base CX0 1 (He.ga K "_law_alike") (fdO K "_law_alike") ["_law_found", "_law_due"] spA1
  a2 : FnOk P w K mg base CX0 2 (He.ga K "_law_alike") (fdO K "_law_alike") ["_law_found", "_law_due"] spA2
  le : FnOk P w K mg base CX0 1 (He.ga K "_law_end") (fdO K "_law_end") ["_law_one", "_law_other"] (spLE K)
  go : FnOk P w K mg base CX0 1 (He.ga K "_law_goes") (fdO K "_law_goes") ["_law_layout", "_law_word"] (spGo K)
  ke : FnOk P w K mg base CX0 3 (He.ga K "kept_end") (fdO K "kept_end") ["one", "other"] (spKE K)
  fd : FnOk P w K mg base CX0 3 (He.ga K "front_distance") (fdO K "front_distance") ["one", "other"] (spFD K)
  fw : FnOk P w K mg base (L2.CX P w) 3 (He.ga K "front_word") (fdO K "front_word") ["one", "other"] (spFW K)
  nw : FnOk P w K mg base CX0 3 (He.ga K "neighbour_word") (fdO K "neighbour_word") ["one", "other"] (spNW K)
  nd : FnOk P w K mg base CX0 3 (He.ga K "neighbour_distance") (fdO K "neighbour_distance") ["one", "other"] (spND K)
  tw : FnOk P w K mg base CX0 3 (He.ga K "turning_word") (fdO K "turning_word") ["one", "other"] (spTW K)
  ds : FnOk P w K mg base CX0 5 (He.ga K "distance") (fdO K "distance") ["habit", "one", "other"] (spDist K)
  af : FnOk P w K mg base CX0 4 (He.ga K "after") (fdO K "after") ["habit", "layout", "word"] (spAfter K)
  fh : FnOk P w K mg base CX0 2 (He.ga K "front_habit") (fdO K "front_habit") ["places"] (spHab Rm.frontHab)
  nh : FnOk P w K mg base CX0 2 (He.ga K "neighbour_habit") (fdO K "neighbour_habit") ["places"] (spHab Rm.nbHab)
  th : FnOk P w K mg base CX0 2 (He.ga K "turning_habit") (fdO K "turning_habit") ["places"] (spHab Rm.tuHab)
theorem pr_of (G : Gd K mg base) : Pr P w K mg base :=
  ⟨ok_TK G, ok_PK G, ok_LP G, ok_A1 G, ok_A2 G, ok_LE G, ok_Go G, ok_KE G, ok_FD G, ok_FW G, ok_NW G, ok_ND G, ok_TW G, ok_dist G, ok_after G, ok_FH G, ok_NH G, ok_TH G⟩
/-- the state of the last part: the layouts nr, fr of g places -/
structure Lc (K : PySem.W.Frag) (R sa : Addr) (ns : List Int) (H : Hp) (bn bf : Addr) (g : Nat) (nr fr : Rm.LN) : Prop where
  dr : Dr K R sa ns H
  tw : Two K H bn bf g nr fr
theorem Lc.step {R sa : Addr} {ns : List Int} {H H' : Hp} {bn bf : Addr} {g : Nat} {nr fr : Rm.LN} (l : Lc K R sa ns H bn bf g nr fr) (s : Stp K H H') : Lc K R sa ns H' bn bf g nr fr := ⟨l.dr.step s, l.tw.step s⟩
theorem Two.fw {H : Hp} {a b : Addr} {n : Nat} {p o : Rm.LN} {Q : VK} {E : XK} (t : Two K H a b n p o) (q : ∀ H' c, Stp K H H' → H' c = some (vT (Rm.frontWord p o)) → Q (.ref c) H') : FwP K [.ref a, .ref b] H Q E := ⟨.inl ⟨a, b, n, p, o, rfl, t, q⟩⟩
theorem Two.le {H : Hp} {a b : Addr} {n : Nat} {p o : Rm.LN} {Q : VK} (t : Two K H a b n p o) (q : ∀ H' c, Stp K H H' → H' c = some (vT (Rm.kept p o)) → Q (.ref c) H') : LeP K [.ref a, .ref b] H Q := ⟨⟨a, b, n, p, o, rfl, t, q⟩⟩
theorem Two.nw {H : Hp} {a b : Addr} {n : Nat} {p o : Rm.LN} {Q : VK} (t : Two K H a b n p o) (q : ∀ H' c, Stp K H H' → H' c = some (vT (Rm.nbWord p o)) → Q (.ref c) H') : NwP K [.ref a, .ref b] H Q := ⟨⟨a, b, n, p, o, rfl, t, q⟩⟩
theorem Two.nd {H : Hp} {a b : Addr} {n : Nat} {p o : Rm.LN} {Q : VK} (t : Two K H a b n p o) (q : ∀ H', Stp K H H' → Q (.int ((Rm.crossed p o : Nat) : Int)) H') : NdP K [.ref a, .ref b] H Q := ⟨⟨a, b, n, p, o, rfl, t, q⟩⟩
theorem Two.tw {H : Hp} {a b : Addr} {n : Nat} {p o : Rm.LN} {Q : VK} (t : Two K H a b n p o) (q : ∀ H' v, Stp K H H' → WdV H' v (Rm.turnOf (Rm.diffs n p o)) → Q v H') : TwP K [.ref a, .ref b] H Q := ⟨⟨a, b, n, p, o, rfl, t, q⟩⟩
theorem al_int {x y : Int} {H : Hp} {Q : VK} (q : ∀ H', Same H H' → Q (.bl (decide (x = y))) H') : A1P [.int x, .int y] H Q := ⟨⟨x, y, rfl, q⟩⟩
theorem al_tup {a b : Addr} {p : Rm.LN} {H : Hp} {Q : VK} (ha : H a = some (vT p)) (hb : H b = some (vT p)) (hl : p.length ≤ 40) (q : ∀ H', Same H H' → Q (.bl true) H') : A2P [.ref a, .ref b] H Q := ⟨⟨a, b, p, rfl, ha, hb, hl, q⟩⟩
end
end Rs
set_option maxHeartbeats 16000000
/-! the law: its last part, walked -/
namespace Rs
open PySem PySem.Spec PyProof.Rows L2 LamX SX
theorem crossed_bound {p o : Rm.LN} {n : Nat} (h1 : Rm.Lay n p) : Rm.crossed p o ≤ n * n := by
  have gen : ∀ (f : Nat → Nat) (l : Rm.LN), Rm.invs f l ≤ l.length * l.length := fun f l => by
    induction l with
    | nil => exact Nat.le_refl _
    | cons x r ih =>
      show r.countP (fun y => decide (f y < f x)) + Rm.invs f r ≤ (r.length + 1) * (r.length + 1)
      have h2 : r.countP (fun y => decide (f y < f x)) ≤ r.length := List.countP_le_length
      rw [Nat.add_mul, Nat.mul_add]
      omega
  have := gen (fun x => o.getD x 0) (Rm.inv p)
  rw [Rm.inv_len, h1.len] at this
  exact this
theorem cat_len {l : List Nat} {g : Nat} : vI l ++ [V.int (g : Int)] = vI (l ++ [g]) := vI_snoc l g
theorem rep_vI (m : Nat) : (List.replicate m [V.int 0]).flatten = vI (List.replicate m 0) := by
  unfold vI
  induction m with
  | zero => rfl
  | succ m ih =>
    rw [List.replicate_succ, List.flatten_cons, List.replicate_succ, List.map_cons, ih]
    rfl
abbrev rLo (K : PySem.W.Frag) : List V → Hp → VK → Prop := fun xs H Q => ∃ p ys, xs = [V.ref p] ∧ (SqL K H p ys ∨ SqT K H p ys) ∧ ∀ (l : Addr), H l = none → Q (V.ref l) (upd H l (HO.lst ys))
section
variable {P : Program} {w : World} {K : PySem.W.Frag} {mg : Str → Option Value} {base : Heap}
theorem law_c (T : Tx K mg) (G : Pr P w K mg base) {A : Around} {outer : List Env} {s : Shared} {H0 : Hp} {E : XK} (hr : Room 5 (lawA K A s)) : ∃ t, PSs (lawX P w K mg base A outer s H0 E) ((defBody s_law).drop 13) t ∧
    ∀ (D : Ends) (R sa bn bf : Addr) (ns : List Int) (g : Nat) (nr fr : Rm.LN) (H : Hp) (x0 x2 x3 x4 x5 x6 x7 x9 x10 x11 x12 x15 x16 x17 x18 x19 x20 x21 : Option V), Lc K R sa ns H bn bf g nr fr → (∀ H', D.rt (.bl true) H') →
      t D [x0, some (.ref R), x2, x3, x4, x5, x6, x7, some (.ref bf), x9, x10, x11, x12, some (.int (g : Int)), some (.ref bn), x15, x16, x17, x18, x19, x20, x21] H := by
  have hr3 : Room 3 (lawA K A s) := hr.mono (by decide)
  have hr2 : Room 2 (lawA K A s) := hr.mono (by decide)
  have hr1 : Room 1 (lawA K A s) := hr.mono (by decide)
  have e : (defBody s_law).drop 13 = [_, _, _, _, _, _, _, _, _] := rfl
  rw [e]
  clear e
  refine ⟨_, pss_cons (ps_set (i := 15) scLW.nd rfl (.inl rfl) (pe_call G.le hr1 (by rfl) T.g_law_end T.F_law_end.kp T.b_law_end .nil pass0 (pa_cons (pv 14) (pa_cons (pv 8) pa_nil))))
    (pss_cons (ps_if (PW.pt (pw_or (pt_not (pt_val (pe_call G.a2 hr2 (by rfl) T.g_law_alike T.F_law_alike.kp T.b_law_alike .nil pass0 (pa_cons (pe_call G.ke hr3 (by rfl) T.g_kept_end T.F_kept_end.kp T.b_kept_end .nil pass0 (pa_cons (pv 14) (pa_cons (pv 8) pa_nil))) (pa_cons (pv 15) pa_nil)))))
        (pw_or1 (pt_not (pt_val (pe_call G.a1 hr1 (by rfl) T.g_law_alike T.F_law_alike.kp T.b_law_alike .nil pass0 (pa_cons (pe_call G.fd hr3 (by rfl) T.g_front_distance T.F_front_distance.kp T.b_front_distance .nil pass0 (pa_cons (pv 14) (pa_cons (pv 8) pa_nil)))
          (pa_cons (pe_op op_sub (pv 13) (pe_callB call_len_seq (by rfl) T.z_len boot_len (pa_cons (pv 15) pa_nil))) pa_nil)))))))) (pss_one (ps_ret pe_bl)) pss_nil)
    (pss_cons (ps_set (i := 7) scLW.nd rfl (.inl rfl) (pe_call (fn_calm G.fw) hr3 (by rfl) T.g_front_word T.F_front_word.kp T.b_front_word .nil pass0 (pa_cons (pv 14) (pa_cons (pv 8) pa_nil))))
    (pss_cons (ps_if (PW.pt (pw_or (pt_cmpR op_ne (pe_callB call_len_seq (by rfl) T.z_len boot_len (pa_cons (pv 7) pa_nil)) (pe_op op_sub (pv 13) (pe_callB call_len_seq (by rfl) T.z_len boot_len (pa_cons (pv 15) pa_nil))) (nomark _))
        (pw_or1 (pt_cmpR (op_neD hr.units) (pe_call G.go hr1 (by rfl) T.g_law_goes T.F_law_goes.kp T.b_law_goes .nil pass0 (pa_cons (pv 14) (pa_cons (pv 7) pa_nil))) (pv 8) (nomark _))))) (pss_one (ps_ret pe_bl)) pss_nil)
    (pss_cons (ps_set (i := 16) scLW.nd rfl (.inl rfl) pe_int)
    (pss_cons (ps_for PassesOwn.never rfl (pi_range1 (by rfl) T.z_range (pa_cons (pv 13) pa_nil)) (pg_name (i := 17) scLW.nd rfl (.inr rfl))
      (pss_cons (ps_setLc (i := 18) (own := [("_law_later", 21)]) (g := gName 21) (by rfl) scLW.nd rfl rfl (sw_true rfl rfl rfl (by decide +kernel)) (pi_range1 (by rfl) T.z_range (pa_cons (pv 13) pa_nil)) (blkOk_by (own := [("_law_later", 21)]) (N := nLW) (sc := defScope s_law) (by decide +kernel))
        (fun _ _ _ _ _ => pg_name (i := 21) scLW.nd rfl (Or.inl rfl)) (fun _ _ _ _ _ => pts_one (pt_cmpR op_lt (pe_ix (r := rIxT K) ix_tup (pv 14) (pv 17) (fun _ _ => rfl)) (pe_ix (r := rIxT K) ix_tup (pv 14) (pv 21) (fun _ _ => rfl)) (nomark _))) (fun _ _ _ _ _ => pv 21))
      (pss_one (ps_set (i := 16) scLW.nd rfl (.inl rfl) (pe_op op_add (pv 16) (pe_callB call_len_seq (by rfl) T.z_len boot_len (pa_cons (pe_lc (own := [("_law_later", 21)]) (g := gName 21) (by rfl) scLW.nd (pi_list (pv 18)) (blkOk_by (own := [("_law_later", 21)]) (N := nLW) (sc := defScope s_law) (by decide +kernel))
        (fun _ _ _ _ _ => pg_name (i := 21) scLW.nd rfl (Or.inl rfl)) (fun _ _ _ _ _ => pts_one (pt_cmpR op_gt (pe_ix (r := rIxT K) ix_tup (pv 8) (pv 17) (fun _ _ => rfl)) (pe_ix (r := rIxT K) ix_tup (pv 8) (pv 21) (fun _ _ => rfl)) (nomark _))) (fun _ _ _ _ _ => pv 21)) pa_nil)))))))
    (pss_cons (ps_if (PW.pt (pw_or (pt_not (pt_val (pe_call G.a1 hr1 (by rfl) T.g_law_alike T.F_law_alike.kp T.b_law_alike .nil pass0 (pa_cons (pe_call G.nd hr3 (by rfl) T.g_neighbour_distance T.F_neighbour_distance.kp T.b_neighbour_distance .nil pass0 (pa_cons (pv 14) (pa_cons (pv 8) pa_nil))) (pa_cons (pv 16) pa_nil)))))
        (pw_or1 (pt_cmpR op_ne (pe_callB call_len_seq (by rfl) T.z_len boot_len (pa_cons (pe_call G.nw hr3 (by rfl) T.g_neighbour_word T.F_neighbour_word.kp T.b_neighbour_word .nil pass0 (pa_cons (pv 14) (pa_cons (pv 8) pa_nil))) pa_nil)) (pv 16) (nomark _))))) (pss_one (ps_ret pe_bl)) pss_nil)
    (pss_cons (ps_try_as (i := 19) rfl rfl scLW.nd rfl rfl ⟨by rfl, by decide, .inl T.gBL⟩ LamX.takes0 (fun W pn xe tk _ => pss_one (ps_expr (pe_callS G.fw hr3 (by rfl) T.g_front_word T.F_front_word.kp T.b_front_word (fun σ => passAt tk σ)
        (pa_cons (pv 14) (pa_cons (pe_call G.pk hr2 (by rfl) T.g_law_pick T.F_law_pick.kp T.b_law_pick .nil pass0 (pa_cons (pv 1) (pa_cons (pe_lst (pa_cons pe_non (pa_cons (pe_op (r := rCatA K) op_catA (pv 14) (pe_tup (pa_cons (pv 13) pa_nil)))
          (pa_cons (pe_op (r := rRepT K) op_repT (pe_tup (pa_cons pe_int pa_nil)) (pe_op op_add (pv 13) pe_int)) (pa_cons (pe_callTy (r := rLo K) call_list_of (by rfl) T.z_list boot_list (pa_cons (pv 14) pa_nil)) pa_nil))))) pa_nil))) pa_nil)))))
        (fun a oe cls d pn hz hf => pss_one (ps_ret pe_bl)))
    (pss_one (ps_ret pe_bl))))))))), ?_⟩
  intro D R sa bn bf ns g nr fr H x0 x2 x3 x4 x5 x6 x7 x9 x10 x11 x12 x15 x16 x17 x18 x19 x20 x21 lc qT
  have hkl := Rm.kept_len lc.tw.la lc.tw.lb
  have hg40 := lc.tw.hi
  have hg1 := lc.tw.lo
  refine ⟨_, rfl, _, rfl, ?_⟩
  refine lc.tw.le fun H1 En S1 hEn => ?_
  have l1 := lc.step S1
  refine ⟨_, rfl, _, rfl, bn, bf, g, nr, fr, rfl, l1.tw, fun H2 Ke S2 hKe => ?_⟩
  have hEn2 := S2.t hEn
  have l2 := l1.step S2
  refine ⟨_, rfl, ?_⟩
  refine al_tup hKe hEn2 (Nat.le_trans hkl hg40) fun H3 S3 => ?_
  have s3 := Stp.same l2.dr.tb S3
  have l3 := l2.step s3
  have hEn3 := s3.t hEn2
  refine ⟨_, rfl, iteF ?_⟩
  refine ⟨_, rfl, _, rfl, bn, bf, g, nr, fr, rfl, l3.tw, fun H4 S4 => ?_⟩
  have hEn4 := S4.t hEn3
  have l4 := l3.step S4
  refine ⟨_, rfl, _, rfl, En, _, rfl, .inr (.of hEn4), _, _, rfl, rfl, ?_⟩
  have eD : (((g - (Rm.kept nr fr).length : Nat) : Int)) = (g : Int) - (((vI (Rm.kept nr fr)).length : Nat) : Int) := by rw [vI_length, Int.ofNat_sub hkl]
  refine al_int fun H5 S5 => ?_
  refine ⟨true, congrArg V.bl (decide_eq_true eD), iteF ?_⟩
  have s5 := Stp.same l4.dr.tb S5
  have l5 := l4.step s5
  have hEn5 := s5.t hEn4
  refine ⟨_, rfl, _, rfl, ?_⟩
  refine l5.tw.fw fun H6 Wd S6 hWd => ?_
  have l6 := l5.step S6
  have hEn6 := S6.t hEn5
  have hfl := Rm.frontWord_len lc.tw.la lc.tw.lb
  have e6 : V.int (((vI (Rm.frontWord nr fr)).length : Nat) : Int) = V.int ((g : Int) - (((vI (Rm.kept nr fr)).length : Nat) : Int)) := by rw [vI_length, hfl, eD]
  refine ⟨_, rfl, Wd, _, rfl, .inr (.of hWd), _, rfl, _, rfl, En, _, rfl, .inr (.of hEn6), _, _, rfl, rfl, rfl, _, rfl, iteNS e6 ?_⟩
  refine ⟨_, rfl, _, rfl, ⟨bn, Wd, g, nr, Rm.frontWord nr fr, rfl, l6.tw.a, l6.tw.la, hg40, hWd, Rm.frontWord_lt lc.tw.la lc.tw.lb, l6.tw.tb, fun H7 Gq S7 hGq => ?_⟩⟩
  rw [Rm.frontWord_run lc.tw.la lc.tw.lb, Rm.inv_inv lc.tw.lb] at hGq
  have l7 := l6.step S7
  refine ⟨_, rfl, .tuple (dN fr), .tuple (dN fr), .tup (.of hGq) (dp_all _), .tup (.of l7.tw.b) (dp_all _), shp_tup _, shp_tup _, ?_⟩
  rw [eqv_tup, decide_eq_true rfl]
  refine ⟨_, rfl, iteF ?_⟩
  have hcs := Rm.crossed_sum lc.tw.la lc.tw.lb
  have hcb := crossed_bound (o := fr) lc.tw.la
  refine ⟨_, rfl, (g : Int), rfl, by omega, by omega, ?_⟩
  refine for_it (walk_range (lo := 0) (n := g)) (fun i σ H8 => Stp K H7 H8 ∧ ∃ (v17 v18 v21 : Option V), σ = [x0, some (.ref R), x2, x3, x4, x5, x6, some (.ref Wd), some (.ref bf), x9, x10, x11, x12, some (.int (g : Int)), some (.ref bn), some (.ref En), some (.int ((((List.range i).map (Rm.behind nr fr g)).sum : Nat) : Int)), v17, v18, x19, x20, v21])
    ⟨Stp.same l7.dr.tb (Same.refl H7), x17, x18, x21, rfl⟩ (fun _ _ _ _ _ => trivial) ?_ ?_
  · rintro i x σ H8' H8 hi ⟨S8, v17, v18, v21, rfl⟩ ⟨rfl, rfl⟩
    have e0 : (fun i : Nat => V.int ((0 : Int) + (i : Nat))) i = V.int (i : Nat) := by
      show V.int ((0 : Int) + ((i : Nat) : Int)) = _
      rw [Int.zero_add]
    rw [e0]
    have t8 := l7.tw.step S8
    refine ⟨_, rfl, (g : Int), rfl, by omega, by omega, fun Bh hBh => ?_⟩
    have nB : ∀ c u, H8 c = some u → c ≠ Bh := fun c u e => ne_of_none e hBh
    refine lc_it (walk_range (lo := 0) (n := g)) (fun j H9 => H9 = upd H8 Bh (.lst (vI (((List.range g).take j).filter fun y => decide (nr.getD i 0 < nr.getD y 0))))) rfl (fun _ _ _ _ => trivial) ?_ ?_
    · rintro j y H9 H9' hj rfl ⟨rfl, rfl⟩
      have e1 : (fun i : Nat => V.int ((0 : Int) + (i : Nat))) j = V.int (j : Nat) := by
        show V.int ((0 : Int) + ((j : Nat) : Int)) = _
        rw [Int.zero_add]
      rw [e1]
      have hjr : j < (List.range g).length := by rw [List.length_range]; exact hj
      rw [fil_snoc hjr, Rm.getD_range hj]
      have hfl : (((List.range g).take j).filter fun y => decide (nr.getD i 0 < nr.getD y 0)).length ≤ 40 := Nat.le_trans (List.length_filter_le _ _) (by rw [List.length_take, List.length_range]; omega)
      generalize (((List.range g).take j).filter fun y => decide (nr.getD i 0 < nr.getD y 0)) = fl at hfl ⊢
      have ha9 : upd H8 Bh (.lst (vI fl)) bn = some (vT nr) := by rw [upd_ne (nB _ _ t8.a)]; exact t8.a
      refine ⟨rfl, ?_⟩
      refine ⟨_, rfl, _, rfl, bn, _, _, _, rfl, rfl, .of ha9, atI_nat (vI_at (by rw [lc.tw.la.len]; exact hi)), _, rfl, _, rfl, bn, _, _, _, rfl, rfl, .of ha9, atI_nat (vI_at (by rw [lc.tw.la.len]; exact hj)), _, _, rfl, rfl, _, rfl, ?_⟩
      by_cases cc : nr.getD i 0 < nr.getD j 0
      · refine ifT (decide_eq_true (by omega)) ?_
        refine ⟨_, rfl, _, upd_same, by rw [vI_length, sizeLine_eq]; omega, ?_⟩
        rw [upd_upd, vI_snoc, if_pos (decide_eq_true cc)]
      · refine ifF (decide_eq_false (by omega)) ?_
        rw [if_neg (by rw [decide_eq_false cc]; exact Bool.false_ne_true), List.append_nil]
    · rintro H9 rfl
      have et : (List.range g).take g = List.range g := List.take_of_length_le (by rw [List.length_range]; exact Nat.le_refl _)
      rw [et]
      have hbe : Rm.behind nr fr g i = ((List.range g).filter fun y => decide (nr.getD i 0 < nr.getD y 0)).countP fun y => decide (fr.getD y 0 < fr.getD i 0) := rfl
      have htl : ((List.range g).filter fun y => decide (nr.getD i 0 < nr.getD y 0)).length ≤ 40 := Nat.le_trans (List.length_filter_le _ _) (by rw [List.length_range]; omega)
      have htm : ∀ y ∈ (List.range g).filter fun y => decide (nr.getD i 0 < nr.getD y 0), y < g := fun y hy => List.mem_range.mp (List.mem_filter.mp hy).1
      generalize ((List.range g).filter fun y => decide (nr.getD i 0 < nr.getD y 0)) = tl at hbe htl htm ⊢
      have S9 := S8.trans (Stp.new (o := .lst (vI tl)) S8.2 hBh)
      have eB : upd H8 Bh (.lst (vI tl)) Bh = some (.lst (vI tl)) := upd_same
      generalize hE9 : upd H8 Bh (.lst (vI tl)) = H9 at S9 eB ⊢
      have t9 := l7.tw.step S9
      refine ⟨_, rfl, _, rfl, Bh, rfl, ⟨_, .of eB⟩, fun D2 hD2 => ?_⟩
      have nD : ∀ c u, H9 c = some u → c ≠ D2 := fun c u e => ne_of_none e hD2
      refine lc_it (walk_list (K := K) (a := Bh) (xs := vI tl)) (fun j H10 => H10 = upd H9 D2 (.lst (vI ((tl.take j).filter fun y => decide (fr.getD y 0 < fr.getD i 0))))) rfl (fun j H10 _ e => by rw [e]; exact .of (by rw [upd_ne (nD _ _ eB)]; exact eB)) ?_ ?_
      · rintro j y H10 H10' hj rfl ⟨rfl, hy⟩
        obtain ⟨rfl, hj2⟩ := vI_get hy
        have hyn := htm _ (Rm.getD_mem hj2)
        rw [fil_snoc hj2]
        have hfl : ((tl.take j).filter fun y => decide (fr.getD y 0 < fr.getD i 0)).length ≤ 40 := Nat.le_trans (List.length_filter_le _ _) (by rw [List.length_take]; omega)
        generalize ((tl.take j).filter fun y => decide (fr.getD y 0 < fr.getD i 0)) = fl at hfl ⊢
        generalize tl.getD j 0 = y at hyn hy ⊢
        have hb9 : upd H9 D2 (.lst (vI fl)) bf = some (vT fr) := by rw [upd_ne (nD _ _ t9.b)]; exact t9.b
        refine ⟨rfl, ?_⟩
        refine ⟨_, rfl, _, rfl, bf, _, _, _, rfl, rfl, .of hb9, atI_nat (vI_at (by rw [lc.tw.lb.len]; exact hi)), _, rfl, _, rfl, bf, _, _, _, rfl, rfl, .of hb9, atI_nat (vI_at (by rw [lc.tw.lb.len]; exact hyn)), _, _, rfl, rfl, _, rfl, ?_⟩
        by_cases cc : fr.getD y 0 < fr.getD i 0
        · refine ifT (decide_eq_true (by omega)) ?_
          refine ⟨_, rfl, _, upd_same, by rw [vI_length, sizeLine_eq]; omega, ?_⟩
          rw [upd_upd, vI_snoc, if_pos (decide_eq_true cc)]
        · refine ifF (decide_eq_false (by omega)) ?_
          rw [if_neg (by rw [decide_eq_false cc]; exact Bool.false_ne_true), List.append_nil]
      · rintro H10 rfl
        have et : tl.take (vI tl).length = tl := by rw [vI_length, List.take_length]
        rw [et]
        refine ⟨D2, _, rfl, .inl (.of upd_same), _, _, rfl, rfl, ?_⟩
        have es : (((List.range i).map (Rm.behind nr fr g)).sum : Int) + (((vI (tl.filter fun y => decide (fr.getD y 0 < fr.getD i 0))).length : Nat) : Int) = ((((List.range (i + 1)).map (Rm.behind nr fr g)).sum : Nat) : Int) := by
          rw [vI_length, ← List.countP_eq_length_filter, ← hbe, List.range_succ, List.map_append]
          simp
        refine ⟨S9.trans (Stp.new S9.2 hD2), some (V.int (i : Int)), some (.ref Bh), v21, ?_⟩
        rw [← es]
        rfl
  · rintro σ H8 ⟨S8, v17, v18, v21, rfl⟩
    rw [← hcs]
    have l8 := l7.step S8
    refine ⟨_, rfl, _, rfl, ?_⟩
    refine l8.tw.nd fun H9 S9 => ?_
    have l9 := l8.step S9
    refine ⟨_, rfl, ?_⟩
    refine al_int fun H10 S10 => ?_
    refine ⟨true, congrArg V.bl (decide_eq_true rfl), iteF ?_⟩
    have l10 := l9.step (Stp.same l9.dr.tb S10)
    refine ⟨_, rfl, _, rfl, ?_⟩
    refine l10.tw.nw fun H11 Nw S11 hNw => ?_
    have l11 := l10.step S11
    have enw : V.int (((vI (Rm.nbWord nr fr)).length : Nat) : Int) = V.int ((Rm.crossed nr fr : Nat) : Int) := by rw [vI_length, (Rm.nbWord_spec lc.tw.la lc.tw.lb).2.1]
    refine ⟨Nw, _, rfl, .inr (.of hNw), _, rfl, rfl, _, rfl, iteNS enw ?_⟩
    have t11 := l11.tw
    obtain ⟨ri, rm, rc, hRw, _⟩ := l11.dr.row
    refine ⟨_, rfl, _, rfl, _, rfl, _, rfl, (by show 1 ≤ sizeLine; decide), fun T1 hT1 => ?_⟩
    have z1 := Stp.new (o := .tup [V.int (g : Int)]) t11.tb hT1
    have e1 : upd H11 T1 (.tup [V.int (g : Int)]) T1 = some (.tup [V.int (g : Int)]) := upd_same
    have hR1 := z1.l hRw
    generalize hE1 : upd H11 T1 (.tup [V.int (g : Int)]) = H12 at z1 e1 hR1 ⊢
    have l12 := l11.step z1
    refine catA_use l12.tw.a e1 (by rw [vI_length, lc.tw.la.len, sizeLine_eq]; show g + 1 ≤ _; omega) (fun z => by cases z) fun H13 C1 S13 hC1 => ?_
    rw [cat_len] at hC1
    have z13 := Stp.same l12.dr.tb S13
    have l13 := l12.step z13
    have hR3 := z13.l hR1
    refine ⟨(by show 1 ≤ sizeLine; decide), fun T2 hT2 => ?_⟩
    have z14 := Stp.new (o := .tup [V.int 0]) l13.dr.tb hT2
    have e2 : upd H13 T2 (.tup [V.int 0]) T2 = some (.tup [V.int 0]) := upd_same
    have hR4 := z14.l hR3
    have hC4 := z14.t hC1
    generalize hE2 : upd H13 T2 (.tup [V.int 0]) = H14 at z14 e2 hR4 hC4 ⊢
    have l14 := l13.step z14
    refine ⟨_, rfl, _, _, rfl, rfl, T2, _, [V.int 0], rfl, rfl, .of e2, (fun z => by cases z), by omega, by omega, (by show 1 ≤ 1000; decide), fun C2 hC2 => ?_⟩
    have er : (List.replicate ((g : Int) + 1).toNat [V.int 0]).flatten = vI (List.replicate (g + 1) 0) := by
      rw [show ((g : Int) + 1).toNat = g + 1 by omega]
      exact rep_vI (g + 1)
    rw [er]
    have z15 := Stp.new (o := vT (List.replicate (g + 1) 0)) l14.dr.tb hC2
    have eC2 : upd H14 C2 (vT (List.replicate (g + 1) 0)) C2 = some (vT (List.replicate (g + 1) 0)) := upd_same
    have hR5 := z15.l hR4
    have hC5 := z15.t hC4
    generalize hE3 : upd H14 C2 (.tup (vI (List.replicate (g + 1) 0))) = H15 at z15 eC2 hR5 hC5 ⊢
    have l15 := l14.step z15
    refine ⟨_, rfl, bn, _, rfl, .inr (.of l15.tw.a), fun C3 hC3 => ?_⟩
    have z16 := Stp.new (o := .lst (vI nr)) l15.dr.tb hC3
    have eC3 : upd H15 C3 (.lst (vI nr)) C3 = some (.lst (vI nr)) := upd_same
    have hR6 := z16.l hR5
    have hC6 := z16.t hC5
    have hC26 := z16.t eC2
    generalize hE4 : upd H15 C3 (.lst (vI nr)) = H16 at z16 eC3 hR6 hC6 hC26 ⊢
    have l16 := l15.step z16
    refine ⟨(by show 4 ≤ sizeLine; decide), fun L hL => ?_⟩
    have z17 := Stp.new (o := .lst [V.non, .ref C1, .ref C2, .ref C3]) l16.dr.tb hL
    have eL : upd H16 L (.lst [V.non, .ref C1, .ref C2, .ref C3]) L = some (.lst [V.non, .ref C1, .ref C2, .ref C3]) := upd_same
    have hC7 := z17.t hC6
    have hC27 := z17.t hC26
    have hC37 := z17.l eC3
    have nLR : L ≠ R := (ne_of_none hR6 hL).symm
    have n3R : C3 ≠ R := (ne_of_none hR5 hC3).symm
    have n1 : C1 ≠ R := fun z => by rw [z, hR6] at hC6; cases hC6
    have n2 : C2 ≠ R := fun z => by rw [z, hR6] at hC26; cases hC26
    generalize hE5 : upd H16 L (.lst [V.non, .ref C1, .ref C2, .ref C3]) = H17 at z17 eL hC7 hC27 hC37 ⊢
    have l17 := l16.step z17
    have nbR : bn ≠ R := fun z => by
      have := l16.tw.a
      rw [z, hR6] at this
      cases this
    have nfR : bf ≠ R := fun z => by
      have := l16.tw.b
      rw [z, hR6] at this
      cases this
    refine ⟨⟨R, sa, L, ns, _, rfl, l17.dr, eL, nLR, (by show 1 ≤ 4; decide), (by show 4 ≤ 1000; decide), fun H18 v hv d18 hk => ?_⟩⟩
    have ha : H18 bn = some (vT nr) := by rw [hk bn nbR]; exact l17.tw.a
    have ok := okL_of lc.tw.la hg1 hg40
    obtain ⟨oo, h1, h2⟩ : ∃ oo : Option Rm.LN, LayArg H18 v oo ∧ ¬ Fits nr oo := by
      have nfit : ∀ o : Rm.LN, o.length ≠ nr.length → ¬ Fits nr (some o) := fun o hne z => by
        obtain ⟨o', e, _, h⟩ := z
        cases e
        exact hne h
      have nnone : ¬ Fits nr none := fun z => by
        obtain ⟨o', e, _⟩ := z
        cases e
      have hnl := lc.tw.la.len
      rcases List.mem_cons.mp hv with rfl | hv
      · exact ⟨none, .inl ⟨rfl, rfl⟩, nnone⟩
      rcases List.mem_cons.mp hv with rfl | hv
      · exact ⟨some (nr ++ [g]), .inr (.inr ⟨C1, _, rfl, by rw [hk C1 n1]; exact hC7, by rw [List.length_append, hnl]; show g + 1 ≤ 100; omega, rfl⟩), nfit _ (by rw [List.length_append]; show nr.length + 1 ≠ _; omega)⟩
      rcases List.mem_cons.mp hv with rfl | hv
      · exact ⟨some (List.replicate (g + 1) 0), .inr (.inr ⟨C2, _, rfl, by rw [hk C2 n2]; exact hC27, by rw [List.length_replicate]; omega, rfl⟩), nfit _ (by rw [List.length_replicate]; omega)⟩
      obtain rfl := List.mem_singleton.mp hv
      exact ⟨none, .inr (.inl ⟨C3, _, rfl, by rw [hk C3 n3R]; exact hC37, rfl⟩), nnone⟩
    refine ⟨.inr ⟨_, v, nr, oo, rfl, arg_of ha lc.tw.la hg40, okL_of lc.tw.la hg1 hg40, h1, d18.tb, h2, fun H' _ => ?_⟩⟩
    exact ⟨true, T.eBL, fun _ a _ => qT _, fun q => nomatch q⟩
end
end Rs
set_option maxHeartbeats 16000000
/-! the law: the turning by hand, the great layouts -/
namespace Rs
open PySem PySem.Spec PyProof.Rows L2 LamX SX
section
variable {P : Program} {w : World} {K : PySem.W.Frag} {mg : Str → Option Value} {base : Heap}
theorem sl_use {H : Hp} {a : Addr} {l : List Nat} {lo hi : Option Int} {Q : VK} (ha : H a = some (.tup (vI l))) (q : ∀ H' p, Same H H' → H' p = some (.tup (cutV (vI l) lo hi)) → Q (.ref p) H') : rSlA K (.ref a) lo hi H Q := by
  refine ⟨a, vI l, rfl, .of ha, fun h => q H a (Same.refl H) ?_, fun _ p hp => q _ p (same_new hp) upd_same⟩
  rw [ha]
  unfold cutV
  rw [h.1, h.2, List.drop_zero, Nat.sub_zero, List.take_length]
theorem catA_any {H : Hp} {a b : Addr} {xs ys : List V} {Q : VK} (ha : H a = some (.tup xs)) (hb : H b = some (.tup ys)) (hl : xs.length + ys.length ≤ sizeLine)
    (q : ∀ H' p, Same H H' → H' p = some (.tup (xs ++ ys)) → Q (.ref p) H') : rCatA K (.ref a) (.ref b) H Q :=
  ⟨a, b, xs, ys, rfl, rfl, .of ha, .of hb, hl, fun e => q H b (Same.refl H) (by rw [e]; exact hb), fun _ e => q H a (Same.refl H) (by rw [e, List.append_nil]; exact ha), fun _ _ p hp => q _ p (same_new hp) upd_same⟩
theorem law_b2 (T : Tx K mg) (G : Pr P w K mg base) {A : Around} {outer : List Env} {s : Shared} {H0 : Hp} {E : XK} (hr : Room 5 (lawA K A s)) : ∃ t, PSs (lawX P w K mg base A outer s H0 E) ((defBody s_law).drop 10) t ∧
    ∀ (D : Ends) (R sa : Addr) (ns : List Int) (H : Hp) (x0 x2 x3 x4 x5 x6 x7 x8 x9 x10 x11 x12 x13 x14 x15 x16 x17 x18 x19 x20 x21 : Option V), Dr K R sa ns H → (∀ H', D.rt (.bl true) H') →
      t D [x0, some (.ref R), x2, x3, x4, x5, x6, x7, x8, x9, x10, x11, x12, x13, x14, x15, x16, x17, x18, x19, x20, x21] H := by
  have hr2 : Room 2 (lawA K A s) := hr.mono (by decide)
  have hr1 : Room 1 (lawA K A s) := hr.mono (by decide)
  obtain ⟨tc, hc, uc⟩ := law_c T G (outer := outer) (H0 := H0) (E := E) hr
  have e : (defBody s_law).drop 10 = _ :: _ :: _ :: (defBody s_law).drop 13 := rfl
  rw [e]
  clear e
  refine ⟨_, pss_cons (ps_set (i := 13) scLW.nd rfl (.inl rfl) (pe_op op_add pe_int (pe_call G.tk hr1 (by rfl) T.g_law_taken T.F_law_taken.kp T.b_law_taken .nil pass0 (pa_cons (pv 1) (pa_cons pe_int pa_nil)))))
    (pss_cons (ps_asg (pe_tup (pa_cons (pe_call G.lp hr2 (by rfl) T.g_law_permutation T.F_law_permutation.kp T.b_law_permutation .nil pass0 (pa_cons (pv 1) (pa_cons (pv 13) pa_nil))) (pa_cons (pe_call G.lp hr2 (by rfl) T.g_law_permutation T.F_law_permutation.kp T.b_law_permutation .nil pass0 (pa_cons (pv 1) (pa_cons (pv 13) pa_nil))) pa_nil)))
        (pg_tup (by rfl) (pgs_cons (pg_name (i := 14) scLW.nd rfl (.inr rfl)) (pgs_cons (pg_name (i := 8) scLW.nd rfl (.inr rfl)) pgs_nil))))
    (pss_cons (ps_if (pt_cmpR op_eq (pe_call G.tk hr1 (by rfl) T.g_law_taken T.F_law_taken.kp T.b_law_taken .nil pass0 (pa_cons (pv 1) (pa_cons pe_int pa_nil))) pe_int (nomark _))
        (pss_one (ps_set (i := 8) scLW.nd rfl (.inr rfl) (pe_op (r := rCatA K) op_catA (pe_slice sl_tupA (pv 14) po_none (po_some pe_int)) (pe_slice sl_tupA (pv 14) (po_some pe_int) po_none)))) pss_nil)
    hc)), ?_⟩
  intro D R sa ns H x0 x2 x3 x4 x5 x6 x7 x8 x9 x10 x11 x12 x13 x14 x15 x16 x17 x18 x19 x20 x21 d qT
  refine ⟨_, rfl, ?_⟩
  refine Dr.tk (n := 40) d (by decide) (by decide) fun H1 r hr40 d1 hk1 => ?_
  refine ⟨_, _, rfl, rfl, ?_⟩
  refine ⟨_, rfl, _, rfl, ⟨R, sa, ns, 1 + r, rfl, d1, by omega, by omega, fun H2 bn nr d2 X2 Ln hbn => ?_⟩⟩
  refine ⟨_, rfl, _, rfl, ⟨R, sa, ns, 1 + r, rfl, d2, by omega, by omega, fun H3 bf fr d3 X3 Lf hbf => ?_⟩⟩
  obtain ⟨ri, rm, rc, hRw, _⟩ := d2.row
  have nbR : bn ≠ R := fun z => by
    rw [z, hRw] at hbn
    cases hbn
  have hbn3 : H3 bn = some (vT nr) := X3 bn _ nbR hbn fun ps z => by cases z
  refine ⟨(by show 2 ≤ sizeLine; decide), fun Tp hTp => ?_⟩
  have z4 := Stp.new (o := .tup [.ref bn, .ref bf]) d3.tb hTp
  have e4 : upd H3 Tp (.tup [.ref bn, .ref bf]) Tp = some (.tup [.ref bn, .ref bf]) := upd_same
  have hbn4 := z4.t hbn3
  have hbf4 := z4.t hbf
  have d4 := d3.step z4
  generalize hE4 : upd H3 Tp (.tup [.ref bn, .ref bf]) = H4 at z4 e4 hbn4 hbf4 d4 ⊢
  refine ⟨Tp, [.ref bn, .ref bf], rfl, .of e4, rfl, _, [.ref bf], rfl, _, [], rfl, rfl, ?_⟩
  refine ⟨_, rfl, ?_⟩
  obtain ⟨ri4, rm4, rc4, hRw4, _⟩ := d4.row
  have nfR : bf ≠ R := fun z => by
    rw [z, hRw4] at hbf4
    cases hbf4
  refine Dr.tk (n := 2) d4 (by decide) (by decide) fun H5 r2 _ d5 hk5 => ?_
  have hbn5 : H5 bn = some (vT nr) := by rw [hk5 bn nbR]; exact hbn4
  have hbf5 : H5 bf = some (vT fr) := by rw [hk5 bf nfR]; exact hbf4
  refine ⟨rfl, _, rfl, ?_⟩
  refine ite2 (fun _ => ?_) fun _ => ?_
  · refine ⟨_, rfl, _, rfl, ?_⟩
    refine sl_use hbn5 fun H6 C1 S6 hC1 => ?_
    refine ⟨_, rfl, _, rfl, ?_⟩
    show rSlA K (.ref bn) (some 1) none H6 fun y H2 => rCatA K (.ref C1) y H2 _
    refine sl_use (S6 _ _ hbn5) fun H7 C2 S7 hC2 => ?_
    have ec1 : cutV (vI nr) none (some 1) = vI (nr.take 1) := cut_to (m := 1)
    have ec2 : cutV (vI nr) (some 1) none = vI (nr.drop 1) := cut_from (m := 1)
    rw [ec1] at hC1
    rw [ec2] at hC2
    refine catA_any (S7 _ _ hC1) hC2 (by rw [vI_length, vI_length, List.length_take, List.length_drop, Ln.len, sizeLine_eq]; omega) fun H8 C3 S8 hC3 => ?_
    have ev : vI (nr.take 1) ++ vI (nr.drop 1) = vI nr := by
      unfold vI
      rw [← List.map_append, List.take_append_drop]
    rw [ev] at hC3
    have s8 := Stp.same d5.tb ((S6.trans S7).trans S8)
    exact uc D R sa bn C3 ns (1 + r) nr nr H8 _ _ _ _ _ _ _ _ _ _ _ _ _ _ _ _ _ _ ⟨d5.step s8, ⟨s8.t hbn5, Ln, hC3, Ln, by omega, by omega, s8.2⟩⟩ qT
  · exact uc D R sa bn bf ns (1 + r) nr fr H5 _ _ _ _ _ _ _ _ _ _ _ _ _ _ _ _ _ _ ⟨d5, ⟨hbn5, Ln, hbf5, Lf, by omega, by omega, d5.tb⟩⟩ qT
theorem law_b (T : Tx K mg) (G : Pr P w K mg base) {A : Around} {outer : List Env} {s : Shared} {H0 : Hp} {E : XK} (hr : Room 5 (lawA K A s)) : ∃ t, PSs (lawX P w K mg base A outer s H0 E) ((defBody s_law).drop 8) t ∧
    ∀ (D : Ends) (R sa a : Addr) (ns : List Int) (n : Nat) (one : Rm.LN) (H : Hp) (x0 x4 x5 x6 x7 x8 x9 x10 x11 x12 x13 x14 x15 x16 x17 x18 x19 x20 x21 : Option V), Dr K R sa ns H → H a = some (vT one) → Rm.Lay n one → 2 ≤ n → n ≤ 5 → (∀ H', D.rt (.bl true) H') →
      t D [x0, some (.ref R), some (.int (n : Int)), some (.ref a), x4, x5, x6, x7, x8, x9, x10, x11, x12, x13, x14, x15, x16, x17, x18, x19, x20, x21] H := by
  have hr3 : Room 3 (lawA K A s) := hr.mono (by decide)
  have hr2 : Room 2 (lawA K A s) := hr.mono (by decide)
  have hr1 : Room 1 (lawA K A s) := hr.mono (by decide)
  obtain ⟨tc, hc, uc⟩ := law_b2 T G (outer := outer) (H0 := H0) (E := E) hr
  have e : (defBody s_law).drop 8 = _ :: _ :: (defBody s_law).drop 10 := rfl
  rw [e]
  clear e
  refine ⟨_, pss_cons (ps_set (i := 12) scLW.nd rfl (.inr rfl) (pe_call G.tk hr1 (by rfl) T.g_law_taken T.F_law_taken.kp T.b_law_taken .nil pass0 (pa_cons (pv 1) (pa_cons (pv 2) pa_nil))))
    (pss_cons (ps_if (pt_cmpR (op_neD hr.units) (pe_call G.tw hr3 (by rfl) T.g_turning_word T.F_turning_word.kp T.b_turning_word .nil pass0 (pa_cons (pv 3) (pa_cons (pe_tupleOf (by rfl) T.z_tuple (pe_lc (own := [("_law_place", 20)]) (g := gName 20) (tt := tYes) (by rfl) scLW.nd (pi_tup (pv 3)) (blkOk_by (own := [("_law_place", 20)]) (N := nLW) (sc := defScope s_law) (by decide +kernel))
        (fun _ _ _ _ _ => pg_name (i := 20) scLW.nd rfl (Or.inl rfl)) (fun _ _ _ _ _ => pts_nil) (fun _ _ _ _ _ => pe_op op_modN (pe_op op_add (pv 20) (pv 12)) (pv 2)))) pa_nil)))
        (pe_ifExp (pt_cmpR op_gt (pv 12) pe_int (nomark _)) (pe_tup (pa_cons (pv 12) pa_nil)) (pe_tup pa_nil)) (nomark _)) (pss_one (ps_ret pe_bl)) pss_nil)
    hc), ?_⟩
  intro D R sa a ns n one H x0 x4 x5 x6 x7 x8 x9 x10 x11 x12 x13 x14 x15 x16 x17 x18 x19 x20 x21 d ha L n2 n5 qT
  obtain ⟨ri, rm, rc, hRw, _⟩ := d.row
  have naR : a ≠ R := fun z => by
    rw [z, hRw] at ha
    cases ha
  refine ⟨_, rfl, _, rfl, ?_⟩
  refine d.tk (by omega) (by omega) fun H1 r hrn d1 hk1 => ?_
  have ha1 : H1 a = some (vT one) := by rw [hk1 a naR]; exact ha
  refine ⟨_, rfl, _, rfl, a, rfl, ⟨_, .of ha1⟩, fun D1 hD1 => ?_⟩
  have nD : ∀ c u, H1 c = some u → c ≠ D1 := fun c u e => ne_of_none e hD1
  refine lc_it (walk_tup (K := K) (a := a) (xs := vI one)) (fun j H2 => H2 = upd H1 D1 (.lst (vI ((one.take j).map fun s => (s + r) % n)))) rfl (fun j H2 _ e => by rw [e]; exact .of (by rw [upd_ne (nD _ _ ha1)]; exact ha1)) ?_ ?_
  · rintro j y H2 H2' hj rfl ⟨rfl, hy⟩
    obtain ⟨rfl, hj2⟩ := vI_get hy
    have hl := L.len
    refine ⟨rfl, ?_⟩
    refine yes_use ?_
    refine ⟨_, rfl, _, rfl, _, _, rfl, rfl, _, rfl, _, _, rfl, rfl, (by omega), _, upd_same, by rw [vI_length, List.length_map, List.length_take, sizeLine_eq]; omega, ?_⟩
    have ev : V.int (Int.fmod ((one.getD j 0 : Nat) + (r : Nat) : Int) (n : Int)) = V.int (((one.getD j 0 + r) % n : Nat) : Int) := by
      rw [Int.fmod_eq_emod_of_nonneg _ (by omega), ← Int.natCast_add, ← Int.natCast_emod]
    rw [upd_upd, take_snoc hj2, List.map_append]
    show _ = upd H1 D1 (.lst (vI (((one.take j).map fun s => (s + r) % n) ++ [(one.getD j 0 + r) % n])))
    rw [← vI_snoc, ← ev]
  · rintro H2 rfl
    have et : one.take (vI one).length = one := by rw [vI_length, List.take_length]
    rw [et]
    refine .inl ⟨D1, _, rfl, .of upd_same, fun C hC => ?_⟩
    have s2 := Stp.new (o := .lst (vI (one.map fun s => (s + r) % n))) d1.tb hD1
    have s3 := s2.trans (Stp.new (o := vT (one.map fun s => (s + r) % n)) s2.2 hC)
    refine Two.tw (n := n) (p := one) (o := one.map fun s => (s + r) % n) ⟨s3.t ha1, L, upd_same, Rm.shift_lay L hrn, by omega, by omega, s3.2⟩ fun H4 v S4 hv => ?_
    rw [Rm.turn_shift (by omega) L hrn] at hv
    have d4 := d1.step (s3.trans S4)
    refine ⟨_, rfl, _, _, rfl, rfl, _, rfl, ?_⟩
    by_cases r0 : r = 0
    · refine ifF (decide_eq_false (by omega)) ?_
      rw [if_pos r0] at hv
      rcases hv with ⟨_, z⟩ | ⟨c, x, rfl, ex, hc⟩
      · cases z
      · cases ex
        refine ⟨Nat.zero_le _, fun e he => ?_⟩
        have s5 := Stp.new (o := .tup []) S4.2 he
        refine ⟨.tuple (dN []), .tuple (dN []), .tup (.of (s5.t hc)) (dp_all _), .tup (.of upd_same) (dp_all []), shp_tup _, shp_tup _, ?_⟩
        rw [eqv_tup, decide_eq_true rfl]
        refine ⟨_, rfl, iteF ?_⟩
        exact uc D R sa ns _ _ _ _ _ _ _ _ _ _ _ _ _ _ _ _ _ _ _ _ _ _ (d4.step s5) qT
    · refine ifT (decide_eq_true (by omega)) ?_
      rw [if_neg r0] at hv
      rcases hv with ⟨_, z⟩ | ⟨c, x, rfl, ex, hc⟩
      · cases z
      · cases ex
        refine ⟨_, rfl, (by show 1 ≤ sizeLine; decide), fun e he => ?_⟩
        have s5 := Stp.new (o := vT [r]) S4.2 he
        refine ⟨.tuple (dN [r]), .tuple (dN [r]), .tup (.of (s5.t hc)) (dp_all _), .tup (.of upd_same) (dp_all [r]), shp_tup _, shp_tup _, ?_⟩
        rw [eqv_tup, decide_eq_true rfl]
        refine ⟨_, rfl, iteF ?_⟩
        exact uc D R sa ns _ _ _ _ _ _ _ _ _ _ _ _ _ _ _ _ _ _ _ _ _ _ (d4.step s5) qT
end
end Rs
set_option maxHeartbeats 16000000
/-! the law: the turning shelf -/
namespace Rs
open PySem PySem.Spec PyProof.Rows L2 LamX SX
theorem WdV.stp {K : PySem.W.Frag} {H H' : Hp} {v : V} {r : Option Rm.LN} (h : WdV H v r) (s : Stp K H H') : WdV H' v r := by
  rcases h with h | ⟨c, x, h1, h2, h3⟩
  · exact .inl h
  · exact .inr ⟨c, x, h1, h2, s.t h3⟩
section
variable {P : Program} {w : World} {K : PySem.W.Frag} {mg : Str → Option Value} {base : Heap}
theorem law_a2 (T : Tx K mg) (G : Pr P w K mg base) {A : Around} {outer : List Env} {s : Shared} {H0 : Hp} {E : XK} (hr : Room 5 (lawA K A s)) : ∃ t, PSs (lawX P w K mg base A outer s H0 E) ((defBody s_law).drop 5) t ∧
    ∀ (D : Ends) (R sa a b : Addr) (ns : List Int) (n : Nat) (one oth : Rm.LN) (H : Hp) (x0 x5 x6 x7 x8 x9 x10 x11 x12 x13 x14 x15 x16 x17 x18 x19 x20 x21 : Option V), Dr K R sa ns H → Two K H a b n one oth → 2 ≤ n → n ≤ 5 → (∀ H', D.rt (.bl true) H') →
      t D [x0, some (.ref R), some (.int (n : Int)), some (.ref a), some (.ref b), x5, x6, x7, x8, x9, x10, x11, x12, x13, x14, x15, x16, x17, x18, x19, x20, x21] H := by
  have hr4 : Room 4 (lawA K A s) := hr.mono (by decide)
  have hr3 : Room 3 (lawA K A s) := hr.mono (by decide)
  have hr2 : Room 2 (lawA K A s) := hr.mono (by decide)
  obtain ⟨tc, hc, uc⟩ := law_b T G (outer := outer) (H0 := H0) (E := E) hr
  have e : (defBody s_law).drop 5 = _ :: _ :: _ :: (defBody s_law).drop 8 := rfl
  rw [e]
  clear e
  refine ⟨_, pss_cons (ps_par (i := 11) (j := 9) rfl scLW.nd rfl rfl (by decide) rfl rfl (pa_cons (pe_call G.tw hr3 (by rfl) T.g_turning_word T.F_turning_word.kp T.b_turning_word .nil pass0 (pa_cons (pv 3) (pa_cons (pv 4) pa_nil)))
        (pa_cons (pe_call G.ds hr (by rfl) T.g_distance T.F_distance.kp T.b_distance .nil pass0 (pa_cons (pe_call G.th hr2 (by rfl) T.g_turning_habit T.F_turning_habit.kp T.b_turning_habit .nil pass0 (pa_cons (pv 2) pa_nil)) (pa_cons (pv 3) (pa_cons (pv 4) pa_nil)))) pa_nil)) (by rfl))
    (pss_cons (ps_if (PW.pt (pw_or (pt_cmpR op_ne (pe_cmpR op_isN (pv 11) pe_non (nomark _)) (pe_cmpR op_isN (pv 9) pe_non (nomark _)) (nomark _))
        (pw_or1 (PW.pt (pw_and (pt_cmpR op_notN (pv 11) pe_non (nomark _)) (pw_and1 (pt_cmpR op_ne (pe_callB call_len_seq (by rfl) T.z_len boot_len (pa_cons (pv 11) pa_nil)) (pv 9) (nomark _)))))))) (pss_one (ps_ret pe_bl)) pss_nil)
    (pss_cons (ps_if (PW.pt (pw_and (pt_cmpR op_notN (pv 11) pe_non (nomark _)) (pw_and1 (pt_cmpR (op_neD hr.units) (pe_call G.af hr4 (by rfl) T.g_after T.F_after.kp T.b_after .nil pass0 (pa_cons (pe_call G.th hr2 (by rfl) T.g_turning_habit T.F_turning_habit.kp T.b_turning_habit .nil pass0 (pa_cons (pv 2) pa_nil)) (pa_cons (pv 3) (pa_cons (pv 11) pa_nil)))) (pv 4) (nomark _))))) (pss_one (ps_ret pe_bl)) pss_nil)
    hc)), ?_⟩
  intro D R sa a b ns n one oth H x0 x5 x6 x7 x8 x9 x10 x11 x12 x13 x14 x15 x16 x17 x18 x19 x20 x21 d t n2 n5 qT
  refine ⟨_, rfl, _, rfl, ?_⟩
  refine t.tw fun H1 v S1 hv => ?_
  refine ⟨_, rfl, n, rfl, n2, n5, fun H2 hb S2 hH => ?_⟩
  have s2 := Stp.same S1.2 S2
  have t2 := (t.step S1).step s2
  refine ⟨_, rfl, _, rfl, hb, a, b, Rm.tuHab n, n, one, oth, rfl, hH, Rm.tu_ok n, n2, n5, t2.a, t2.la, t2.b, t2.lb, t2.tb, fun H3 r S3 hd => ?_⟩
  have t3 := t2.step S3
  have d3 := ((d.step S1).step s2).step S3
  have hv3 := (hv.stp s2).stp S3
  refine ⟨_, _, rfl, ?_⟩
  rcases Rm.turn_dist (by omega) t.la t.lb hd with ⟨ew, rfl⟩ | ⟨wd, v', ew, rfl, el, erun, hlt⟩
  · rw [ew] at hv3
    rcases hv3 with ⟨rfl, _⟩ | ⟨_, _, _, z, _⟩
    · refine ⟨_, rfl, rfl, _, rfl, rfl, rfl, _, rfl, iteNS rfl ?_⟩
      refine ⟨_, rfl, rfl, _, rfl, iteNS rfl (iteF ?_)⟩
      refine ⟨_, rfl, rfl, _, rfl, iteNS rfl (iteF ?_)⟩
      exact uc D R sa a ns n one H3 _ _ _ _ _ _ _ _ _ _ _ _ _ _ _ _ _ _ _ d3 t3.a t3.la n2 n5 qT
    · cases z
  · rw [ew] at hv3
    rcases hv3 with ⟨_, z⟩ | ⟨c, x, rfl, ex, hcw⟩
    · cases z
    · cases ex
      have nn1 : decide (V.ref c = V.non) = false := decide_eq_false fun z => by cases z
      have nn2 : decide (dV (some v') = V.non) = false := decide_eq_false fun z => by cases z
      have el2 : V.int (((vI wd).length : Nat) : Int) = dV (some v') := by
        rw [vI_length]
        show _ = V.int ((v'.length : Nat) : Int)
        rw [el]
      have hwl : wd.length ≤ 1 := by
        have : Rm.turnOf (Rm.diffs n one oth) = some wd := ew
        unfold Rm.turnOf at this
        split at this
        · cases this
        · split at this
          · split at this
            · cases this
              exact Nat.zero_le _
            · cases this
              exact Nat.le_refl _
          · cases this
      refine ⟨_, rfl, rfl, _, rfl, rfl, rfl, _, rfl, iteNS (by rw [nn1, nn2]) ?_⟩
      refine ⟨_, rfl, rfl, _, rfl, ifT (by rw [nn1]; rfl) ?_⟩
      refine ⟨_, rfl, c, _, rfl, .inr (.of hcw), _, rfl, rfl, _, rfl, iteNS el2 ?_⟩
      refine ⟨_, rfl, rfl, _, rfl, ifT (by rw [nn1]; rfl) ?_⟩
      refine ⟨_, rfl, n, rfl, n2, n5, fun H4 hb4 S4 hH4 => ?_⟩
      have s4 := Stp.same t3.tb S4
      have t4 := t3.step s4
      refine ⟨_, rfl, _, rfl, hb4, a, c, Rm.tuHab n, n, one, wd, rfl, hH4, Rm.tu_ok n, n2, n5, t4.a, t4.la, s4.t hcw, hlt, by omega, t4.tb, fun H5 q S5 hq => ?_⟩
      rw [erun] at hq
      have t5 := t4.step S5
      refine ⟨_, rfl, .tuple (dN oth), .tuple (dN oth), .tup (.of hq) (dp_all _), .tup (.of t5.b) (dp_all _), shp_tup _, shp_tup _, ?_⟩
      rw [eqv_tup, decide_eq_true rfl]
      refine ⟨_, rfl, iteF ?_⟩
      exact uc D R sa a ns n one H5 _ _ _ _ _ _ _ _ _ _ _ _ _ _ _ _ _ _ _ ((d3.step s4).step S5) t5.a t5.la n2 n5 qT
end
end Rs
set_option maxHeartbeats 16000000
/-! the law: front and neighbour; the law whole -/
namespace Rs
open PySem PySem.Spec PyProof.Rows L2 LamX SX
section
variable {P : Program} {w : World} {K : PySem.W.Frag} {mg : Str → Option Value} {base : Heap}
theorem law_a1 (T : Tx K mg) (G : Pr P w K mg base) {A : Around} {outer : List Env} {s : Shared} {H0 : Hp} {E : XK} (hr : Room 5 (lawA K A s)) : ∃ t, PSs (lawX P w K mg base A outer s H0 E) ((defBody s_law).drop 2) t ∧
    ∀ (D : Ends) (R sa : Addr) (ns : List Int) (n : Nat) (H : Hp) (x0 x3 x4 x5 x6 x7 x8 x9 x10 x11 x12 x13 x14 x15 x16 x17 x18 x19 x20 x21 : Option V), Dr K R sa ns H → 2 ≤ n → n ≤ 5 → (∀ H', D.rt (.bl true) H') →
      t D [x0, some (.ref R), some (.int (n : Int)), x3, x4, x5, x6, x7, x8, x9, x10, x11, x12, x13, x14, x15, x16, x17, x18, x19, x20, x21] H := by
  have hr4 : Room 4 (lawA K A s) := hr.mono (by decide)
  have hr3 : Room 3 (lawA K A s) := hr.mono (by decide)
  have hr2 : Room 2 (lawA K A s) := hr.mono (by decide)
  have hr1 : Room 1 (lawA K A s) := hr.mono (by decide)
  have cFH : C8.CalAt P w K mg base 2 (He.ga K "front_habit") (spHab Rm.frontHab) := ⟨_, _, G.fh, T.F_front_habit.kp, T.b_front_habit⟩
  have cNH : C8.CalAt P w K mg base 2 (He.ga K "neighbour_habit") (spHab Rm.nbHab) := ⟨_, _, G.nh, T.F_neighbour_habit.kp, T.b_neighbour_habit⟩
  have cFW : C8.CalAt P w K mg base 3 (He.ga K "front_word") (fun vs H Q _ => spFW K vs H Q fun _ _ _ => False) := ⟨_, _, fn_calm G.fw, T.F_front_word.kp, T.b_front_word⟩
  have cNW : C8.CalAt P w K mg base 3 (He.ga K "neighbour_word") (spNW K) := ⟨_, _, G.nw, T.F_neighbour_word.kp, T.b_neighbour_word⟩
  have cFD : C8.CalAt P w K mg base 3 (He.ga K "front_distance") (spFD K) := ⟨_, _, G.fd, T.F_front_distance.kp, T.b_front_distance⟩
  have cND : C8.CalAt P w K mg base 3 (He.ga K "neighbour_distance") (spND K) := ⟨_, _, G.nd, T.F_neighbour_distance.kp, T.b_neighbour_distance⟩
  obtain ⟨tc, hc, uc⟩ := law_a2 T G (outer := outer) (H0 := H0) (E := E) hr
  have e : (defBody s_law).drop 2 = _ :: _ :: _ :: (defBody s_law).drop 5 := rfl
  rw [e]
  clear e
  refine ⟨_, pss_cons (ps_par (i := 3) (j := 4) rfl scLW.nd rfl rfl (by decide) rfl rfl (pa_cons (pe_call G.lp hr2 (by rfl) T.g_law_permutation T.F_law_permutation.kp T.b_law_permutation .nil pass0 (pa_cons (pv 1) (pa_cons (pv 2) pa_nil))) (pa_cons (pe_call G.lp hr2 (by rfl) T.g_law_permutation T.F_law_permutation.kp T.b_law_permutation .nil pass0 (pa_cons (pv 1) (pa_cons (pv 2) pa_nil))) pa_nil)) (by rfl))
    (pss_cons (ps_set (i := 5) scLW.nd rfl (.inl rfl) (pe_lst (pa_cons (pe_tup (pa_cons (pe_glob (v := .ref (He.ga K "front_habit")) (by rfl) T.g_front_habit rfl) (pa_cons (pe_glob (v := .ref (He.ga K "front_word")) (by rfl) T.g_front_word rfl) (pa_cons (pe_glob (v := .ref (He.ga K "front_distance")) (by rfl) T.g_front_distance rfl) pa_nil)))) (pa_cons (pe_tup (pa_cons (pe_glob (v := .ref (He.ga K "neighbour_habit")) (by rfl) T.g_neighbour_habit rfl) (pa_cons (pe_glob (v := .ref (He.ga K "neighbour_word")) (by rfl) T.g_neighbour_word rfl) (pa_cons (pe_glob (v := .ref (He.ga K "neighbour_distance")) (by rfl) T.g_neighbour_distance rfl) pa_nil)))) pa_nil))))
    (pss_cons (ps_for PassesOwn.never rfl (pi_list (pv 5)) (pg_tup (by rfl) (pgs_cons (pg_name (i := 6) scLW.nd rfl (.inl rfl)) (pgs_cons (pg_name (i := 7) scLW.nd rfl (.inl rfl)) (pgs_cons (pg_name (i := 8) scLW.nd rfl (.inr rfl)) pgs_nil))))
      (pss_cons (ps_par (i := 9) (j := 10) rfl scLW.nd rfl rfl (by decide) rfl rfl (pa_cons (pe_call G.ds hr (by rfl) T.g_distance T.F_distance.kp T.b_distance .nil pass0 (pa_cons (C8.pe_cv (i := 6) cFH cNH hr3 (by decide) (by decide) (by rfl) (by first | exact Or.inl rfl | exact Or.inr (Or.inl rfl) | exact Or.inr (Or.inr rfl)) (pa_cons (pv 2) pa_nil)) (pa_cons (pv 3) (pa_cons (pv 4) pa_nil)))) (pa_cons (C8.pe_cv (i := 7) cFW cNW hr3 (by decide) (by decide) (by rfl) (by first | exact Or.inl rfl | exact Or.inr (Or.inl rfl) | exact Or.inr (Or.inr rfl)) (pa_cons (pv 3) (pa_cons (pv 4) pa_nil))) pa_nil)) (by rfl))
      (pss_one (ps_if (PW.pt (pw_or (pt_not (pt_val (pe_call G.a1 hr1 (by rfl) T.g_law_alike T.F_law_alike.kp T.b_law_alike .nil pass0 (pa_cons (C8.pe_cv (i := 8) cFD cND hr3 (by decide) (by decide) (by rfl) (by first | exact Or.inl rfl | exact Or.inr (Or.inl rfl) | exact Or.inr (Or.inr rfl)) (pa_cons (pv 3) (pa_cons (pv 4) pa_nil))) (pa_cons (pv 9) pa_nil)))))
        (pw_or (pt_cmpR op_ne (pe_callB call_len_seq (by rfl) T.z_len boot_len (pa_cons (pv 10) pa_nil)) (pv 9) (nomark _))
        (pw_or1 (pt_cmpR (op_neD hr.units) (pe_call G.af hr4 (by rfl) T.g_after T.F_after.kp T.b_after .nil pass0 (pa_cons (C8.pe_cv (i := 6) cFH cNH hr3 (by decide) (by decide) (by rfl) (by first | exact Or.inl rfl | exact Or.inr (Or.inl rfl) | exact Or.inr (Or.inr rfl)) (pa_cons (pv 2) pa_nil)) (pa_cons (pv 3) (pa_cons (pv 10) pa_nil)))) (pv 4) (nomark _)))))) (pss_one (ps_ret pe_bl)) pss_nil))))
    hc)), ?_⟩
  intro D R sa ns n H x0 x3 x4 x5 x6 x7 x8 x9 x10 x11 x12 x13 x14 x15 x16 x17 x18 x19 x20 x21 d n2 n5 qT
  refine ⟨_, rfl, _, rfl, ⟨R, sa, ns, n, rfl, d, by omega, by omega, fun H2 a one d2 X2 La ha => ?_⟩⟩
  refine ⟨_, rfl, _, rfl, ⟨R, sa, ns, n, rfl, d2, by omega, by omega, fun H3 b oth d3 X3 Lb hb => ?_⟩⟩
  obtain ⟨ri, rm, rc, hRw, _⟩ := d2.row
  have naR : a ≠ R := fun z => by
    rw [z, hRw] at ha
    cases ha
  have ha3 : H3 a = some (vT one) := X3 a _ naR ha fun ps z => by cases z
  refine ⟨_, _, rfl, ?_⟩
  refine ⟨(by show 3 ≤ sizeLine; decide), fun t1 ht1 => ?_⟩
  have z1 := Stp.new (o := .tup [.ref (He.ga K "front_habit"), .ref (He.ga K "front_word"), .ref (He.ga K "front_distance")]) d3.tb ht1
  have h1 : upd H3 t1 (.tup [.ref (He.ga K "front_habit"), .ref (He.ga K "front_word"), .ref (He.ga K "front_distance")]) t1 = some (.tup [.ref (He.ga K "front_habit"), .ref (He.ga K "front_word"), .ref (He.ga K "front_distance")]) := upd_same
  generalize hE1 : upd H3 t1 (.tup [.ref (He.ga K "front_habit"), .ref (He.ga K "front_word"), .ref (He.ga K "front_distance")]) = H4 at z1 h1 ⊢
  refine ⟨(by show 3 ≤ sizeLine; decide), fun t2 ht2 => ?_⟩
  have z2 := Stp.new (o := .tup [.ref (He.ga K "neighbour_habit"), .ref (He.ga K "neighbour_word"), .ref (He.ga K "neighbour_distance")]) z1.2 ht2
  have h2 : upd H4 t2 (.tup [.ref (He.ga K "neighbour_habit"), .ref (He.ga K "neighbour_word"), .ref (He.ga K "neighbour_distance")]) t2 = some (.tup [.ref (He.ga K "neighbour_habit"), .ref (He.ga K "neighbour_word"), .ref (He.ga K "neighbour_distance")]) := upd_same
  have h1 := z2.t h1
  generalize hE2 : upd H4 t2 (.tup [.ref (He.ga K "neighbour_habit"), .ref (He.ga K "neighbour_word"), .ref (He.ga K "neighbour_distance")]) = H5 at z2 h2 h1 ⊢
  refine ⟨(by show 2 ≤ sizeLine; decide), fun kd hkd => ?_⟩
  have z3 := Stp.new (o := .lst [.ref t1, .ref t2]) z2.2 hkd
  have hk : upd H5 kd (.lst [.ref t1, .ref t2]) kd = some (.lst [.ref t1, .ref t2]) := upd_same
  have h1 := z3.t h1
  have h2 := z3.t h2
  have z13 := z1.trans (z2.trans z3)
  generalize hE3 : upd H5 kd (.lst [.ref t1, .ref t2]) = H6 at z3 z13 h1 h2 hk ⊢
  clear hE1 hE2 hE3 z1 z2 z3
  have d6 := d3.step z13
  have t : Two K H6 a b n one oth := ⟨z13.t ha3, La, z13.t hb, Lb, by omega, by omega, z13.2⟩
  have hcb := crossed_bound (o := oth) La
  have hnn : n * n ≤ 25 := Nat.mul_le_mul n5 n5
  have hkd6 := hk
  refine ⟨_, rfl, kd, rfl, ⟨_, .of hkd6⟩, ?_⟩
  refine for_it (walk_list (K := K) (a := kd) (xs := [.ref t1, .ref t2])) (fun i σ H7 => Stp K H6 H7 ∧ ∃ (v6 v7 v8 v9 v10 : Option V), σ = [x0, some (.ref R), some (.int (n : Int)), some (.ref a), some (.ref b), some (.ref kd), v6, v7, v8, v9, v10, x11, x12, x13, x14, x15, x16, x17, x18, x19, x20, x21])
    ⟨Stp.same z13.2 (Same.refl H6), x6, x7, x8, x9, x10, rfl⟩ (fun i σ H7 _ z => .of (z.1.l hkd6)) ?_ ?_
  · rintro i x σ H5' H5 hi ⟨S5, v6, v7, v8, v9, v10, rfl⟩ ⟨rfl, hx⟩
    have t5 := t.step S5
    rcases i with _ | i
    · -- front
      obtain rfl : x = V.ref t1 := (Option.some.inj hx).symm
      have ht := S5.t h1
      refine ⟨t1, [.ref (He.ga K "front_habit"), .ref (He.ga K "front_word"), .ref (He.ga K "front_distance")], rfl, .of ht, rfl, _, [.ref (He.ga K "front_word"), .ref (He.ga K "front_distance")], rfl, _, [.ref (He.ga K "front_distance")], rfl, _, [], rfl, rfl, ?_⟩
      refine .inl ⟨rfl, _, rfl, n, rfl, n2, n5, fun H6 hb S6 hH => ?_⟩
      have s6 := Stp.same t5.tb S6
      have t6 := t5.step s6
      refine ⟨_, rfl, _, rfl, hb, a, b, Rm.frontHab n, n, one, oth, rfl, hH, Rm.front_ok n, n2, n5, t6.a, t6.la, t6.b, t6.lb, t6.tb, fun H7 r S7 hd => ?_⟩
      have t7 := t6.step S7
      obtain ⟨v, rfl, el⟩ := Rm.front_dist t7.la t7.lb hd
      refine .inl ⟨rfl, _, rfl, _, rfl, ?_⟩
      refine t7.fw fun H8 Wd S8 hWd => ?_
      have t8 := t7.step S8
      refine ⟨_, _, rfl, ?_⟩
      refine .inl ⟨rfl, _, rfl, _, rfl, a, b, n, one, oth, rfl, t8, fun H9 S9 => ?_⟩
      have t9 := t8.step S9
      have hW9 := S9.t hWd
      refine ⟨_, rfl, ?_⟩
      refine al_int fun H10 S10 => ?_
      have s10 := Stp.same t9.tb S10
      have t10 := t9.step s10
      have hW10 := s10.t hW9
      refine ⟨true, congrArg V.bl (decide_eq_true (congrArg (fun z : Nat => (z : Int)) el.symm)), iteF ?_⟩
      have e2 : V.int (((vI (Rm.frontWord one oth)).length : Nat) : Int) = dV (some v) := by
        rw [vI_length, Rm.frontWord_len t.la t.lb, ← el]
        rfl
      refine ⟨_, rfl, Wd, _, rfl, .inr (.of hW10), _, rfl, rfl, _, rfl, iteNS e2 ?_⟩
      refine .inl ⟨rfl, _, rfl, n, rfl, n2, n5, fun H11 hb2 S11 hH2 => ?_⟩
      have s11 := Stp.same t10.tb S11
      have t11 := t10.step s11
      refine ⟨_, rfl, _, rfl, hb2, a, Wd, Rm.frontHab n, n, one, Rm.frontWord one oth, rfl, hH2, Rm.front_ok n, n2, n5, t11.a, t11.la, s11.t hW10, Rm.frontWord_lt t.la t.lb, by rw [Rm.frontWord_len t.la t.lb]; omega, t11.tb, fun H12 q S12 hq => ?_⟩
      rw [Rm.front_after t11.la t11.lb] at hq
      have t12 := t11.step S12
      refine ⟨_, rfl, .tuple (dN oth), .tuple (dN oth), .tup (.of hq) (dp_all _), .tup (.of t12.b) (dp_all _), shp_tup _, shp_tup _, ?_⟩
      rw [eqv_tup, decide_eq_true rfl]
      refine ⟨_, rfl, iteF ?_⟩
      exact ⟨S5.trans (s6.trans (S7.trans (S8.trans (S9.trans (s10.trans (s11.trans S12)))))), _, _, _, _, _, rfl⟩
    rcases i with _ | i
    · -- neighbour
      obtain rfl : x = V.ref t2 := (Option.some.inj hx).symm
      have ht := S5.t h2
      refine ⟨t2, [.ref (He.ga K "neighbour_habit"), .ref (He.ga K "neighbour_word"), .ref (He.ga K "neighbour_distance")], rfl, .of ht, rfl, _, [.ref (He.ga K "neighbour_word"), .ref (He.ga K "neighbour_distance")], rfl, _, [.ref (He.ga K "neighbour_distance")], rfl, _, [], rfl, rfl, ?_⟩
      refine .inr ⟨rfl, _, rfl, n, rfl, n2, n5, fun H6 hb S6 hH => ?_⟩
      have s6 := Stp.same t5.tb S6
      have t6 := t5.step s6
      refine ⟨_, rfl, _, rfl, hb, a, b, Rm.nbHab n, n, one, oth, rfl, hH, Rm.nb_ok n, n2, n5, t6.a, t6.la, t6.b, t6.lb, t6.tb, fun H7 r S7 hd => ?_⟩
      have t7 := t6.step S7
      obtain ⟨v, rfl, el⟩ := Rm.nb_dist t7.la t7.lb hd
      refine .inr ⟨rfl, _, rfl, _, rfl, ?_⟩
      refine t7.nw fun H8 Wd S8 hWd => ?_
      have t8 := t7.step S8
      refine ⟨_, _, rfl, ?_⟩
      refine .inr ⟨rfl, _, rfl, _, rfl, ?_⟩
      refine t8.nd fun H9 S9 => ?_
      have t9 := t8.step S9
      have hW9 := S9.t hWd
      refine ⟨_, rfl, ?_⟩
      refine al_int fun H10 S10 => ?_
      have s10 := Stp.same t9.tb S10
      have t10 := t9.step s10
      have hW10 := s10.t hW9
      refine ⟨true, congrArg V.bl (decide_eq_true (congrArg (fun z : Nat => (z : Int)) el.symm)), iteF ?_⟩
      have e2 : V.int (((vI (Rm.nbWord one oth)).length : Nat) : Int) = dV (some v) := by
        rw [vI_length, (Rm.nbWord_spec t.la t.lb).2.1, ← el]
        rfl
      refine ⟨_, rfl, Wd, _, rfl, .inr (.of hW10), _, rfl, rfl, _, rfl, iteNS e2 ?_⟩
      refine .inr ⟨rfl, _, rfl, n, rfl, n2, n5, fun H11 hb2 S11 hH2 => ?_⟩
      have s11 := Stp.same t10.tb S11
      have t11 := t10.step s11
      refine ⟨_, rfl, _, rfl, hb2, a, Wd, Rm.nbHab n, n, one, Rm.nbWord one oth, rfl, hH2, Rm.nb_ok n, n2, n5, t11.a, t11.la, s11.t hW10, (Rm.nbWord_spec t.la t.lb).2.2, by rw [(Rm.nbWord_spec t.la t.lb).2.1]; omega, t11.tb, fun H12 q S12 hq => ?_⟩
      rw [Rm.nb_after t11.la t11.lb] at hq
      have t12 := t11.step S12
      refine ⟨_, rfl, .tuple (dN oth), .tuple (dN oth), .tup (.of hq) (dp_all _), .tup (.of t12.b) (dp_all _), shp_tup _, shp_tup _, ?_⟩
      rw [eqv_tup, decide_eq_true rfl]
      refine ⟨_, rfl, iteF ?_⟩
      exact ⟨S5.trans (s6.trans (S7.trans (S8.trans (S9.trans (s10.trans (s11.trans S12)))))), _, _, _, _, _, rfl⟩
    · exact absurd hi (by show ¬ (i + 2 < 2); omega)
  · rintro σ H7 ⟨S7, v6, v7, v8, v9, v10, rfl⟩
    exact uc D R sa a b ns n one oth H7 _ _ _ _ _ _ _ _ _ _ _ _ _ _ _ _ _ _ (d6.step S7) (t.step S7) n2 n5 qT
structure LwP (K : PySem.W.Frag) (vs : List V) (H : Hp) (Q : VK) : Prop where
  ex : ∃ (sa : Addr) (ns : List Int), vs = [.ref sa] ∧ SqL K H sa (ns.map V.int) ∧ ns.length ≤ 63 ∧ Tb K H ∧ ∀ H', Q (.bl true) H'
def spLaw (K : PySem.W.Frag) : Sp := fun vs H Q _ => LwP K vs H Q
theorem ok_law (G : Gd K mg base) : FnOk P w K mg base CX0 6 (He.ga K "law") (fdO K "law") ["_law_script"] (spLaw K) := by
  have T := G.T
  have G : Pr P w K mg base := pr_of G
  refine T.F_law.ok scLW (fun vs H Q E h => ?_) (fun A outer s H vs Q E hr h => ?_)
  · obtain ⟨sa, ns, rfl, _⟩ := h.ex
    rfl
  · obtain ⟨sa, ns, rfl, hS, hl, hT, q⟩ := h.ex
    have hr1 : Room 1 (lawA K A s) := hr.mono (by decide)
    obtain ⟨tc, hc, uc⟩ := law_a1 T G (outer := outer) (H0 := H) (E := E) hr
    have e : defBody s_law = _ :: _ :: (defBody s_law).drop 2 := rfl
    refine ⟨_, PSs.nox (pss_cons (ps_set (i := 1) scLW.nd rfl (.inl rfl) (pe_lst (pa_cons (pv 0) (pa_cons pe_int (pa_cons pe_int (pa_cons pe_int pa_nil))))))
      (pss_cons (ps_set (i := 2) scLW.nd rfl (.inr rfl) (pe_op op_add pe_int (pe_call G.tk hr1 (by rfl) T.g_law_taken T.F_law_taken.kp T.b_law_taken .nil pass0 (pa_cons (pv 1) (pa_cons pe_int pa_nil))))) hc)), ?_⟩
    refine ⟨_, rfl, (by show 4 ≤ sizeLine; decide), fun R hR => ?_⟩
    have n0 := sq_or hS hR
    have d : Dr K R sa ns (upd H R (rowV sa 0 7482 0)) := ⟨⟨0, 7482, 0, upd_same, by decide, by decide, by decide⟩, sqL_upd hS n0, n0, hl, (Stp.new (o := rowV sa 0 7482 0) hT hR).2⟩
    refine ⟨_, rfl, ?_⟩
    refine Dr.tk (n := 4) d (by decide) (by decide) fun H1 r hr4 d1 hk1 => ?_
    refine ⟨_, _, rfl, rfl, ?_⟩
    exact uc _ R sa ns (2 + r) H1 _ _ _ _ _ _ _ _ _ _ _ _ _ _ _ _ _ _ _ _ d1 (by omega) (by omega) q
end
end Rs
set_option maxHeartbeats 0
/-! the head's facts and the law, joined -/
namespace Rs
open PySem PySem.Spec PyProof.Rows L2 LamX
theorem facts {l : PySem.W.OpenLaw} {w : World} {K : PySem.W.Frag} {h : Heap} {mg : Str → Option Value} {fa : Addr} (X : K.In h) (G : h.Ns mainGlobals mg) (hfa : mg ("law" : Str) = some (.ref fa)) (c : He.SaysX faA fnA [] tfA exA w h K) :
    LamX.LawAtS l w K CX0 6 63 "_law_script" mg fa h := by
  have e := hfa.symm.trans (He.glo_ok X G (c.t.d.fact 30 (f := .glo "law") rfl))
  cases e
  have ap : [tbA K "is_permutation", tbA K "after", tbA K "from_front", tbA K "_law_end", tbA K "_law_goes"].Nodup := of_decide_eq_true c.more
  have T : Tx K mg := tx_of X G c.t.d ap
  have b := FunD.bindsA (ps := ["_law_script"]) T.F_law fun _ _ _ _ _ _ us hl => match us, hl with | [_], _ => rfl
  have mem : ∀ x ∈ (["is_permutation", "after", "from_front", "_law_end", "_law_goes"] : List Str), He.cT K (x, none) ∈ tfA.map fun d => He.cT K d := fun x hx => by
    refine List.mem_map.mpr ⟨(x, none), ?_, rfl⟩
    rcases List.mem_cons.mp hx with rfl | hx
    · exact List.mem_of_getElem? (i := 0) rfl
    rcases List.mem_cons.mp hx with rfl | hx
    · exact List.mem_of_getElem? (i := 1) rfl
    rcases List.mem_cons.mp hx with rfl | hx
    · exact List.mem_of_getElem? (i := 2) rfl
    rcases List.mem_cons.mp hx with rfl | hx
    · exact List.mem_of_getElem? (i := 3) rfl
    obtain rfl := List.mem_singleton.mp hx
    exact List.mem_of_getElem? (i := 4) rfl
  refine ⟨fdO K "law", tfA.map fun d => He.cT K d, spLaw K, fun p hp => ?_, fun p hp => ?_, fun p hp => ?_, fun s u => b s [u] rfl, fun H a ns hl _ hT hS => ?_, fun base hb hG hB => ?_⟩
  · obtain ⟨d, hd, rfl⟩ := List.mem_map.mp hp
    exact c.empty d hd
  · obtain ⟨d, hd, rfl⟩ := List.mem_map.mp hp
    exact c.out d hd
  · obtain ⟨d, hd, rfl⟩ := List.mem_map.mp hp
    exact PySem.W.codeHd_of_K X (c.hd d hd)
  · have z : ∀ x ∈ (["is_permutation", "after", "from_front", "_law_end", "_law_goes"] : List Str), H (tbA K x) = some (.tbl #[]) := fun x hx => hT _ (mem x hx)
    exact ⟨⟨a, ns, rfl, hS, hl, ⟨⟨#[], z _ (by simp), True.intro⟩, ⟨#[], z _ (by simp), True.intro⟩, TabS.nil (z _ (by simp)), TabS.nil (z _ (by simp)), TabS.nil (z _ (by simp))⟩, fun _ => rfl⟩⟩
  · exact ok_law ⟨tx_of hb hG c.t.d ap, fun x hx => hB _ (mem x hx)⟩
end Rs
open PySem PySem.W PySem.Calls PyProof.Rows
theorem PySem.Challenge.cw_restlesshelf_k82_whole_kinds_holds : PySem.Challenge.rw_restlesshelf_k82_whole_kinds.Holds := by
  w_on; o_law
  refine HandSHeadRun.head_any (r := Rs.RR) (q := view Rs.RR.prog [43]) (H := Rs.hkA) (ob := Rs.obA) (M := 6000) (loose := Rs.looseA) (d := HandSHeadRun.topDef Rs.RR.prog 43) (kwd := []) Rs.obA_eq
    (by kernel_rfl) (fun s => by kernel_rfl) Rs.runA (by kernel_rfl) (by kernel_rfl) (by kernel_rfl) (by rfl) (by first | assumption | decide +kernel) (by decide +kernel) ⟨rfl, rfl, rfl, rfl, rfl, by decide +kernel⟩ ?hw ?hc
  case hw => w_witness2
  case hc =>
    refine LamX.walk_ofTsE (l := PySem.Challenge.rw_restlesshelf_k82_whole_kinds) (n := 63) (k := 6) (x := "_law_script") (CX := fun _ => L2.CX0) rfl (by decide) (by kernel_rfl) ⟨rfl, by decide, by decide⟩ ?F (fun _ _ _ _ _ z => z)
    intro w mg fa h Y G hmg0
    obtain ⟨K, KX, c⟩ := Y
    have hmg : mg ("law" : PySem.Str) = some (.ref fa) := by
      have e : (HandSHeadRun.topDef Rs.RR.prog 43).name = ("law" : PySem.Str) := by kernel_rfl
      rw [← e]
      exact hmg0
    exact ⟨K, KX, Rs.facts KX G hmg c⟩
