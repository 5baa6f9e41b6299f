import PyProof.Rows.All
import Wide.All
import OpenK.AllK
import Wide.FinOn
import PySem.Challenge.RW_fourstrokes_k03_whole_books_rings_orders
import HandS.ForMost
import HandS.ForExc
import HandS.IsInst
import HandS.Deep
import HandS.TupAny
import HandS.TupSets
import HandS.SortRule
import HandS.SortInts
import HandS.Conv
import HandS.More
import HandS.Strs
import HandS.SetFor
import HandS.Zip
import HandS.Style
import HandS.TryMany
import HandS.ExcInit
import HandS.ExcIs
import HandS.ExcField
import HandS.Evl
import HandS.Flow
import PyProof.SeqIndex
import PyProof.ReprRoads
import PyProof.EnumMake
import PyProof.WalksEnum
import KE.KIndexOf
import KE.GoesMore
import KE.KRevSl
import KE.KExcIs
import PyProof.ReprBulk
import PyProof.Rows.ReprShort
/-! books as lists of pairs of numbers: ways, rings, Kahn's peeling, closures -/
namespace K3
abbrev Edges := List (Nat × Nat)
/-- a way of one step or more -/
inductive Way (E : Edges) : Nat → Nat → Prop
  | one {a b : Nat} : (a, b) ∈ E → Way E a b
  | more {a b c : Nat} : Way E a b → (b, c) ∈ E → Way E a c
theorem Way.trans {E : Edges} {a b c : Nat} (h : Way E a b) (h2 : Way E b c) : Way E a c := by
  induction h2 with
  | one e => exact .more h e
  | more _ e ih => exact .more ih e
theorem Way.head {E : Edges} {a c : Nat} (h : Way E a c) : ∃ b, (a, b) ∈ E ∧ (b = c ∨ Way E b c) := by
  induction h with
  | one e => exact ⟨_, e, .inl rfl⟩
  | more _ e ih =>
    obtain ⟨b, h1, h2⟩ := ih
    refine ⟨b, h1, .inr ?_⟩
    rcases h2 with h2 | h2
    · subst h2
      exact .one e
    · exact .more h2 e
/-- a way of at most k steps -/
inductive WayLe (E : Edges) : Nat → Nat → Nat → Prop
  | one {a b k : Nat} : (a, b) ∈ E → WayLe E (k + 1) a b
  | more {a b c k : Nat} : WayLe E k a b → (b, c) ∈ E → WayLe E (k + 1) a c
theorem WayLe.way {E : Edges} {k a b : Nat} (h : WayLe E k a b) : Way E a b := by
  induction h with
  | one e => exact .one e
  | more _ e ih => exact .more ih e
theorem WayLe.mono {E : Edges} {k a b : Nat} (h : WayLe E k a b) : ∀ {j : Nat}, k ≤ j → WayLe E j a b := by
  induction h with
  | one e =>
    intro j hj
    obtain ⟨i, rfl⟩ : ∃ i, j = i + 1 := ⟨j - 1, by omega⟩
    exact .one e
  | more _ e ih =>
    intro j hj
    obtain ⟨i, rfl⟩ : ∃ i, j = i + 1 := ⟨j - 1, by omega⟩
    exact .more (ih (by omega)) e
/-- a right book of n things -/
structure Bk (n : Nat) (E : Edges) : Prop where
  lt : ∀ p ∈ E, p.1 < n ∧ p.2 < n ∧ p.1 ≠ p.2
  asc : E.Pairwise fun p q => p.1 < q.1 ∨ (p.1 = q.1 ∧ p.2 < q.2)
theorem Way.lt {n : Nat} {E : Edges} (h : ∀ p ∈ E, p.1 < n ∧ p.2 < n ∧ p.1 ≠ p.2) {a b : Nat} (w : Way E a b) : a < n ∧ b < n := by
  induction w with
  | one e => exact ⟨(h _ e).1, (h _ e).2.1⟩
  | more _ e ih => exact ⟨ih.1, (h _ e).2.1⟩
/-! ### lists without repeats -/
theorem nodup_len : ∀ (l r : List Nat), l.Nodup → (∀ x ∈ l, x ∈ r) → l.length ≤ r.length
  | [], _, _, _ => Nat.zero_le _
  | x :: l, r, hn, hs => by
    have hx : x ∈ r := hs x List.mem_cons_self
    obtain ⟨h1, h2⟩ := List.nodup_cons.mp hn
    have ih := nodup_len l (r.erase x) h2 fun y hy => by
      have hne : y ≠ x := fun e => h1 (e ▸ hy)
      exact (List.mem_erase_of_ne hne).mpr (hs y (List.mem_cons_of_mem _ hy))
    have e := List.length_erase_of_mem hx
    have pos : 0 < r.length := List.length_pos_of_mem hx
    show l.length + 1 ≤ r.length
    omega
theorem nodup_lt {n : Nat} {l : List Nat} (hn : l.Nodup) (h : ∀ x ∈ l, x < n) : l.length ≤ n := by
  have q := nodup_len l (List.range n) hn fun x hx => List.mem_range.mpr (h x hx)
  rwa [List.length_range] at q
/-! ### a shortest way is at most as long as there are things -/
/-- the ends of ways of at most k steps from a, in the order of things -/
noncomputable def ends (E : Edges) (n a k : Nat) : List Nat := (List.range n).filter fun b => @decide (WayLe E k a b) (Classical.propDecidable _)
theorem mem_ends {E : Edges} {n a k b : Nat} : b ∈ ends E n a k ↔ b < n ∧ WayLe E k a b := by
  unfold ends
  rw [List.mem_filter, List.mem_range]
  simp
theorem ends_nodup {E : Edges} {n a k : Nat} : (ends E n a k).Nodup := List.nodup_range.sublist List.filter_sublist
theorem filter_len_lt {p q : Nat → Bool} : ∀ {l : List Nat}, (∀ x ∈ l, p x = true → q x = true) → (∃ x ∈ l, q x = true ∧ p x = false) → (l.filter p).length < (l.filter q).length
  | [], _, h => by
    obtain ⟨x, hx, _⟩ := h
    cases hx
  | a :: l, hs, h => by
    have le : (l.filter p).length ≤ (l.filter q).length := by
      have key : ∀ l : List Nat, (∀ x ∈ l, p x = true → q x = true) → (l.filter p).length ≤ (l.filter q).length := by
        intro l
        induction l with
        | nil => intro _; exact Nat.le_refl _
        | cons b l ih =>
          intro hs
          have ih := ih fun x hx => hs x (List.mem_cons_of_mem _ hx)
          rw [List.filter_cons, List.filter_cons]
          by_cases hp : p b = true
          · rw [if_pos hp, if_pos (hs b List.mem_cons_self hp)]
            simpa using ih
          · rw [if_neg hp]
            by_cases hq : q b = true
            · rw [if_pos hq, List.length_cons]
              omega
            · rw [if_neg hq]
              exact ih
      exact key l fun x hx => hs x (List.mem_cons_of_mem _ hx)
    rw [List.filter_cons, List.filter_cons]
    obtain ⟨x, hx, hq, hp⟩ := h
    by_cases e : x = a
    · subst e
      rw [if_neg (by rw [hp]; exact Bool.false_ne_true), if_pos hq, List.length_cons]
      omega
    · have hx' : x ∈ l := by
        rcases List.mem_cons.mp hx with z | z
        · exact absurd z e
        · exact z
      have ih := filter_len_lt (p := p) (q := q) (l := l) (fun y hy => hs y (List.mem_cons_of_mem _ hy)) ⟨x, hx', hq, hp⟩
      by_cases hpa : p a = true
      · rw [if_pos hpa, if_pos (hs a List.mem_cons_self hpa), List.length_cons, List.length_cons]
        omega
      · rw [if_neg hpa]
        by_cases hqa : q a = true
        · rw [if_pos hqa, List.length_cons]
          omega
        · rw [if_neg hqa]
          exact ih
theorem ends_grow {E : Edges} {n a k : Nat} : (ends E n a k).length < (ends E n a (k + 1)).length ∨ ∀ b, b < n → WayLe E (k + 1) a b → WayLe E k a b := by
  by_cases h : ∃ b, b < n ∧ WayLe E (k + 1) a b ∧ ¬ WayLe E k a b
  · obtain ⟨b, h1, h2, h3⟩ := h
    refine .inl (filter_len_lt (fun x _ hx => ?_) ⟨b, List.mem_range.mpr h1, by simpa using h2, by simpa using h3⟩)
    have hx' : WayLe E k a x := by simpa using hx
    simpa using hx'.mono (Nat.le_succ k)
  · refine .inr fun b h1 h2 => ?_
    by_cases q : WayLe E k a b
    · exact q
    · exact absurd ⟨b, h1, h2, q⟩ h
theorem stuck {E : Edges} {n a k : Nat} (hE : ∀ p ∈ E, p.1 < n ∧ p.2 < n ∧ p.1 ≠ p.2) (h : ∀ b, b < n → WayLe E (k + 1) a b → WayLe E k a b) : ∀ {b : Nat}, Way E a b → WayLe E k a b := by
  intro b w
  induction w with
  | one e => exact h _ (hE _ e).2.1 (.one e)
  | more _ e ih => exact h _ (hE _ e).2.1 (.more ih e)
theorem ends_big {E : Edges} {n a : Nat} (hE : ∀ p ∈ E, p.1 < n ∧ p.2 < n ∧ p.1 ≠ p.2) : ∀ k, k ≤ (ends E n a k).length ∨ ∀ {b : Nat}, Way E a b → WayLe E k a b
  | 0 => .inl (Nat.zero_le _)
  | k + 1 => by
    rcases ends_big (a := a) hE k with h | h
    · rcases ends_grow (E := E) (n := n) (a := a) (k := k) with g | g
      · exact .inl (by omega)
      · exact .inr fun w => (stuck hE g w).mono (Nat.le_succ k)
    · exact .inr fun w => (h w).mono (Nat.le_succ k)
theorem way_le {E : Edges} {n : Nat} (hE : ∀ p ∈ E, p.1 < n ∧ p.2 < n ∧ p.1 ≠ p.2) {a b : Nat} (w : Way E a b) : WayLe E n a b := by
  rcases ends_big (a := a) hE (n + 1) with h | h
  · have q : (ends E n a (n + 1)).length ≤ n := nodup_lt ends_nodup fun x hx => (mem_ends.mp hx).1
    omega
  · rcases ends_big (a := a) hE n with h2 | h2
    · -- all n things are reached in n steps
      have full : ∀ x, x < n → x ∈ ends E n a n := by
        intro x hx
        refine Classical.byContradiction fun hno => ?_
        have q := nodup_len (x :: ends E n a n) (List.range n) (List.nodup_cons.mpr ⟨hno, ends_nodup⟩) fun y hy => by
          rcases List.mem_cons.mp hy with e | e
          · rw [e]
            exact List.mem_range.mpr hx
          · exact List.mem_range.mpr (mem_ends.mp e).1
        rw [List.length_range, List.length_cons] at q
        omega
      exact (mem_ends.mp (full b (w.lt hE).2)).2
    · exact h2 w
/-! ### Kahn -/
def peel (E : Edges) (left : List Nat) : List Nat := left.filter fun v => E.any fun p => p.2 == v && left.contains p.1
def peels (E : Edges) : Nat → List Nat → List Nat
  | 0, l => l
  | k + 1, l => peels E k (peel E l)
theorem peels_succ {E : Edges} : ∀ {k : Nat} {l : List Nat}, peels E (k + 1) l = peel E (peels E k l)
  | 0, _ => rfl
  | k + 1, l => by
    show peels E (k + 1) (peel E l) = _
    rw [peels_succ]
    rfl
theorem mem_peel {E : Edges} {l : List Nat} {v : Nat} : v ∈ peel E l ↔ v ∈ l ∧ ∃ u ∈ l, (u, v) ∈ E := by
  unfold peel
  rw [List.mem_filter, List.any_eq_true]
  constructor
  · rintro ⟨h1, ⟨p, q⟩, hp, h2⟩
    simp only [Bool.and_eq_true, beq_iff_eq, List.contains_iff_mem] at h2
    obtain ⟨h3, h4⟩ := h2
    subst h3
    exact ⟨h1, p, h4, hp⟩
  · rintro ⟨h1, u, hu, he⟩
    exact ⟨h1, (u, v), he, by simp [hu]⟩
theorem peels_ring {E : Edges} {n : Nat} (hE : ∀ p ∈ E, p.1 < n ∧ p.2 < n ∧ p.1 ≠ p.2) {a : Nat} (w : Way E a a) : ∀ k, (∀ v, Way E a v → Way E v a → v ∈ peels E k (List.range n))
  | 0 => fun v h _ => List.mem_range.mpr (h.lt hE).2
  | k + 1 => fun v h1 h2 => by
    have ih := peels_ring hE w k
    rw [peels_succ]
    refine mem_peel.mpr ⟨ih v h1 h2, ?_⟩
    cases h1 with
    | one e => exact ⟨a, ih a w w, e⟩
    | more h e => exact ⟨_, ih _ h (by exact Way.trans (.one e) h2), e⟩
theorem peel_len {E : Edges} {l : List Nat} : (peel E l).length ≤ l.length := List.length_filter_le ..
theorem peel_same {E : Edges} {l : List Nat} (h : (peel E l).length = l.length) : peel E l = l := by
  unfold peel at h ⊢
  exact List.filter_eq_self.mpr fun a ha => List.length_filter_eq_length_iff.mp h a ha
theorem peels_small {E : Edges} : ∀ (k : Nat) (l : List Nat), (peels E k l).length + k ≤ l.length ∨ peel E (peels E k l) = peels E k l
  | 0, l => .inl (Nat.le_refl _)
  | k + 1, l => by
    rw [peels_succ]
    rcases peels_small (E := E) k l with h | h
    · by_cases e : (peel E (peels E k l)).length = (peels E k l).length
      · rw [peel_same e]
        exact .inr (peel_same e)
      · have q := peel_len (E := E) (l := peels E k l)
        exact .inl (by omega)
    · rw [h]
      exact .inr h
/-- backwards along a list in which each has one ahead -/
theorem back_chain {E : Edges} {l : List Nat} (h : ∀ v ∈ l, ∃ u ∈ l, (u, v) ∈ E) : ∀ (k : Nat) (v : Nat), v ∈ l → (∃ a, Way E a a) ∨ ∃ c : List Nat, c.length = k + 1 ∧ c.Nodup ∧ (∀ x ∈ c, x ∈ l) ∧ ∃ u, u ∈ c ∧ ∀ x ∈ c, x = u ∨ Way E u x
  | 0, v, hv => .inr ⟨[v], rfl, by simp, fun x hx => by rw [List.mem_singleton.mp hx]; exact hv, v, by simp, fun x hx => .inl (List.mem_singleton.mp hx)⟩
  | k + 1, v, hv => by
    rcases back_chain h k v hv with q | ⟨c, h1, h2, h3, u, hu, h4⟩
    · exact .inl q
    · obtain ⟨u', hu', he⟩ := h u (h3 u hu)
      by_cases hin : u' ∈ c
      · refine .inl ⟨u', ?_⟩
        rcases h4 u' hin with e | w
        · rw [← e] at he
          exact .one he
        · exact Way.trans (.one he) w
      · refine .inr ⟨u' :: c, by rw [List.length_cons, h1], List.nodup_cons.mpr ⟨hin, h2⟩, fun x hx => ?_, u', List.mem_cons_self, fun x hx => ?_⟩
        · rcases List.mem_cons.mp hx with e | e
          · rw [e]
            exact hu'
          · exact h3 x e
        · rcases List.mem_cons.mp hx with e | e
          · exact .inl e
          · right
            rcases h4 x e with q | q
            · rw [q]
              exact .one he
            · exact Way.trans (.one he) q
theorem kahn {E : Edges} {n : Nat} (hE : ∀ p ∈ E, p.1 < n ∧ p.2 < n ∧ p.1 ≠ p.2) : 0 < (peels E n (List.range n)).length ↔ ∃ a, Way E a a := by
  constructor
  · intro h
    obtain ⟨v, hv⟩ := List.exists_mem_of_length_pos h
    rcases peels_small (E := E) n (List.range n) with q | q
    · rw [List.length_range] at q
      omega
    · have all : ∀ v ∈ peels E n (List.range n), ∃ u ∈ peels E n (List.range n), (u, v) ∈ E := fun v hv => by
        rw [← q] at hv
        exact (mem_peel.mp hv).2
      rcases back_chain all (peels E n (List.range n)).length v hv with r | ⟨c, h1, h2, h3, _⟩
      · exact r
      · have z := nodup_len c _ h2 h3
        omega
  · rintro ⟨a, w⟩
    exact List.length_pos_of_mem (peels_ring hE w n a w w)
end K3
set_option linter.all false
/-! rings: links, turning round, the chain of a search; ascending lists -/
namespace K3
/-- each stands with the next one in a pair -/
def lk (E : Edges) : List Nat → Prop
  | a :: b :: r => (a, b) ∈ E ∧ lk E (b :: r)
  | _ => True
theorem lk_one {E : Edges} {a : Nat} : lk E [a] := True.intro
theorem lk_split {E : Edges} : ∀ {u : List Nat} {y : Nat} {v : List Nat}, lk E (u ++ y :: v) ↔ lk E (u ++ [y]) ∧ lk E (y :: v)
  | [], y, v => by simp [lk]
  | [a], y, v => by simp [lk]
  | a :: b :: u, y, v => by
    have ih := lk_split (E := E) (u := b :: u) (y := y) (v := v)
    show ((a, b) ∈ E ∧ lk E (b :: u ++ y :: v)) ↔ ((a, b) ∈ E ∧ lk E (b :: u ++ [y])) ∧ lk E (y :: v)
    rw [ih]
    constructor
    · rintro ⟨h1, h2, h3⟩
      exact ⟨⟨h1, h2⟩, h3⟩
    · rintro ⟨⟨h1, h2⟩, h3⟩
      exact ⟨h1, h2, h3⟩
theorem lk_ix {E : Edges} : ∀ {l : List Nat}, lk E l ↔ ∀ (i a b : Nat), l[i]? = some a → l[i + 1]? = some b → (a, b) ∈ E
  | [] => by simp [lk]
  | [x] => by
    constructor
    · intro _ i a b _ h2
      simp at h2
    · intro _
      exact True.intro
  | x :: y :: r => by
    have ih := lk_ix (E := E) (l := y :: r)
    show ((x, y) ∈ E ∧ lk E (y :: r)) ↔ _
    rw [ih]
    constructor
    · rintro ⟨h1, h2⟩ i a b ha hb
      cases i with
      | zero =>
        simp at ha hb
        subst ha hb
        exact h1
      | succ i => exact h2 i a b (by simpa using ha) (by simpa using hb)
    · intro h
      exact ⟨h 0 x y rfl rfl, fun i a b ha hb => h (i + 1) a b (by simpa using ha) (by simpa using hb)⟩
theorem lk_way {E : Edges} : ∀ {u : List Nat} {a b : Nat}, lk E (a :: u ++ [b]) → Way E a b
  | [], a, b, h => .one h.1
  | c :: u, a, b, h => Way.trans (.one h.1) (lk_way h.2)
/-- a ring: two things at least, unlike, below n, the least first, each with the next one, the last with the first -/
structure IsRing (n : Nat) (E : Edges) (l : List Nat) : Prop where
  two : 2 ≤ l.length
  lt : ∀ x ∈ l, x < n
  nd : l.Nodup
  least : ∀ x ∈ l, l.headD 0 ≤ x
  cyc : lk E (l ++ [l.headD 0])
theorem IsRing.way {n : Nat} {E : Edges} {l : List Nat} (h : IsRing n E l) : ∃ a, Way E a a := by
  cases l with
  | nil => exact absurd h.two (by decide)
  | cons a u => exact ⟨a, lk_way h.cyc⟩
/-- turned round so that the least is first -/
theorem turned_ring {n : Nat} {E : Edges} {l : List Nat} {at_ : Nat} (h2 : 2 ≤ l.length) (hl : ∀ x ∈ l, x < n) (hn : l.Nodup) (hc : lk E (l ++ [l.headD 0])) (hat : at_ < l.length) (hm : ∀ x ∈ l, l.getD at_ 0 ≤ x) :
    IsRing n E (l.drop at_ ++ l.take at_) := by
  have hperm : (l.drop at_ ++ l.take at_).Perm l := by
    have q : (l.take at_ ++ l.drop at_).Perm l := by rw [List.take_append_drop]
    exact List.perm_append_comm.trans q
  have hd : l.drop at_ = l.getD at_ 0 :: l.drop (at_ + 1) := by
    rw [List.drop_eq_getElem_cons hat, List.getD_eq_getElem?_getD, List.getElem?_eq_getElem hat]
    rfl
  refine ⟨by rw [hperm.length_eq]; exact h2, fun x hx => hl x (hperm.mem_iff.mp hx), hperm.nodup_iff.mpr hn, fun x hx => ?_, ?_⟩
  · rw [hd]
    exact hm x (hperm.mem_iff.mp hx)
  · rw [hd]
    show lk E (((l.getD at_ 0 :: l.drop (at_ + 1)) ++ l.take at_) ++ [l.getD at_ 0])
    cases ha : l.take at_ with
    | nil =>
      have z : at_ = 0 := by
        have q := congrArg List.length ha
        rw [List.length_take] at q
        simp at q
        rcases q with q | q
        · exact q
        · subst q
          simp at hat
      subst z
      rw [List.append_nil]
      have e0 : l = l.getD 0 0 :: l.drop 1 := by
        have := hd
        rwa [List.drop_zero] at this
      cases l with
      | nil => simp at hat
      | cons a r => simpa using hc
    | cons a u =>
      have el : l = (a :: u) ++ (l.getD at_ 0 :: l.drop (at_ + 1)) := by
        rw [← ha, ← hd, List.take_append_drop]
      have eh : l.headD 0 = a := by rw [el]; rfl
      rw [eh] at hc
      have hc' : lk E ((a :: u) ++ l.getD at_ 0 :: (l.drop (at_ + 1) ++ [a])) := by
        have e2 : l ++ [a] = (a :: u) ++ l.getD at_ 0 :: (l.drop (at_ + 1) ++ [a]) := by
          conv => lhs; rw [el]
          rw [List.append_assoc]
          rfl
        rw [← e2]
        exact hc
      obtain ⟨p, q⟩ := lk_split.mp hc'
      have goal : lk E ((l.getD at_ 0 :: l.drop (at_ + 1)) ++ a :: (u ++ [l.getD at_ 0])) := by
        refine lk_split.mpr ⟨q, ?_⟩
        simpa using p
      simpa using goal
/-! ### the search: things in the order in which they are met, each with the one it is met from -/
structure Srch (E : Edges) (first : Nat) (tr : List (Nat × Nat)) : Prop where
  nd : (first :: tr.map (·.1)).Nodup
  par : ∀ (i k p : Nat), tr[i]? = some (k, p) → (p, k) ∈ E ∧ p ∈ first :: (tr.take i).map (·.1)
theorem Srch.nil {E : Edges} {first : Nat} : Srch E first [] := ⟨by simp, fun i k p h => by simp at h⟩
theorem Srch.add {E : Edges} {first : Nat} {tr : List (Nat × Nat)} (S : Srch E first tr) {k p : Nat} (he : (p, k) ∈ E) (hp : p ∈ first :: tr.map (·.1)) (hk : k ∉ first :: tr.map (·.1)) : Srch E first (tr ++ [(k, p)]) := by
  refine ⟨?_, fun i k' p' h => ?_⟩
  · have e : first :: (tr ++ [(k, p)]).map (·.1) = (first :: tr.map (·.1)) ++ [k] := by simp
    rw [e]
    refine List.nodup_append.mpr ⟨S.nd, by simp, ?_⟩
    intro a ha b hb
    rw [List.mem_singleton.mp hb]
    exact fun e => hk (e ▸ ha)
  · by_cases hi : i < tr.length
    · rw [List.getElem?_append_left hi] at h
      rw [List.take_append_of_le_length (Nat.le_of_lt hi)]
      exact S.par i k' p' h
    · rw [List.getElem?_append_right (by omega)] at h
      have hi0 : i - tr.length = 0 := by
        cases hz : i - tr.length with
        | zero => rfl
        | succ z =>
          rw [hz] at h
          simp at h
      rw [hi0] at h
      have e := Option.some.inj h
      cases e
      have hi2 : i = tr.length := by omega
      subst hi2
      refine ⟨he, ?_⟩
      rw [List.take_left]
      exact hp
/-- the chain back: last met first; r the place of its end among the met ones (0: the first one) -/
structure Chn (E : Edges) (first : Nat) (tr : List (Nat × Nat)) (c : List Nat) (r : Nat) : Prop where
  ne : c ≠ []
  end_ : c.getLast? = (first :: tr.map (·.1))[r]?
  there : r < (first :: tr.map (·.1)).length
  bk : ∀ (i a b : Nat), c[i]? = some a → c[i + 1]? = some b → (b, a) ∈ E
  mem : ∀ x ∈ c, x ∈ first :: tr.map (·.1)
  nd : c.Nodup
  far : ∀ x ∈ c, ∃ j, r ≤ j ∧ (first :: tr.map (·.1))[j]? = some x
theorem nd_ix {l : List Nat} (h : l.Nodup) {i j x : Nat} (a : l[i]? = some x) (b : l[j]? = some x) : i = j := by
  obtain ⟨h1, e1⟩ := List.getElem?_eq_some_iff.mp a
  obtain ⟨h2, e2⟩ := List.getElem?_eq_some_iff.mp b
  exact (List.getElem_inj h).mp (e1.trans e2.symm)
theorem Chn.start {E : Edges} {first : Nat} {tr : List (Nat × Nat)} {r x : Nat} (h : (first :: tr.map (·.1))[r]? = some x) : Chn E first tr [x] r :=
  ⟨by simp, by rw [h]; rfl, (List.getElem?_eq_some_iff.mp h).1, fun i a b _ h2 => by simp at h2, fun y hy => by rw [List.mem_singleton.mp hy]; exact List.mem_of_getElem? h, by simp, fun y hy => ⟨r, Nat.le_refl _, by rw [List.mem_singleton.mp hy]; exact h⟩⟩
/-- one step back -/
theorem Chn.step {E : Edges} {first : Nat} {tr : List (Nat × Nat)} {c : List Nat} {r k p : Nat} (S : Srch E first tr) (C : Chn E first tr c (r + 1)) (h : tr[r]? = some (k, p)) : ∃ r', r' < r + 1 ∧ Chn E first tr (c ++ [p]) r' := by
  obtain ⟨he, hp⟩ := S.par r k p h
  obtain ⟨r', hr'⟩ := List.mem_iff_getElem?.mp hp
  have hlt : r' < r + 1 := by
    have q := (List.getElem?_eq_some_iff.mp hr').1
    rw [List.length_cons, List.length_map, List.length_take] at q
    omega
  have hr2 : (first :: tr.map (·.1))[r']? = some p := by
    have e : first :: (tr.take r).map (·.1) = (first :: tr.map (·.1)).take (r + 1) := by
      rw [List.take_succ_cons, List.map_take]
    rw [e, List.getElem?_take_of_lt hlt] at hr'
    exact hr'
  have hk : (first :: tr.map (·.1))[r + 1]? = some k := by
    rw [List.getElem?_cons_succ, List.getElem?_map, h]
    rfl
  refine ⟨r', hlt, by simp, by rw [List.getLast?_append]; simp [hr2], (List.getElem?_eq_some_iff.mp hr2).1, fun i a b ha hb => ?_, fun x hx => ?_, ?_, fun x hx => ?_⟩
  · by_cases hi : i + 1 < c.length
    · rw [List.getElem?_append_left (by omega)] at ha
      rw [List.getElem?_append_left hi] at hb
      exact C.bk i a b ha hb
    · rw [List.getElem?_append_right (by omega)] at hb
      have z : i + 1 - c.length = 0 := by
        cases hz : i + 1 - c.length with
        | zero => rfl
        | succ z =>
          rw [hz] at hb
          simp at hb
      rw [z] at hb
      have eb : p = b := Option.some.inj hb
      subst eb
      have hl : c.getLast? = some k := by rw [C.end_, hk]
      rw [List.getLast?_eq_getElem?] at hl
      have hi2 : i = c.length - 1 := by omega
      rw [List.getElem?_append_left (by have := List.length_pos_iff.mpr C.ne; omega), hi2, hl] at ha
      have ea : k = a := Option.some.inj ha
      subst ea
      exact he
  · rcases List.mem_append.mp hx with q | q
    · exact C.mem x q
    · rw [List.mem_singleton.mp q]
      exact List.mem_of_getElem? hr2
  · refine List.nodup_append.mpr ⟨C.nd, by simp, ?_⟩
    intro a ha b hb e
    rw [List.mem_singleton.mp hb] at e
    subst e
    obtain ⟨j, hj, hja⟩ := C.far a ha
    have := nd_ix S.nd hja hr2
    omega
  · rcases List.mem_append.mp hx with q | q
    · obtain ⟨j, hj, hja⟩ := C.far x q
      exact ⟨j, by omega, hja⟩
    · rw [List.mem_singleton.mp q]
      exact ⟨r', Nat.le_refl _, hr2⟩
theorem rev_nd {l : List Nat} (h : l.Nodup) : l.reverse.Nodup := List.pairwise_reverse.mpr (h.imp fun q e => q e.symm)
/-- the chain reversed is a ring but for its turn -/
theorem Chn.ring {E : Edges} {n first : Nat} {tr : List (Nat × Nat)} {c : List Nat} {here : Nat} (hE : ∀ p ∈ E, p.1 < n ∧ p.2 < n ∧ p.1 ≠ p.2) (hf : first < n) (S : Srch E first tr) (C : Chn E first tr c 0) (hh : c.head? = some here) (he : (here, first) ∈ E) :
    2 ≤ c.reverse.length ∧ (∀ x ∈ c.reverse, x < n) ∧ c.reverse.Nodup ∧ lk E (c.reverse ++ [c.reverse.headD 0]) := by
  have hl : c.getLast? = some first := by rw [C.end_]; rfl
  have vis : ∀ x ∈ first :: tr.map (·.1), x < n := fun x hx => by
    rcases List.mem_cons.mp hx with e | e
    · rw [e]
      exact hf
    · obtain ⟨⟨k, p⟩, hm, ek⟩ := List.mem_map.mp e
      obtain ⟨i, hi⟩ := List.mem_iff_getElem?.mp hm
      have q := (S.par i k p hi).1
      have ek' : k = x := ek
      rw [← ek']
      exact (hE _ q).2.1
  have hrev : c.reverse.headD 0 = first := by
    rw [List.headD_eq_head?_getD, List.head?_reverse, hl]
    rfl
  refine ⟨?_, fun x hx => vis x (C.mem x (List.mem_reverse.mp hx)), rev_nd C.nd, ?_⟩
  · rw [List.length_reverse]
    cases c with
    | nil => exact absurd rfl C.ne
    | cons a u =>
      cases u with
      | nil =>
        have e1 : a = here := Option.some.inj hh
        have e2 : a = first := Option.some.inj hl
        rw [← e1, ← e2] at he
        exact absurd rfl (hE _ he).2.2
      | cons b v =>
        rw [List.length_cons, List.length_cons]
        omega
  · rw [hrev]
    refine lk_ix.mpr fun i a b ha hb => ?_
    have hlen : c.reverse.length = c.length := List.length_reverse
    by_cases hi : i + 1 < c.length
    · rw [List.getElem?_append_left (by omega)] at ha
      rw [List.getElem?_append_left (by omega)] at hb
      rw [List.getElem?_reverse (by omega)] at ha
      rw [List.getElem?_reverse hi] at hb
      have e : c.length - 1 - i = (c.length - 1 - (i + 1)) + 1 := by omega
      rw [e] at ha
      exact C.bk _ b a hb ha
    · have hb' : i + 1 < c.length + 1 := by
        have q := (List.getElem?_eq_some_iff.mp hb).1
        rw [List.length_append, hlen] at q
        simpa using q
      have hi2 : i + 1 = c.length := by omega
      rw [List.getElem?_append_left (by omega), List.getElem?_reverse (by omega)] at ha
      have z : c.length - 1 - i = 0 := by omega
      rw [z] at ha
      have ea : c.head? = some a := by
        cases c with
        | nil => simp at ha
        | cons x u => simpa using ha
      rw [hh] at ea
      have ea' : here = a := Option.some.inj ea
      subst ea'
      rw [List.getElem?_append_right (by omega), hlen] at hb
      have z2 : i + 1 - c.length = 0 := by omega
      rw [z2] at hb
      have eb : first = b := Option.some.inj hb
      subst eb
      exact he
/-- what is closed, and has no pair back to the first one, has no ring through it -/
theorem closed_none {E : Edges} {first : Nat} {V : List Nat} (h : ∀ a ∈ V, ∀ c, (a, c) ∈ E → c ∈ V ∧ c ≠ first) (hf : first ∈ V) : ¬ Way E first first := by
  have key : ∀ {b : Nat}, Way E first b → b ∈ V ∧ b ≠ first := by
    intro b w
    induction w with
    | one e => exact h _ hf _ e
    | more _ e ih => exact h _ ih.1 _ e
  exact fun w => (key w).2 rfl
/-! ### ascending lists -/
theorem asc_ext {l r : List Nat} (h1 : l.Pairwise (· < ·)) (h2 : r.Pairwise (· < ·)) (h : ∀ x, x ∈ l ↔ x ∈ r) : l = r := by
  have n1 : l.Nodup := h1.imp fun h e => by omega
  have n2 : r.Nodup := h2.imp fun h e => by omega
  refine List.Perm.eq_of_pairwise (le := (· < ·)) (fun a b _ _ x y => by omega) h1 h2 ?_
  exact (List.perm_ext_iff_of_nodup n1 n2).mpr h
/-- the order of pairs -/
def lt2 (p q : Nat × Nat) : Prop := p.1 < q.1 ∨ (p.1 = q.1 ∧ p.2 < q.2)
theorem asc2_ext {l r : List (Nat × Nat)} (h1 : l.Pairwise lt2) (h2 : r.Pairwise lt2) (h : ∀ x, x ∈ l ↔ x ∈ r) : l = r := by
  have n1 : l.Nodup := h1.imp fun {a b} h e => by
    subst e
    rcases h with h | ⟨_, h⟩ <;> omega
  have n2 : r.Nodup := h2.imp fun {a b} h e => by
    subst e
    rcases h with h | ⟨_, h⟩ <;> omega
  refine List.Perm.eq_of_pairwise (le := lt2) (fun a b _ _ x y => ?_) h1 h2 ?_
  · rcases x with x | ⟨x, x'⟩ <;> rcases y with y | ⟨y, y'⟩ <;> omega
  · exact (List.perm_ext_iff_of_nodup n1 n2).mpr h
end K3
set_option linter.all false
/-! orders that keep a book: all of them, ascending; their number by lots; the one with a number -/
namespace K3
/-- t may stand behind those of p -/
def okT (E : Edges) (p : List Nat) (t : Nat) : Bool := !p.contains t && E.all fun q => !(q.2 == t) || p.contains q.1
def nexts (n : Nat) (E : Edges) (p : List Nat) : List Nat := (List.range n).filter (okT E p)
/-- all beginnings of k things -/
def lev (n : Nat) (E : Edges) : Nat → List (List Nat)
  | 0 => [[]]
  | k + 1 => (lev n E k).flatMap fun p => (nexts n E p).map fun t => p ++ [t]
/-- all that go on from p with k more things -/
def comp (n : Nat) (E : Edges) : Nat → List Nat → List (List Nat)
  | 0, p => [p]
  | k + 1, p => (nexts n E p).flatMap fun t => comp n E k (p ++ [t])
theorem lev_comp {n : Nat} {E : Edges} : ∀ (j k : Nat), lev n E (k + j) = (lev n E k).flatMap (comp n E j)
  | 0, k => by
    have e : (comp n E 0) = fun p => [p] := by funext p; rfl
    rw [e, Nat.add_zero]
    induction lev n E k with
    | nil => rfl
    | cons a l ih => simp only [List.flatMap_cons]; rw [← ih]; rfl
  | j + 1, k => by
    have ih := lev_comp (n := n) (E := E) j (k + 1)
    rw [show k + (j + 1) = k + 1 + j by omega, ih]
    show ((lev n E k).flatMap fun p => (nexts n E p).map fun t => p ++ [t]).flatMap (comp n E j) = _
    rw [List.flatMap_assoc]
    congr 1
    funext p
    rw [List.flatMap_map]
    rfl
theorem lev_all {n : Nat} {E : Edges} : lev n E n = comp n E n [] := by
  have h := lev_comp (n := n) (E := E) n 0
  rw [Nat.zero_add] at h
  rw [h]
  show [[]].flatMap (comp n E n) = _
  simp
/-- how many go on -/
def cnt (n : Nat) (E : Edges) (k : Nat) (p : List Nat) : Nat := (comp n E k p).length
theorem cnt_zero {n : Nat} {E : Edges} {p : List Nat} : cnt n E 0 p = 1 := rfl
theorem cnt_succ {n : Nat} {E : Edges} {k : Nat} {p : List Nat} : cnt n E (k + 1) p = ((nexts n E p).map fun t => cnt n E k (p ++ [t])).sum := by
  show ((nexts n E p).flatMap fun t => comp n E k (p ++ [t])).length = _
  rw [List.length_flatMap]
  rfl
theorem okT_iff {E : Edges} {p : List Nat} {t : Nat} : okT E p t = true ↔ t ∉ p ∧ ∀ q ∈ E, q.2 = t → q.1 ∈ p := by
  unfold okT
  simp only [Bool.and_eq_true, Bool.not_eq_true', List.all_eq_true, Bool.or_eq_true, List.contains_iff_mem, beq_eq_false_iff_ne, ne_eq]
  constructor
  · rintro ⟨h1, h2⟩
    refine ⟨fun hm => ?_, fun q hq e => ?_⟩
    · have : p.contains t = true := List.contains_iff_mem.mpr hm
      rw [this] at h1
      cases h1
    · rcases h2 q hq with z | z
      · exact absurd e (by simpa using z)
      · exact z
  · rintro ⟨h1, h2⟩
    refine ⟨?_, fun q hq => ?_⟩
    · cases hb : p.contains t with
      | false => rfl
      | true => exact absurd (List.contains_iff_mem.mp hb) h1
    · by_cases e : q.2 = t
      · exact .inr (h2 q hq e)
      · exact .inl (by simpa using e)
theorem mem_nexts {n : Nat} {E : Edges} {p : List Nat} {t : Nat} : t ∈ nexts n E p ↔ t < n ∧ okT E p t = true := by
  unfold nexts
  rw [List.mem_filter, List.mem_range]
/-- only what p holds counts -/
theorem okT_same {E : Edges} {p q : List Nat} (h : ∀ x, x ∈ p ↔ x ∈ q) (t : Nat) : okT E p t = okT E q t := by
  rw [Bool.eq_iff_iff, okT_iff, okT_iff]
  constructor
  · rintro ⟨h1, h2⟩
    exact ⟨fun z => h1 ((h t).mpr z), fun e he q' => (h _).mp (h2 e he q')⟩
  · rintro ⟨h1, h2⟩
    exact ⟨fun z => h1 ((h t).mp z), fun e he q' => (h _).mpr (h2 e he q')⟩
theorem nexts_same {n : Nat} {E : Edges} {p q : List Nat} (h : ∀ x, x ∈ p ↔ x ∈ q) : nexts n E p = nexts n E q := by
  unfold nexts
  congr 1
  funext t
  exact okT_same h t
theorem cnt_same {n : Nat} {E : Edges} : ∀ (k : Nat) {p q : List Nat}, (∀ x, x ∈ p ↔ x ∈ q) → cnt n E k p = cnt n E k q
  | 0, _, _, _ => rfl
  | k + 1, p, q, h => by
    rw [cnt_succ, cnt_succ, nexts_same h]
    congr 1
    refine List.map_congr_left fun t _ => cnt_same k fun x => ?_
    rw [List.mem_append, List.mem_append, h x]
/-! ### lots as sums of powers of two -/
/-- the things of a lot -/
def things (n m : Nat) : List Nat := (List.range n).filter fun t => m.testBit t
theorem mem_things {n m t : Nat} : t ∈ things n m ↔ t < n ∧ m.testBit t = true := by
  unfold things
  rw [List.mem_filter, List.mem_range]
theorem things_nodup {n m : Nat} : (things n m).Nodup := List.nodup_range.sublist List.filter_sublist
/-- how many orders of the other things may stand behind a lot -/
def cntM (n : Nat) (E : Edges) (m : Nat) : Nat := cnt n E (n - (things n m).length) (things n m)
theorem bit_or {m t x : Nat} : (m ||| 1 <<< t).testBit x = (m.testBit x || decide (t = x)) := by
  rw [Nat.testBit_or, Nat.one_shiftLeft, Nat.testBit_two_pow]
theorem things_add {n m t : Nat} (ht : t < n) : ∀ x, x ∈ things n (m ||| 1 <<< t) ↔ x ∈ things n m ++ [t] := by
  intro x
  rw [mem_things, List.mem_append, mem_things, List.mem_singleton, bit_or, Bool.or_eq_true, decide_eq_true_iff]
  constructor
  · rintro ⟨h1, h2 | h2⟩
    · exact .inl ⟨h1, h2⟩
    · exact .inr h2.symm
  · rintro (⟨h1, h2⟩ | h)
    · exact ⟨h1, .inl h2⟩
    · exact ⟨by omega, .inr h.symm⟩
theorem len_same {p q : List Nat} (hp : p.Nodup) (hq : q.Nodup) (h : ∀ x, x ∈ p ↔ x ∈ q) : p.length = q.length :=
  Nat.le_antisymm (nodup_len p q hp fun x hx => (h x).mp hx) (nodup_len q p hq fun x hx => (h x).mpr hx)
theorem things_len_add {n m t : Nat} (ht : t < n) (hm : m.testBit t = false) : (things n (m ||| 1 <<< t)).length = (things n m).length + 1 := by
  have hnd : (things n m ++ [t]).Nodup := by
    refine List.nodup_append.mpr ⟨things_nodup, by simp, ?_⟩
    intro a ha b hb e
    rw [List.mem_singleton.mp hb] at e
    subst e
    rw [(mem_things.mp ha).2] at hm
    cases hm
  rw [len_same things_nodup hnd (things_add ht), List.length_append]
  rfl
theorem things_le {n m : Nat} : (things n m).length ≤ n := nodup_lt things_nodup fun x hx => (mem_things.mp hx).1
/-- the row of a lot, from the rows of greater ones -/
theorem cntM_row {n : Nat} {E : Edges} {m : Nat} (h : (things n m).length < n) : cntM n E m = ((nexts n E (things n m)).map fun t => cntM n E (m ||| 1 <<< t)).sum := by
  unfold cntM
  obtain ⟨k, hk⟩ : ∃ k, n - (things n m).length = k + 1 := ⟨n - (things n m).length - 1, by omega⟩
  rw [hk, cnt_succ]
  congr 1
  refine List.map_congr_left fun t ht => ?_
  obtain ⟨h1, h2⟩ := mem_nexts.mp ht
  have hno : m.testBit t = false := by
    cases hb : m.testBit t with
    | false => rfl
    | true => exact absurd (mem_things.mpr ⟨h1, hb⟩) (okT_iff.mp h2).1
  rw [things_len_add h1 hno]
  have e : n - ((things n m).length + 1) = k := by omega
  rw [e]
  exact (cnt_same k (things_add h1)).symm
theorem things_whole {n : Nat} : things n (2 ^ n - 1) = List.range n := by
  unfold things
  refine List.filter_eq_self.mpr fun a ha => ?_
  rw [Nat.testBit_two_pow_sub_one]
  simpa using ha
theorem cntM_whole {n : Nat} {E : Edges} : cntM n E (2 ^ n - 1) = 1 := by
  unfold cntM
  rw [things_whole, List.length_range, Nat.sub_self]
  rfl
theorem things_small {n m : Nat} (h : m < 2 ^ n - 1) : (things n m).length < n := by
  refine Nat.lt_of_le_of_ne things_le fun e => ?_
  have full : ∀ x, x < n → m.testBit x = true := fun x hx => by
    refine Classical.byContradiction fun hno => ?_
    have hx' : x ∉ things n m := fun z => hno (mem_things.mp z).2
    have q := nodup_len (x :: things n m) (List.range n) (List.nodup_cons.mpr ⟨hx', things_nodup⟩) fun y hy => by
      rcases List.mem_cons.mp hy with z | z
      · rw [z]
        exact List.mem_range.mpr hx
      · exact List.mem_range.mpr (mem_things.mp z).1
    rw [List.length_range, List.length_cons] at q
    omega
  have e2 : m = 2 ^ n - 1 := by
    refine Nat.eq_of_testBit_eq fun i => ?_
    rw [Nat.testBit_two_pow_sub_one]
    by_cases hi : i < n
    · rw [full i hi, decide_eq_true hi]
    · rw [decide_eq_false hi]
      exact Nat.testBit_lt_two_pow (Nat.lt_of_lt_of_le (show m < 2 ^ n by omega) (Nat.pow_le_pow_right (by decide) (by omega)))
  omega
theorem things_zero {n : Nat} : things n 0 = [] := by
  unfold things
  refine List.filter_eq_nil_iff.mpr fun a _ => ?_
  rw [Nat.zero_testBit]
  exact Bool.false_ne_true
theorem cntM_zero {n : Nat} {E : Edges} : cntM n E 0 = (lev n E n).length := by
  unfold cntM
  rw [things_zero, lev_all]
  rfl
/-- a lot that holds just what p holds -/
def Holds (n : Nat) (p : List Nat) (m : Nat) : Prop := ∀ x, x < n → (m.testBit x = true ↔ x ∈ p)
theorem Holds.cnt {n : Nat} {E : Edges} {p : List Nat} {m : Nat} (h : Holds n p m) (hp : ∀ x ∈ p, x < n) (hn : p.Nodup) : cntM n E m = cnt n E (n - p.length) p := by
  have hs : ∀ x, x ∈ things n m ↔ x ∈ p := fun x => by
    rw [mem_things]
    constructor
    · rintro ⟨h1, h2⟩
      exact (h x h1).mp h2
    · intro hx
      exact ⟨hp x hx, (h x (hp x hx)).mpr hx⟩
  unfold cntM
  rw [len_same things_nodup hn hs]
  exact cnt_same _ hs
theorem Holds.add {n : Nat} {p : List Nat} {m t : Nat} (h : Holds n p m) : Holds n (p ++ [t]) (m ||| 1 <<< t) := by
  intro x hx
  rw [bit_or, Bool.or_eq_true, decide_eq_true_iff, List.mem_append, List.mem_singleton, h x hx]
  constructor
  · rintro (z | z)
    · exact .inl z
    · exact .inr z.symm
  · rintro (z | z)
    · exact .inl z
    · exact .inr z.symm
theorem Holds.zero {n : Nat} : Holds n [] 0 := fun x _ => by simp
/-! ### the test by lots -/
/-- those that stand ahead of a thing, as a lot -/
def aheadM (E : Edges) (t : Nat) : Nat := E.foldl (fun m q => if q.2 = t then m ||| 1 <<< q.1 else m) 0
theorem foldM_bit {t : Nat} : ∀ (E : Edges) (m x : Nat), (E.foldl (fun m q => if q.2 = t then m ||| 1 <<< q.1 else m) m).testBit x = true ↔ m.testBit x = true ∨ (x, t) ∈ E
  | [], m, x => by simp
  | q :: E, m, x => by
    rw [List.foldl_cons, foldM_bit E]
    obtain ⟨a, b⟩ := q
    by_cases e : b = t
    · rw [if_pos e, bit_or, Bool.or_eq_true, decide_eq_true_iff, List.mem_cons]
      subst e
      constructor
      · rintro ((h | h) | h)
        · exact .inl h
        · exact .inr (.inl (by simp [← h]))
        · exact .inr (.inr h)
      · rintro (h | h | h)
        · exact .inl (.inl h)
        · exact .inl (.inr (Prod.mk.inj h).1.symm)
        · exact .inr h
    · rw [if_neg e, List.mem_cons]
      constructor
      · rintro (h | h)
        · exact .inl h
        · exact .inr (.inr h)
      · rintro (h | h | h)
        · exact .inl h
        · exact absurd (Prod.mk.inj h).2.symm e
        · exact .inr h
theorem aheadM_bit {E : Edges} {t x : Nat} : (aheadM E t).testBit x = true ↔ (x, t) ∈ E := by
  unfold aheadM
  rw [foldM_bit]
  simp
def okM (E : Edges) (m t : Nat) : Bool := !m.testBit t && (aheadM E t &&& m == aheadM E t)
theorem okM_iff {E : Edges} {m t : Nat} : okM E m t = true ↔ m.testBit t = false ∧ ∀ x, (x, t) ∈ E → m.testBit x = true := by
  unfold okM
  rw [Bool.and_eq_true, Bool.not_eq_true', beq_iff_eq]
  constructor
  · rintro ⟨h1, h2⟩
    refine ⟨h1, fun x hx => ?_⟩
    have h3 : (aheadM E t).testBit x = true := aheadM_bit.mpr hx
    have h4 : (aheadM E t &&& m).testBit x = (aheadM E t).testBit x := by rw [h2]
    rw [Nat.testBit_and, h3, Bool.true_and] at h4
    exact h4
  · rintro ⟨h1, h2⟩
    refine ⟨h1, Nat.eq_of_testBit_eq fun x => ?_⟩
    rw [Nat.testBit_and]
    cases hb : (aheadM E t).testBit x with
    | false => rfl
    | true => rw [h2 x (aheadM_bit.mp hb)]; rfl
theorem okM_okT {n : Nat} {E : Edges} (hE : ∀ q ∈ E, q.1 < n ∧ q.2 < n ∧ q.1 ≠ q.2) {p : List Nat} {m t : Nat} (h : Holds n p m) (ht : t < n) : okM E m t = okT E p t := by
  rw [Bool.eq_iff_iff, okM_iff, okT_iff]
  constructor
  · rintro ⟨h1, h2⟩
    refine ⟨fun z => ?_, fun q hq e => ?_⟩
    · rw [(h t ht).mpr z] at h1
      cases h1
    · obtain ⟨a, b⟩ := q
      have e' : b = t := e
      subst e'
      exact (h a (hE _ hq).1).mp (h2 a hq)
  · rintro ⟨h1, h2⟩
    refine ⟨?_, fun x hx => (h x (hE _ hx).1).mpr (h2 _ hx rfl)⟩
    cases hb : m.testBit t with
    | false => rfl
    | true => exact absurd ((h t ht).mp hb) h1
theorem holds_things {n m : Nat} : Holds n (things n m) m := fun x hx => by
  rw [mem_things]
  exact ⟨fun z => ⟨hx, z⟩, fun z => z.2⟩
theorem nexts_okM {n : Nat} {E : Edges} (hE : ∀ q ∈ E, q.1 < n ∧ q.2 < n ∧ q.1 ≠ q.2) {p : List Nat} {m : Nat} (h : Holds n p m) : nexts n E p = (List.range n).filter (okM E m) := by
  unfold nexts
  exact List.filter_congr fun t ht => (okM_okT hE h (List.mem_range.mp ht)).symm
theorem or_lt {n m t : Nat} (hm : m < 2 ^ n) (ht : t < n) : m ||| 1 <<< t < 2 ^ n := by
  rw [Nat.one_shiftLeft]
  exact Nat.or_lt_two_pow hm (Nat.pow_lt_pow_right (by decide) ht)
theorem or_gt {m t : Nat} (h : m.testBit t = false) : m < m ||| 1 <<< t := by
  have h1 : m ≤ m ||| 1 <<< t := Nat.left_le_or
  refine Nat.lt_of_le_of_ne h1 fun e => ?_
  have q := bit_or (m := m) (t := t) (x := t)
  rw [← e, h, decide_eq_true rfl] at q
  cases q
/-! ### the order with a number -/
theorem flat_get {f : Nat → List (List Nat)} : ∀ {l : List Nat} {t : Nat} {r : List Nat} {i : Nat}, (∀ x ∈ l, f x = []) → ((l ++ t :: r).flatMap f)[i]? = if i < (f t).length then (f t)[i]? else ((r).flatMap f)[i - (f t).length]?
  | [], t, r, i, _ => by
    rw [List.nil_append, List.flatMap_cons]
    by_cases h : i < (f t).length
    · rw [if_pos h, List.getElem?_append_left h]
    · rw [if_neg h, List.getElem?_append_right (by omega)]
  | a :: l, t, r, i, h => by
    rw [List.cons_append, List.flatMap_cons, h a List.mem_cons_self, List.nil_append]
    exact flat_get fun x hx => h x (List.mem_cons_of_mem _ hx)
/-! ### bounds -/
theorem nexts_len {n : Nat} {E : Edges} {p : List Nat} : (nexts n E p).length ≤ n := by
  have h := List.length_filter_le (okT E p) (List.range n)
  rwa [List.length_range] at h
theorem sum_le {f : List Nat → Nat} {c : Nat} : ∀ (l : List (List Nat)), (∀ x ∈ l, f x ≤ c) → (l.map f).sum ≤ c * l.length
  | [], _ => Nat.zero_le _
  | a :: l, h => by
    have ih := sum_le (f := f) (c := c) l fun x hx => h x (List.mem_cons_of_mem _ hx)
    have ha := h a List.mem_cons_self
    rw [List.map_cons, List.sum_cons, List.length_cons, Nat.mul_add, Nat.mul_one]
    omega
theorem lev_len {n : Nat} {E : Edges} : ∀ k, (lev n E k).length ≤ n ^ k
  | 0 => by simp [lev]
  | k + 1 => by
    show ((lev n E k).flatMap fun p => (nexts n E p).map fun t => p ++ [t]).length ≤ _
    rw [List.length_flatMap]
    have h := sum_le (f := fun p => ((nexts n E p).map fun t => p ++ [t]).length) (c := n) (lev n E k) fun x _ => by
      rw [List.length_map]
      exact nexts_len
    have ih := lev_len (n := n) (E := E) k
    have q : n * (lev n E k).length ≤ n * n ^ k := Nat.mul_le_mul_left n ih
    rw [Nat.pow_succ, Nat.mul_comm (n ^ k) n]
    omega
theorem lev_mem {n : Nat} {E : Edges} : ∀ k, ∀ p ∈ lev n E k, p.length = k ∧ p.Nodup ∧ ∀ x ∈ p, x < n
  | 0, p, h => by
    have e : p = [] := by simpa [lev] using h
    subst e
    exact ⟨rfl, by simp, fun x hx => by cases hx⟩
  | k + 1, p, h => by
    obtain ⟨q, hq, h2⟩ := List.mem_flatMap.mp (show p ∈ (lev n E k).flatMap fun p => (nexts n E p).map fun t => p ++ [t] from h)
    obtain ⟨t, ht, rfl⟩ := List.mem_map.mp h2
    obtain ⟨h3, h4, h5⟩ := lev_mem k q hq
    obtain ⟨h6, h7⟩ := mem_nexts.mp ht
    refine ⟨by rw [List.length_append, h3]; rfl, ?_, fun x hx => ?_⟩
    · refine List.nodup_append.mpr ⟨h4, by simp, ?_⟩
      intro a ha b hb e
      rw [List.mem_singleton.mp hb] at e
      subst e
      exact (okT_iff.mp h7).1 ha
    · rcases List.mem_append.mp hx with z | z
      · exact h5 x z
      · rw [List.mem_singleton.mp z]
        exact h6
/-! ### two books of many things -/
def fact : Nat → Nat
  | 0 => 1
  | n + 1 => (n + 1) * fact n
theorem sum_const {c : Nat} {f : Nat → Nat} : ∀ (l : List Nat), (∀ x ∈ l, f x = c) → (l.map f).sum = l.length * c
  | [], _ => by simp
  | a :: l, h => by
    rw [List.map_cons, List.sum_cons, sum_const l fun x hx => h x (List.mem_cons_of_mem _ hx), h a List.mem_cons_self, List.length_cons, Nat.add_mul, Nat.one_mul]
    omega
theorem filter_out_len {n : Nat} {p : List Nat} (hn : p.Nodup) (hp : ∀ x ∈ p, x < n) : ((List.range n).filter fun t => !p.contains t).length = n - p.length := by
  have h1 : (p ++ (List.range n).filter fun t => !p.contains t).Nodup := by
    refine List.nodup_append.mpr ⟨hn, List.nodup_range.sublist List.filter_sublist, ?_⟩
    intro a ha b hb e
    subst e
    have z := (List.mem_filter.mp hb).2
    rw [List.contains_iff_mem.mpr ha] at z
    cases z
  have h2 : ∀ x, x ∈ (p ++ (List.range n).filter fun t => !p.contains t) ↔ x ∈ List.range n := fun x => by
    rw [List.mem_append, List.mem_filter]
    constructor
    · rintro (h | h)
      · exact List.mem_range.mpr (hp x h)
      · exact h.1
    · intro h
      by_cases hx : x ∈ p
      · exact .inl hx
      · refine .inr ⟨h, ?_⟩
        cases hb : p.contains x with
        | false => rfl
        | true => exact absurd (List.contains_iff_mem.mp hb) hx
  have e := len_same h1 List.nodup_range h2
  rw [List.length_append, List.length_range] at e
  omega
theorem cnt_empty {n : Nat} : ∀ (k : Nat) (p : List Nat), p.Nodup → (∀ x ∈ p, x < n) → p.length + k = n → cnt n [] k p = fact k
  | 0, _, _, _, _ => rfl
  | k + 1, p, hn, hp, hl => by
    rw [cnt_succ]
    have e : nexts n [] p = (List.range n).filter fun t => !p.contains t := by
      unfold nexts
      congr 1
      funext t
      unfold okT
      simp
    have h : ∀ t ∈ nexts n [] p, cnt n [] k (p ++ [t]) = fact k := fun t ht => by
      obtain ⟨h1, h2⟩ := mem_nexts.mp ht
      refine cnt_empty k (p ++ [t]) ?_ (fun x hx => ?_) (by rw [List.length_append, List.length_singleton]; omega)
      · refine List.nodup_append.mpr ⟨hn, by simp, ?_⟩
        intro a ha b hb e
        rw [List.mem_singleton.mp hb] at e
        subst e
        exact (okT_iff.mp h2).1 ha
      · rcases List.mem_append.mp hx with z | z
        · exact hp x z
        · rw [List.mem_singleton.mp z]
          exact h1
    rw [sum_const _ h, e, filter_out_len hn hp]
    have e2 : n - p.length = k + 1 := by omega
    rw [e2]
    rfl
def chain (n : Nat) : Edges := (List.range n).map fun i => (i, i + 1)
theorem cnt_chain {m : Nat} : ∀ (k j : Nat), j + k = m + 1 → cnt (m + 1) (chain m) k (List.range j) = 1
  | 0, _, _ => rfl
  | k + 1, j, h => by
    rw [cnt_succ]
    have e : nexts (m + 1) (chain m) (List.range j) = [j] := by
      refine asc_ext (List.Pairwise.filter _ List.pairwise_lt_range) (by simp) fun x => ?_
      rw [mem_nexts, okT_iff, List.mem_singleton]
      constructor
      · rintro ⟨h1, h2, h3⟩
        have h4 : j ≤ x := by
          refine Nat.le_of_not_lt fun z => h2 (List.mem_range.mpr z)
        by_cases hx : x = 0
        · omega
        · have hm : (x - 1, x) ∈ chain m := List.mem_map.mpr ⟨x - 1, List.mem_range.mpr (by omega), by simp; omega⟩
          have h5 := List.mem_range.mp (h3 _ hm rfl)
          have h6 : x - 1 < j := h5
          omega
      · rintro rfl
        refine ⟨by omega, fun z => Nat.lt_irrefl _ (List.mem_range.mp z), fun q hq e => ?_⟩
        obtain ⟨i, hi, rfl⟩ := List.mem_map.mp hq
        have e' : i + 1 = x := e
        exact List.mem_range.mpr (show i < x by omega)
    rw [e, List.map_singleton, List.sum_singleton, ← List.range_succ]
    exact cnt_chain k (j + 1) (by omega)
theorem fourteen_chain : (lev 14 (chain 13) 14).length = 1 := by
  rw [lev_all]
  exact cnt_chain (m := 13) 14 0 rfl
theorem fourteen_empty : (lev 14 [] 14).length = 87178291200 := by
  rw [lev_all]
  exact cnt_empty 14 [] (by simp) (fun x hx => by cases hx) rfl
end K3
set_option Elab.async false
set_option linter.all false
set_option maxRecDepth 100000
set_option maxHeartbeats 4000000
/-! The text by places; what the top has written. -/
namespace K3
open PySem PySem.Spec PyProof.Rows L2
def topS (i : Nat) : Stmt := PySem.Challenge.pw_fourstrokes_k03_whole_books_rings_orders.main.body.getD i (.Pass ⟨0, 0, 0, 0⟩)
/-- a def of the text as it stands behind the top -/
structure Fn (K : PySem.W.Frag) (mg : Str → Option Value) (x : Str) (st : Stmt) (ps : List Str) where
  f : Addr
  fd : FuncData
  F : Fun K x x st f fd
  g : mg x = some (.ref f)
  b : Binds K fd ps []
structure Txt (K : PySem.W.Frag) (mg : Str → Option Value) where
  is_integer : Fn K mg "is_integer" (topS 6) ["thing"]
  is_within : Fn K mg "is_within" (topS 7) ["thing", "least", "most"]
  is_below : Fn K mg "is_below" (topS 8) ["thing", "many"]
  is_pair : Fn K mg "is_pair" (topS 9) ["thing"]
  check_number : Fn K mg "check_number" (topS 10) ["thing", "least", "most"]
  is_entry : Fn K mg "is_entry" (topS 14) ["many", "thing"]
  first_wrong : Fn K mg "first_wrong" (topS 15) ["many", "thing"]
  check_book : Fn K mg "check_book" (topS 16) ["many", "thing"]
  followers : Fn K mg "followers" (topS 17) ["many", "pairs"]
  ring_from : Fn K mg "ring_from" (topS 18) ["behind", "first"]
  begun_least : Fn K mg "begun_least" (topS 19) ["items"]
  ring_of : Fn K mg "ring_of" (topS 20) ["many", "pairs"]
  ring : Fn K mg "ring" (topS 21) ["many", "book"]
  is_ring_of : Fn K mg "is_ring_of" (topS 22) ["many", "pairs", "thing"]
  is_ring : Fn K mg "is_ring" (topS 23) ["many", "book", "thing"]
  reached : Fn K mg "reached" (topS 24) ["behind", "first"]
  passed_on : Fn K mg "passed_on" (topS 25) ["many", "book"]
  masks_ahead : Fn K mg "masks_ahead" (topS 26) ["many", "pairs"]
  ways_on : Fn K mg "ways_on" (topS 27) ["many", "pairs"]
  check_few : Fn K mg "check_few" (topS 28) ["many"]
  count_orders : Fn K mg "count_orders" (topS 29) ["many", "book"]
  order_at : Fn K mg "order_at" (topS 30) ["many", "book", "number"]
  law_pool : Fn K mg "_law_pool" (topS 32) ["_law_script"]
  law_draw : Fn K mg "_law_draw" (topS 33) ["_law_pool_here", "_law_many"]
  law_deep : Fn K mg "_law_deep" (topS 34) []
  law_flag : Fn K mg "_law_flag" (topS 35) ["_law_thing", "_law_due_here"]
  law_is : Fn K mg "_law_is" (topS 36) ["_law_told", "_law_due_here"]
  law_is_int : Fn K mg "_law_is_int" (topS 37) ["_law_thing", "_law_least", "_law_most"]
  law_has_ring : Fn K mg "_law_has_ring" (topS 38) ["_law_many", "_law_pairs_here"]
  law_pairs : Fn K mg "_law_pairs" (topS 39) ["_law_pool_here", "_law_many", "_law_most"]
  law_due : Fn K mg "_law_due" (topS 40) ["_law_many", "_law_thing"]
  law_ways : Fn K mg "_law_ways" (topS 41) ["_law_many", "_law_pairs_here"]
  law_orders : Fn K mg "_law_orders" (topS 42) ["_law_many", "_law_pairs_here"]
  law_is_ring : Fn K mg "_law_is_ring" (topS 43) ["_law_many", "_law_pairs_here", "_law_thing"]
  law_call : Fn K mg "_law_call" (topS 44) ["_law_which", "_law_many", "_law_thing", "_law_more"]
  law_word : Fn K mg "_law_word" (topS 45) ["_law_which", "_law_many", "_law_thing", "_law_more"]
  law_bent : Fn K mg "_law_bent" (topS 46) ["_law_pool_here", "_law_many", "_law_book"]
  law_told_right : Fn K mg "_law_told_right" (topS 47) ["_law_pool_here", "_law_many", "_law_book"]
  law_orders_right : Fn K mg "_law_orders_right" (topS 48) ["_law_pool_here", "_law_many", "_law_book"]
  law : Fn K mg "law" (topS 49) ["_law_script"]
  m_len : mg "len" = none
  m_isinstance : mg "isinstance" = none
  m_range : mg "range" = none
  m_list : mg "list" = none
  m_tuple : mg "tuple" = none
  m_sorted : mg "sorted" = none
  m_set : mg "set" = none
  m_min : mg "min" = none
  m_max : mg "max" = none
  m_int : mg "int" = none
  m_bool : mg "bool" = none
  m_abs : mg "abs" = none
  m_sum : mg "sum" = none
  m_all : mg "all" = none
  m_repr : mg "repr" = none
  m_enumerate : mg "enumerate" = none
  m_ValueError : mg "ValueError" = none
  t_MOST_BOXES : Tok
  g_MOST_BOXES : mg "MOST_BOXES" = some (.int 40 t_MOST_BOXES)
  t_MOST_ORDERED : Tok
  g_MOST_ORDERED : mg "MOST_ORDERED" = some (.int 14 t_MOST_ORDERED)
end K3
set_option Elab.async false
set_option linter.all false
set_option maxRecDepth 100000
set_option maxHeartbeats 4000000
/-! Data as values: what stays when the heap grows; kinds; what isinstance answers. -/
namespace K3
open PySem PySem.Spec PyProof.Rows L2
open Evl (Ex)
mutual
theorem dp_ex {K : PySem.W.Frag} {H H' : Hp} (e : Ex H H') : ∀ (d : PyData) (v : V), Dp K H v d → Dp K H' v d
  | .none, _, h => by cases h; exact .non
  | .bool b, _, h => by cases h; exact .bl b
  | .int i, _, h => by cases h; exact .int i
  | .str x, _, h => by cases h; exact .str x
  | .list ds, _, h => by
    cases h with
    | lst hs ha => exact .lst (Evl.ex_l e hs) (dpAll_ex e ds _ ha)
  | .tuple ds, _, h => by
    cases h with
    | tup hs ha => exact .tup (Evl.ex_t e hs) (dpAll_ex e ds _ ha)
  | .dict _, _, h => by cases h
theorem dpAll_ex {K : PySem.W.Frag} {H H' : Hp} (e : Ex H H') : ∀ (ds : List PyData) (vs : List V), DpAll K H vs ds → DpAll K H' vs ds
  | [], _, h => by cases h; exact .nil
  | d :: ds, _, h => by
    cases h with
    | cons h1 h2 => exact .cons (dp_ex e d _ h1) (dpAll_ex e ds _ h2)
end
/-- data, or the empty dict -/
def Dx (K : PySem.W.Frag) (H : Hp) (v : V) (d : PyData) : Prop := Dp K H v d ∨ ∃ a, v = .ref a ∧ H a = some (.dK []) ∧ d = .dict []
theorem Dx.ex {K : PySem.W.Frag} {H H' : Hp} {v : V} {d : PyData} (e : Ex H H') (h : Dx K H v d) : Dx K H' v d := by
  rcases h with h | ⟨a, h1, h2, h3⟩
  · exact .inl (dp_ex e d v h)
  · exact .inr ⟨a, h1, e _ _ h2, h3⟩
def kindD : PyData → String
  | .none => "NoneType"
  | .bool _ => "bool"
  | .int _ => "int"
  | .str _ => "str"
  | .list _ => "list"
  | .tuple _ => "tuple"
  | .dict _ => "dict"
theorem Dx.ty {K : PySem.W.Frag} {H : Hp} {v : V} {d : PyData} (h : Dx K H v d) : TyX K H v (.type (kindD d)) := by
  rcases h with h | ⟨a, rfl, h2, rfl⟩
  · cases h with
    | non => exact .base .non
    | bl b => exact .base (.bl b)
    | int i => exact .base (.int i)
    | str x => exact .base (.str x)
    | lst hs _ =>
      rcases hs with (h | ⟨o, h⟩) | ⟨o, its, n, h1, h2, _⟩
      · exact .base (.lst h)
      · exact .base (.frz h)
      · exact .kList h1 h2
    | tup hs _ =>
      rcases hs with (h | ⟨o, h⟩) | ⟨o, its, n, h1, h2, _⟩
      · exact .base (.tup h)
      · exact .fTuple h
      · exact .kTuple h1 h2
  · exact .base (.dK h2)
def isIntD : PyData → Bool
  | .int _ => true
  | _ => false
def isTupD : PyData → Bool
  | .tuple _ => true
  | _ => false
def isIntB : PyData → Bool
  | .int _ => true
  | .bool _ => true
  | _ => false
def isBoolD : PyData → Bool
  | .bool _ => true
  | _ => false
theorem kit_int {K : PySem.W.Frag} : ∀ (d : PyData), PySem.W.kitOne K (.type (kindD d)) (.type "int") = some (isIntB d)
  | .none => kit_ty (a := "NoneType") (b := "int") (r := false) (by decide +kernel)
  | .bool _ => kit_ty (a := "bool") (b := "int") (r := true) (by decide +kernel)
  | .int _ => kit_ty (a := "int") (b := "int") (r := true) (by decide +kernel)
  | .str _ => kit_ty (a := "str") (b := "int") (r := false) (by decide +kernel)
  | .list _ => kit_ty (a := "list") (b := "int") (r := false) (by decide +kernel)
  | .tuple _ => kit_ty (a := "tuple") (b := "int") (r := false) (by decide +kernel)
  | .dict _ => kit_ty (a := "dict") (b := "int") (r := false) (by decide +kernel)
theorem kit_bool {K : PySem.W.Frag} : ∀ (d : PyData), PySem.W.kitOne K (.type (kindD d)) (.type "bool") = some (isBoolD d)
  | .none => kit_ty (a := "NoneType") (b := "bool") (r := false) (by decide +kernel)
  | .bool _ => kit_ty (a := "bool") (b := "bool") (r := true) (by decide +kernel)
  | .int _ => kit_ty (a := "int") (b := "bool") (r := false) (by decide +kernel)
  | .str _ => kit_ty (a := "str") (b := "bool") (r := false) (by decide +kernel)
  | .list _ => kit_ty (a := "list") (b := "bool") (r := false) (by decide +kernel)
  | .tuple _ => kit_ty (a := "tuple") (b := "bool") (r := false) (by decide +kernel)
  | .dict _ => kit_ty (a := "dict") (b := "bool") (r := false) (by decide +kernel)
theorem kit_tup {K : PySem.W.Frag} : ∀ (d : PyData), PySem.W.kitOne K (.type (kindD d)) (.type "tuple") = some (isTupD d)
  | .none => kit_ty (a := "NoneType") (b := "tuple") (r := false) (by decide +kernel)
  | .bool _ => kit_ty (a := "bool") (b := "tuple") (r := false) (by decide +kernel)
  | .int _ => kit_ty (a := "int") (b := "tuple") (r := false) (by decide +kernel)
  | .str _ => kit_ty (a := "str") (b := "tuple") (r := false) (by decide +kernel)
  | .list _ => kit_ty (a := "list") (b := "tuple") (r := false) (by decide +kernel)
  | .tuple _ => kit_ty (a := "tuple") (b := "tuple") (r := true) (by decide +kernel)
  | .dict _ => kit_ty (a := "dict") (b := "tuple") (r := false) (by decide +kernel)
theorem isInt_eq (d : PyData) : (isIntB d && !isBoolD d) = isIntD d := by cases d <;> rfl
/-- isinstance(x, T) by the reading: H stays -/
theorem isi_int {K : PySem.W.Frag} {H : Hp} {v : V} {d : PyData} {Q : VK} (h : Dx K H v d) (q : Q (.bl (isIntB d)) H) : rIsi K [v, .ty "int"] H Q := ⟨v, .ty "int", _, _, _, rfl, .ty "int", h.ty, kit_int d, q⟩
theorem isi_bool {K : PySem.W.Frag} {H : Hp} {v : V} {d : PyData} {Q : VK} (h : Dx K H v d) (q : Q (.bl (isBoolD d)) H) : rIsi K [v, .ty "bool"] H Q := ⟨v, .ty "bool", _, _, _, rfl, .ty "bool", h.ty, kit_bool d, q⟩
theorem isi_tup {K : PySem.W.Frag} {H : Hp} {v : V} {d : PyData} {Q : VK} (h : Dx K H v d) (q : Q (.bl (isTupD d)) H) : rIsi K [v, .ty "tuple"] H Q := ⟨v, .ty "tuple", _, _, _, rfl, .ty "tuple", h.ty, kit_tup d, q⟩
/-! ### the mirrors of the checks -/
def isWithinD (lo hi : Int) : PyData → Bool
  | .int i => decide (lo ≤ i) && decide (i ≤ hi)
  | _ => false
def isBelowD (n : Int) (d : PyData) : Bool := isWithinD 0 (n - 1) d
def isPairD : PyData → Bool
  | .tuple [_, _] => true
  | _ => false
def isEntryD (n : Int) : PyData → Bool
  | .tuple [.int a, .int b] => decide (0 ≤ a) && decide (a ≤ n - 1) && (decide (0 ≤ b) && decide (b ≤ n - 1)) && !decide (a = b)
  | _ => false
end K3
set_option Elab.async false
set_option linter.all false
set_option maxRecDepth 100000
set_option maxHeartbeats 4000000
/-! is_integer, is_within, is_below, is_pair, is_entry; the law's own is_int. -/
namespace K3
open PySem PySem.Spec PyProof.Rows L2
open Evl (Ex)
theorem Dx.int {K : PySem.W.Frag} {H : Hp} (i : Int) : Dx K H (.int i) (.int i) := .inl (.int i)
theorem Dx.of {K : PySem.W.Frag} {H : Hp} {v : V} {d : PyData} (h : Dp K H v d) : Dx K H v d := .inl h
theorem dpAll_len {K : PySem.W.Frag} {H : Hp} : ∀ {ds : List PyData} {xs : List V}, DpAll K H xs ds → xs.length = ds.length
  | [], _, h => by cases h; rfl
  | d :: ds, _, h => by
    cases h with
    | cons _ h2 => rw [List.length_cons, List.length_cons, dpAll_len h2]
theorem dpAll_get {K : PySem.W.Frag} {H : Hp} : ∀ {ds : List PyData} {xs : List V} {i : Nat} {d : PyData}, DpAll K H xs ds → ds[i]? = some d → ∃ v, xs[i]? = some v ∧ Dp K H v d
  | [], _, i, d, _, e => by simp at e
  | c :: ds, _, i, d, h, e => by
    cases h with
    | cons h1 h2 =>
      cases i with
      | zero =>
        have e' : c = d := Option.some.inj e
        subst e'
        exact ⟨_, rfl, h1⟩
      | succ i =>
        obtain ⟨v, g1, g2⟩ := dpAll_get (i := i) h2 (by simpa using e)
        exact ⟨v, by simpa using g1, g2⟩
theorem dx_tup {K : PySem.W.Frag} {H : Hp} {v : V} {ds : List PyData} (h : Dx K H v (.tuple ds)) : ∃ a xs, v = .ref a ∧ SqT K H a xs ∧ DpAll K H xs ds := by
  rcases h with h | ⟨_, _, _, h⟩
  · cases h with
    | tup hs ha => exact ⟨_, _, rfl, hs, ha⟩
  · cases h
section
variable {P : Program} {w : World} {K : PySem.W.Frag} {mg : Str → Option Value} {base : Heap} (T : Txt K mg)
theorem sc_is_integer : FnScope ["thing"] ["thing"] (defScope (topS 6)) := ⟨rfl, rfl, rfl, by decide +kernel, rfl, by decide +kernel, by decide +kernel⟩
def spIsInt (K : PySem.W.Frag) : Sp := fun vs H Q _ => ∃ v d, vs = [v] ∧ Dx K H v d ∧ Q (.bl (isIntD d)) H
theorem ok_is_integer : FnOk P w K mg base CX0 1 T.is_integer.f T.is_integer.fd ["thing"] (spIsInt K) := by
  refine T.is_integer.F.ok sc_is_integer (fun vs H Q E h => ?_) (fun cdv A outer s H vs Q E hr h => ?_)
  · obtain ⟨v, d, rfl, _⟩ := h
    rfl
  · obtain ⟨v, d, rfl, hd, q⟩ := h
    refine ⟨_, (pss_one (ps_ret (pe_and (pe_callB call_isi (by rfl) T.m_isinstance boot_isinstance (pa_cons (pv 0) (pa_cons (pe_bltn (v := .ty "int") (by rfl) T.m_int boot_int rfl) pa_nil))) (pe_one (pe_not (pe_callB call_isi (by rfl) T.m_isinstance boot_isinstance (pa_cons (pv 0) (pa_cons (pe_bltn (v := .ty "bool") (by rfl) T.m_bool boot_bool rfl) pa_nil)))))))), ?_⟩
    refine ⟨v, rfl, v, .ty "int", _, _, _, rfl, .ty "int", hd.ty, kit_int d, _, rfl, ?_⟩
    have e := isInt_eq d
    cases hb : isIntB d with
    | false =>
      rw [hb, Bool.false_and] at e
      rw [← e] at q
      exact iteF q
    | true =>
      rw [hb, Bool.true_and] at e
      rw [← e] at q
      exact iteT ⟨v, rfl, v, .ty "bool", _, _, _, rfl, .ty "bool", hd.ty, kit_bool d, _, rfl, q⟩
theorem sc_is_within : FnScope ["thing", "least", "most"] ["thing", "least", "most"] (defScope (topS 7)) := ⟨rfl, rfl, rfl, by decide +kernel, rfl, by decide +kernel, by decide +kernel⟩
def spWithin (K : PySem.W.Frag) : Sp := fun vs H Q _ => ∃ v d lo hi, vs = [v, .int lo, .int hi] ∧ Dx K H v d ∧ Q (.bl (isWithinD lo hi d)) H
theorem ok_is_within : FnOk P w K mg base CX0 2 T.is_within.f T.is_within.fd ["thing", "least", "most"] (spWithin K) := by
  have G_is_integer : FnOk P w K mg base CX0 1 T.is_integer.f T.is_integer.fd ["thing"] (spIsInt K) := ok_is_integer T
  refine T.is_within.F.ok sc_is_within (fun vs H Q E h => ?_) (fun cdv A outer s H vs Q E hr h => ?_)
  · obtain ⟨v, d, lo, hi, rfl, _⟩ := h
    rfl
  · obtain ⟨v, d, lo, hi, rfl, hd, q⟩ := h
    refine ⟨_, (pss_one (ps_ret (pe_and (pe_call G_is_integer (hr.mono (by decide)) (by rfl) T.is_integer.g T.is_integer.F.kp T.is_integer.b .nil pass0 (pa_cons (pv 0) pa_nil)) (pe_one (pe_chain op_le op_le (pv 1) (pv 0) (pv 2)))))), ?_⟩
    refine ⟨v, rfl, v, d, rfl, hd, _, rfl, ?_⟩
    cases d with
    | int i =>
      rcases hd with hd | ⟨_, _, _, z⟩
      · cases hd
        refine iteT ⟨_, rfl, _, rfl, _, _, rfl, rfl, _, rfl, ?_⟩
        have q' : Q (.bl (decide (lo ≤ i) && decide (i ≤ hi))) H := q
        by_cases h : lo ≤ i
        · rw [decide_eq_true h] at q' ⊢
          exact iteT ⟨_, rfl, _, _, rfl, rfl, q'⟩
        · rw [decide_eq_false h] at q' ⊢
          exact iteF q'
      · cases z
    | _ => exact iteF q
theorem sc_is_below : FnScope ["thing", "many"] ["thing", "many"] (defScope (topS 8)) := ⟨rfl, rfl, rfl, by decide +kernel, rfl, by decide +kernel, by decide +kernel⟩
def spBelow (K : PySem.W.Frag) : Sp := fun vs H Q _ => ∃ v d n, vs = [v, .int n] ∧ Dx K H v d ∧ Q (.bl (isBelowD n d)) H
theorem ok_is_below : FnOk P w K mg base CX0 3 T.is_below.f T.is_below.fd ["thing", "many"] (spBelow K) := by
  have G_is_within : FnOk P w K mg base CX0 2 T.is_within.f T.is_within.fd ["thing", "least", "most"] (spWithin K) := ok_is_within T
  refine T.is_below.F.ok sc_is_below (fun vs H Q E h => ?_) (fun cdv A outer s H vs Q E hr h => ?_)
  · obtain ⟨v, d, n, rfl, _⟩ := h
    rfl
  · obtain ⟨v, d, n, rfl, hd, q⟩ := h
    refine ⟨_, (pss_one (ps_ret (pe_call G_is_within (hr.mono (by decide)) (by rfl) T.is_within.g T.is_within.F.kp T.is_within.b .nil pass0 (pa_cons (pv 0) (pa_cons pe_int (pa_cons (pe_op op_sub (pv 1) pe_int) pa_nil)))))), ?_⟩
    exact ⟨v, rfl, _, rfl, _, _, rfl, rfl, v, d, _, _, rfl, hd, q⟩
theorem sc_is_pair : FnScope ["thing"] ["thing"] (defScope (topS 9)) := ⟨rfl, rfl, rfl, by decide +kernel, rfl, by decide +kernel, by decide +kernel⟩
def spPair (K : PySem.W.Frag) : Sp := fun vs H Q _ => ∃ v d, vs = [v] ∧ Dx K H v d ∧ Q (.bl (isPairD d)) H
theorem isPair_len (ds : List PyData) : isPairD (.tuple ds) = decide (ds.length = 2) := by
  match ds with
  | [] => rfl
  | [_] => rfl
  | [_, _] => rfl
  | a :: b :: c :: r =>
    rw [decide_eq_false (by simp)]
    rfl
theorem ok_is_pair : FnOk P w K mg base CX0 1 T.is_pair.f T.is_pair.fd ["thing"] (spPair K) := by
  refine T.is_pair.F.ok sc_is_pair (fun vs H Q E h => ?_) (fun cdv A outer s H vs Q E hr h => ?_)
  · obtain ⟨v, d, rfl, _⟩ := h
    rfl
  · obtain ⟨v, d, rfl, hd, q⟩ := h
    refine ⟨_, (pss_one (ps_ret (pe_and (pe_callB call_isi (by rfl) T.m_isinstance boot_isinstance (pa_cons (pv 0) (pa_cons (pe_bltn (v := .ty "tuple") (by rfl) T.m_tuple boot_tuple rfl) pa_nil))) (pe_one (pe_cmpR op_eq (pe_callB call_len_seq (by rfl) T.m_len PySem.boot_len (pa_cons (pv 0) pa_nil)) pe_int (nomark _)))))), ?_⟩
    refine ⟨v, rfl, v, .ty "tuple", _, _, _, rfl, .ty "tuple", hd.ty, kit_tup d, _, rfl, ?_⟩
    cases d with
    | tuple ds =>
      obtain ⟨a, xs, rfl, hs, ha⟩ := dx_tup hd
      refine iteT ⟨_, rfl, a, xs, rfl, .inr hs, rfl, ?_⟩
      have e : decide (V.int ((xs.length : Nat) : Int) = V.int 2) = isPairD (.tuple ds) := by
        rw [isPair_len, dpAll_len ha, Bool.eq_iff_iff, decide_eq_true_iff, decide_eq_true_iff]
        constructor
        · intro z
          have z' := V.int.inj z
          omega
        · intro z
          rw [z]
          rfl
      rw [e]
      exact q
    | _ => exact iteF q
theorem sc_is_entry : FnScope ["many", "thing"] ["many", "thing"] (defScope (topS 14)) := ⟨rfl, rfl, rfl, by decide +kernel, rfl, by decide +kernel, by decide +kernel⟩
def spEntry (K : PySem.W.Frag) : Sp := fun vs H Q _ => ∃ v d n, vs = [.int n, v] ∧ Dx K H v d ∧ Q (.bl (isEntryD n d)) H
theorem pair_of {d : PyData} (h : isPairD d = true) : ∃ a b, d = .tuple [a, b] := by
  unfold isPairD at h
  split at h
  · exact ⟨_, _, rfl⟩
  · cases h
theorem entry_not_pair {n : Int} {d : PyData} (h : isPairD d = false) : isEntryD n d = false := by
  unfold isEntryD
  split
  · cases h
  · rfl
theorem entry_a {n : Int} {a b : PyData} (h : isBelowD n a = false) : isEntryD n (.tuple [a, b]) = false := by
  unfold isEntryD
  split
  · rename_i i j e
    cases e
    have h' : (decide (0 ≤ i) && decide (i ≤ n - 1)) = false := h
    rw [h', Bool.false_and, Bool.false_and]
  · rfl
theorem entry_b {n : Int} {a b : PyData} (h : isBelowD n b = false) : isEntryD n (.tuple [a, b]) = false := by
  unfold isEntryD
  split
  · rename_i i j e
    cases e
    have h' : (decide (0 ≤ j) && decide (j ≤ n - 1)) = false := h
    rw [h', Bool.and_false, Bool.false_and]
  · rfl
theorem below_int {n : Int} {a : PyData} (h : isBelowD n a = true) : ∃ i, a = .int i ∧ 0 ≤ i ∧ i ≤ n - 1 := by
  unfold isBelowD isWithinD at h
  split at h
  · rename_i i
    rw [Bool.and_eq_true, decide_eq_true_iff, decide_eq_true_iff] at h
    exact ⟨i, rfl, h.1, h.2⟩
  · cases h
theorem ok_is_entry : FnOk P w K mg base CX0 4 T.is_entry.f T.is_entry.fd ["many", "thing"] (spEntry K) := by
  have G_is_pair : FnOk P w K mg base CX0 1 T.is_pair.f T.is_pair.fd ["thing"] (spPair K) := ok_is_pair T
  have G_is_below : FnOk P w K mg base CX0 3 T.is_below.f T.is_below.fd ["thing", "many"] (spBelow K) := ok_is_below T
  refine T.is_entry.F.ok sc_is_entry (fun vs H Q E h => ?_) (fun cdv A outer s H vs Q E hr h => ?_)
  · obtain ⟨v, d, n, rfl, _⟩ := h
    rfl
  · obtain ⟨v, d, n, rfl, hd, q⟩ := h
    refine ⟨_, (pss_one (ps_ret (pe_and (pe_call G_is_pair (hr.mono (by decide)) (by rfl) T.is_pair.g T.is_pair.F.kp T.is_pair.b .nil pass0 (pa_cons (pv 1) pa_nil)) (pe_and (pe_call G_is_below (hr.mono (by decide)) (by rfl) T.is_below.g T.is_below.F.kp T.is_below.b .nil pass0 (pa_cons (pe_ix ix_tup (pv 1) pe_int (fun _ _ => rfl)) (pa_cons (pv 0) pa_nil))) (pe_and (pe_call G_is_below (hr.mono (by decide)) (by rfl) T.is_below.g T.is_below.F.kp T.is_below.b .nil pass0 (pa_cons (pe_ix ix_tup (pv 1) pe_int (fun _ _ => rfl)) (pa_cons (pv 0) pa_nil))) (pe_one (pe_cmpR op_ne (pe_ix ix_tup (pv 1) pe_int (fun _ _ => rfl)) (pe_ix ix_tup (pv 1) pe_int (fun _ _ => rfl)) (nomark _)))))))), ?_⟩
    refine ⟨v, rfl, v, d, rfl, hd, _, rfl, ?_⟩
    cases hp : isPairD d with
    | false =>
      rw [entry_not_pair hp] at q
      exact iteF q
    | true =>
      obtain ⟨da, db, rfl⟩ := pair_of hp
      obtain ⟨a, xs, rfl, hs, ha⟩ := dx_tup hd
      obtain ⟨va, ga, hda⟩ := dpAll_get (i := 0) ha rfl
      obtain ⟨vb, gb, hdb⟩ := dpAll_get (i := 1) ha rfl
      have ia : atI xs 0 = some va := atI_nat (j := 0) ga
      have ib : atI xs 1 = some vb := atI_nat (j := 1) gb
      refine iteT ⟨_, rfl, a, xs, 0, va, rfl, rfl, hs, ia, _, rfl, va, da, n, rfl, .of hda, _, rfl, ?_⟩
      cases h1 : isBelowD n da with
      | false =>
        rw [entry_a h1] at q
        exact iteF q
      | true =>
        refine iteT ⟨_, rfl, a, xs, 1, vb, rfl, rfl, hs, ib, _, rfl, vb, db, n, rfl, .of hdb, _, rfl, ?_⟩
        cases h2 : isBelowD n db with
        | false =>
          rw [entry_b h2] at q
          exact iteF q
        | true =>
          obtain ⟨i, rfl, i1, i2⟩ := below_int h1
          obtain ⟨j, rfl, j1, j2⟩ := below_int h2
          cases hda
          cases hdb
          refine iteT ⟨_, rfl, a, xs, 0, _, rfl, rfl, hs, ia, _, rfl, a, xs, 1, _, rfl, rfl, hs, ib, rfl, ?_⟩
          have e : isEntryD n (.tuple [.int i, .int j]) = !decide (V.int i = V.int j) := by
            show (decide (0 ≤ i) && decide (i ≤ n - 1) && (decide (0 ≤ j) && decide (j ≤ n - 1)) && !decide (i = j)) = _
            rw [decide_eq_true i1, decide_eq_true i2, decide_eq_true j1, decide_eq_true j2]
            simp
          rw [e] at q
          exact q
end
end K3
set_option Elab.async false
set_option linter.all false
set_option maxRecDepth 100000
set_option maxHeartbeats 4000000
/-! Rules of our own: an item of a list for op=, least and greatest of a tuple, tuple.index, in over tuples of data, enumerate over a tuple, a tuple turned round, the set of a list of ints. -/
namespace K3
open PySem PySem.Spec PyProof.Rows L2
section
variable {X : Cx}
/-- o[i] of a list, for op= -/
theorem get_listI : PGet X (rIxL X.K) := by
  intro pins s σ H x y v u Q I rx ry h
  obtain ⟨p, xs, i, z, rfl, rfl, hq, he, q⟩ := h
  cases rx
  obtain ⟨t, rfl⟩ := ry
  obtain ⟨its, r, pl, hz⟩ := I.list hq
  obtain ⟨j, h1, h2, h3, h4, h5⟩ := atI_get he
  obtain ⟨w, ew, rw'⟩ := r.get h2
  have hl := r.length
  have hn := line63
  have fin : EP X pins σ Q w s := ⟨z, H, I, rw', q⟩
  by_cases h0 : 0 ≤ i
  · have hj : i.toNat = j := by
      rw [seqIndex_of h0 h5] at h1
      exact Option.some.inj h1
    exact wpAny_getItem_list pl.isList h0 (by omega) (by rw [hj]; simpa using ew) fin
  · have hj : (i + (its.toArray.size : Int)).toNat = j := by
      rw [seqIndex_neg (by omega) h4] at h1
      rw [List.size_toArray, ← hl]
      exact Option.some.inj h1
    exact wpAny_getItem_list_neg pl.isList (by omega) (by rw [List.size_toArray]; omega) (by omega) (by rw [hj]; simpa using ew) fin
/-! ### the least, the greatest of a tuple -/
theorem fresh_two {h : Heap} {l : Addr} (hl : l < h.objs.size) (o : Obj) : ∀ b ∈ [h.objs.size, l], b < (h.push o).objs.size := fun b hb => by
  rw [Heap.size_push]
  simp only [List.mem_cons, List.not_mem_nil, or_false] at hb
  rcases hb with e | e
  · rw [e]
    exact Nat.lt_succ_self _
  · rw [e]
    exact Nat.lt_succ_of_lt hl
theorem kept_but_it {h h' : Heap} {o : Obj} (k : ∀ b u, b ∉ [h.objs.size] → (h.push o).get? b = some u → h'.get? b = some u) : ∀ b u, h.get? b = some u → h'.get? b = some u := fun b u e =>
  k b u (fun m => by
    have z : b = h.objs.size := by simpa using m
    have q := Heap.lt_size e
    rw [z] at q
    exact Nat.lt_irrefl _ q) (Heap.get?_push_of_some _ e)
def rMinT (K : PySem.W.Frag) : List V → Hp → VK → Prop := fun vs H Q => ∃ (a : Addr) (ns : List Int), vs = [V.ref a] ∧ SqT K H a (ns.map V.int) ∧ 0 < ns.length ∧ ∀ m, m ∈ ns → (∀ y, y ∈ ns → m ≤ y) → Q (.int m) H
def rMaxT (K : PySem.W.Frag) : List V → Hp → VK → Prop := fun vs H Q => ∃ (a : Addr) (ns : List Int), vs = [V.ref a] ∧ SqT K H a (ns.map V.int) ∧ 0 < ns.length ∧ ∀ m, m ∈ ns → (∀ y, y ∈ ns → y ≤ m) → Q (.int m) H
theorem tup_walk {pins : List (Addr × Obj)} {σ : L2.St} {H : Hp} {s : Shared} {a : Addr} {ns : List Int} (I : Inv X pins σ H s) (hs : SqT X.K H a (ns.map V.int)) :
    ∃ xs : Array (Int × Tok), s.heap.IsTuple a (intItems xs) ∧ xs.toList.map (·.1) = ns ∧ a < s.heap.objs.size := by
  obtain ⟨its, rv, ht, _⟩ := I.tuple hs
  have hi := rv.ints
  obtain ⟨xs, e⟩ := hi.allInts.items
  have hn : numsOf (intItems xs).toList = ns := by rw [← e]; exact hi.numsOf
  rw [nums_intItems] at hn
  refine ⟨xs, ?_, hn, ?_⟩
  · rw [← e]
    exact ht
  · obtain ⟨o, ho, _⟩ := ht
    exact Heap.lt_size ho
theorem cr_minT (hc : X.calm = true) : CallR X (.builtin "min") (rMinT X.K) := by
  intro pins s σ H vs us Q I r h
  obtain ⟨a, ns, rfl, hs, hne, q⟩ := h
  rw [Vals.ref1 r]
  obtain ⟨xs, ht, hn, hlt⟩ := tup_walk I hs
  subst hn
  have hsz : 0 < xs.size := by simpa using hne
  have hneq : a ≠ s.heap.objs.size := Nat.ne_of_lt hlt
  refine call_min_walk (wpAny_pyIter_tuple ht ⟨_, _, _, _, _, _, _, rfl, Walks.tuple (A := X.A.in1) (I.ok.hd hc) _ a hneq (intItems xs), ⟨⟨_, Heap.get?_push_size _ rfl, rfl, rfl⟩, ht.push _⟩, fresh_two hlt _, by simpa [intItems] using hsz,
    CmpOf.ints_lt (numAt xs) (fun _ _ => intItems_at), fun v h' tk hP hk => ?_⟩)
  obtain ⟨t, rfl⟩ := intItems_at (xs := xs) (i := argBest (fun i j => decide (numAt xs i < numAt xs j)) (xs.size - 1)) (by simpa [intItems] using hP)
  obtain ⟨h1, h2⟩ := argBest_lt (numAt xs) (xs.size - 1)
  refine ⟨.int _, H, I.kept (t' := tk) (kept_but_it hk), ⟨t, rfl⟩, q _ ?_ fun y hy => ?_⟩
  · rw [numAt_eq]
    exact PySem.getD_mem (by rw [List.length_map, Array.length_toList]; omega)
  · obtain ⟨j, hj, rfl⟩ := mem_getD hy
    rw [List.length_map, Array.length_toList] at hj
    rw [← numAt_eq]
    exact h2 j (by omega)
theorem cr_maxT (hc : X.calm = true) : CallR X (.builtin "max") (rMaxT X.K) := by
  intro pins s σ H vs us Q I r h
  obtain ⟨a, ns, rfl, hs, hne, q⟩ := h
  rw [Vals.ref1 r]
  obtain ⟨xs, ht, hn, hlt⟩ := tup_walk I hs
  subst hn
  have hsz : 0 < xs.size := by simpa using hne
  have hneq : a ≠ s.heap.objs.size := Nat.ne_of_lt hlt
  refine call_max_walk (wpAny_pyIter_tuple ht ⟨_, _, _, _, _, _, _, rfl, Walks.tuple (A := X.A.in1) (I.ok.hd hc) _ a hneq (intItems xs), ⟨⟨_, Heap.get?_push_size _ rfl, rfl, rfl⟩, ht.push _⟩, fresh_two hlt _, by simpa [intItems] using hsz,
    CmpOf.ints_gt (numAt xs) (fun _ _ => intItems_at), fun v h' tk hP hk => ?_⟩)
  obtain ⟨t, rfl⟩ := intItems_at (xs := xs) (i := argBest (fun i j => decide (numAt xs i > numAt xs j)) (xs.size - 1)) (by simpa [intItems] using hP)
  obtain ⟨h1, h2⟩ := argBest_gt (numAt xs) (xs.size - 1)
  refine ⟨.int _, H, I.kept (t' := tk) (kept_but_it hk), ⟨t, rfl⟩, q _ ?_ fun y hy => ?_⟩
  · rw [numAt_eq]
    exact PySem.getD_mem (by rw [List.length_map, Array.length_toList]; omega)
  · obtain ⟨j, hj, rfl⟩ := mem_getD hy
    rw [List.length_map, Array.length_toList] at hj
    rw [← numAt_eq]
    exact h2 j (by omega)
/-! ### t.index(k) -/
theorem mt_tindexI : MtR X "tuple.index" (fun x xs H Q => ∃ p, ∃ ns : List Int, ∃ k, x = .ref p ∧ xs = [.int k] ∧ SqT X.K H p (ns.map V.int) ∧ k ∈ ns ∧ Q (.int ((ns.idxOf k : Nat) : Int)) H) := by
  intro pins s σ H x xs v us Q I rx rs h
  obtain ⟨p, ns, k, rfl, rfl, hs, hk, q⟩ := h
  cases rx
  obtain ⟨u, rfl, t, rfl⟩ := vals1 rs
  obtain ⟨its, rv, ht, _⟩ := I.tuple hs
  exact PySem.SeqAt.tuple_index_ints ht rv.ints hk ⟨.int _, H, I.tok _, ⟨_, rfl⟩, q⟩
/-! ### x in t, t a tuple of data -/
def rInDT (K : PySem.W.Frag) : R2 := fun x y H Q => ∃ d ds, Dp K H x d ∧ Dp K H y (.tuple ds) ∧ SeqAt.shaped d = true ∧ PyData.canLayAll0 ds = true ∧ Q (.bl (ds.any fun z => PyData.eqv z d)) H
theorem op_inDT (hu : X.A.units + 65 < cLine) : OpR X (compareOp .In) (rInDT X.K) := by
  intro pins s σ H x y v u Q I rx ry h
  obtain ⟨d, ds, hd, he, sd, se, q⟩ := h
  obtain ⟨as, r1⟩ := Dp.reads I d x v hd rx
  obtain ⟨bs, r2⟩ := Dp.reads I (.tuple ds) y u he ry
  exact SeqAt.in_tuple_reads r2 r1 se (SeqAt.canLay_of_shaped sd) (room_in_shaped sd hu) ⟨.bl _, H, I, rfl, q⟩
/-! ### t[::-1] -/
theorem rev_places (n : Nat) : Builtin.Slice.slicePlaces ((n : Int) - 1) (-1) (-1) = n := by
  unfold Builtin.Slice.slicePlaces
  rw [if_neg (by decide)]
  by_cases h : (n : Int) - 1 > -1
  · rw [if_pos h]
    have e : ((n : Int) - 1 - -1 - 1) / (- -1) = (n : Int) - 1 := by
      have e1 : (n : Int) - 1 - -1 - 1 = (n : Int) - 1 := by omega
      have e2 : (- -1 : Int) = 1 := by decide
      rw [e1, e2, Int.ediv_one]
    rw [e]
    omega
  · rw [if_neg h]
    omega
theorem fm_congr {α β : Type} {f g : α → Option β} : ∀ {l : List α}, (∀ x ∈ l, f x = g x) → l.filterMap f = l.filterMap g
  | [], _ => rfl
  | a :: l, h => by
    have ih := fm_congr (l := l) fun x hx => h x (List.mem_cons_of_mem _ hx)
    rw [List.filterMap_cons, List.filterMap_cons, h a List.mem_cons_self, ih]
theorem rev_pick (xs : Array Value) : ((List.range xs.size).filterMap fun (k : Nat) => xs[((xs.size : Int) - 1 + (k : Int) * (-1)).toNat]?).toArray = xs.toList.reverse.toArray := by
  have key : (List.range xs.size).filterMap (fun (k : Nat) => xs[((xs.size : Int) - 1 + (k : Int) * (-1)).toNat]?) = xs.toList.reverse := by
    have e : (List.range xs.size).filterMap (fun (k : Nat) => xs[((xs.size : Int) - 1 + (k : Int) * (-1)).toNat]?) = (List.range xs.size).filterMap (fun k => xs.toList.reverse[k]?) := by
      refine fm_congr fun k hk => ?_
      have hk' := List.mem_range.mp hk
      have e1 : ((xs.size : Int) - 1 + (k : Int) * (-1)).toNat = xs.size - 1 - k := by omega
      rw [e1, List.getElem?_reverse (by simpa using hk')]
      simp
    rw [e]
    have hl : xs.size = xs.toList.reverse.length := by simp
    rw [hl]
    have gen : ∀ l : List Value, (List.range l.length).filterMap (fun k => l[k]?) = l := by
      intro l
      refine List.ext_getElem? fun i => ?_
      have q := List.filterMap_eq_map (f := fun k => l.getD k .none)
      have e2 : (List.range l.length).filterMap (fun k => l[k]?) = (List.range l.length).map fun k => l.getD k .none := by
        rw [← q]
        refine fm_congr fun k hk => ?_
        have hk' := List.mem_range.mp hk
        simp [hk']
      rw [e2, List.getElem?_map]
      by_cases hi : i < l.length
      · rw [List.getElem?_range hi]
        simp [hi]
      · rw [List.getElem?_eq_none (by simpa using hi), List.getElem?_eq_none (by simpa using hi)]
        rfl
    exact gen _
  rw [key]
theorem getItem_tuple_rev {prog : Program} {w : World} {A : Around} {E : Value → Shared → Prop} {s : Shared} {t sl : Addr} {items : Array Value} {u : Tok} {Q : Value → Shared → Prop} (ht : IsTup s.heap t items) (hs : s.heap.IsSliceOf sl .none .none (.int (-1) u))
    (h : Q (.ref s.heap.objs.size) { s with heap := s.heap.push { cls := .type "tuple", data := .seq items.toList.reverse.toArray } }) (hz : items.size ≤ sizeLine) : wpAny (model prog w) A (getItem (.ref t) (.ref sl)) Q E s := by
  have hok : sizeOk (.seq items.toList.reverse.toArray) := by
    show items.toList.reverse.toArray.size ≤ sizeLine
    simpa using hz
  obtain ⟨os, hos, hcs, hds⟩ := id hs
  have hT : s.TypeIs (.ref sl) "slice" := ⟨os, hos, hcs⟩
  unfold getItem
  try with_reducible refine wpAny_holding ?_
  first | refine wpAny_bind (wpAny_pure ?_) | skip
  refine wpAny_bind (wpAny_sequenceKey ht.typeIs (by decide) ?_)
  refine wpAny_bind (wpAny_callSpecial?_slot (name := Str.ofString "__getitem__") ht.typeIs PyProof.Rows.slot_tuple_getitem
    (wpAny_call_entry PyProof.Rows.slot_tuple_getitem ht.typeIs entry_tuple_getitem ?_ (args_tuple_getitem _ _)))
  show wpAny _ _ (Builtin.Tuple.tupleItemsOf (.ref t) >>= _) _ _ s
  refine wpAny_bind (tupleItemsOf_ ht (wpAny_bind (wpAny_typeOf hT ?_)))
  rw [if_pos (by decide)]
  refine wpAny_bind ?_
  unfold Builtin.Slice.sliceApplied Builtin.Slice.sliceFields
  refine wpAny_bind (wpAny_bind (wpAny_field hos hds (x := .none) rfl (wpAny_bind (wpAny_field hos hds (x := .none) rfl (wpAny_bind (wpAny_field hos hds (x := .int (-1) u) rfl (wpAny_pure ?_)))))))
  refine wpAny_bind (slicePart_int ?_)
  show wpAny _ _ (if ((-1 : Int) == 0) = true then _ else _) _ _ s
  rw [if_neg (by decide)]
  refine wpAny_bind (slicePart_none (wpAny_bind (slicePart_none (wpAny_bind (wpAny_pure ?_)))))
  have ha : Builtin.Slice.sliceAdjust none none (-1) (items.size : Int) = ((items.size : Int) - 1, -1) := rfl
  show wpAny _ _ (match Builtin.Slice.sliceAdjust none none (-1) (items.size : Int) with | (lo, hi) => pure (lo, (-1 : Int), Builtin.Slice.slicePlaces lo hi (-1))) _ _ s
  rw [ha]
  show wpAny _ _ (pure ((items.size : Int) - 1, (-1 : Int), Builtin.Slice.slicePlaces ((items.size : Int) - 1) (-1) (-1))) _ _ s
  rw [rev_places]
  refine wpAny_pure ?_
  show wpAny _ _ (if (((items.size : Int) - 1) == 0 && (-1 : Int) == 1 && items.size == items.size) = true then _ else _) _ _ s
  have hno : ¬ ((((items.size : Int) - 1) == 0 && (-1 : Int) == 1 && items.size == items.size) = true) := by
    have q : ((-1 : Int) == 1) = false := by decide
    rw [q, Bool.and_false, Bool.false_and]
    exact Bool.false_ne_true
  rw [if_neg hno, rev_pick]
  first
    | exact wpAny_bind (wpAny_newObj_type (wpAny_pure ⟨_, rfl, wpAny_pure h⟩) hok)
    | exact wpAny_bind (wpAny_pure (wpAny_bind (wpAny_newObj_type (wpAny_pure ⟨_, rfl, wpAny_pure h⟩) hok)))
def tRevT (K : PySem.W.Frag) (te : TE) : TE := fun σ H Q => te σ H fun x H1 => ∃ a xs, x = .ref a ∧ SqT K H1 a xs ∧ ∀ p, H1 p = none → Q (.ref p) (upd H1 p (.tup xs.reverse))
theorem pe_revT {e : Expr} {te : TE} {k : Nat} {p1 p2 p3 pos : Pos} (he : PE X e te) : PE X (.Subscript e (.Slice none none (some (.UnaryOp .USub (.Constant (.int 1) k p1) p2)) p3) pos) (tRevT X.K te) := by
  refine ⟨fun pins s σ H Q I h => ?_⟩
  refine Subscript_ (thn (he.run pins s σ H _ I h) fun v s1 ⟨x, H1, I1, r1, q1⟩ => ?_)
  obtain ⟨a, xs, ex, hx, q⟩ := q1
  subst ex
  cases r1
  have hst : PE X (.UnaryOp .USub (.Constant (.int 1) k p1) p2) (tUn (rU fun i => .int (-i)) (tC (.int 1))) := pe_un un_neg pe_int
  have hp : PO X (some (.UnaryOp .USub (.Constant (.int 1) k p1) p2)) (tPart (tUn (rU fun i => .int (-i)) (tC (.int 1)))) := po_some hst
  refine wpAny_Slice (thn (po_none.run pins s1 σ H1 (fun o H2 => o = none ∧ H2 = H1) I1 ⟨rfl, rfl⟩) fun vl s2 ⟨l, H2, I2, pl, el, e2⟩ => ?_)
  subst el e2
  refine thn (po_none.run pins s2 σ H2 (fun o H3 => o = none ∧ H3 = H2) I2 ⟨rfl, rfl⟩) fun vu s3 ⟨u, H3, I3, pu, eu, e3⟩ => ?_
  subst eu e3
  refine thn (hp.run pins s3 σ H3 (fun o H4 => o = some (-1) ∧ H4 = H3) I3 ⟨1, rfl, -1, rfl, rfl, rfl⟩) fun vs s4 ⟨o, H4, I4, ps, eo, e4⟩ => ?_
  subst eo e4
  have I5 : Inv X pins σ H4 { s4 with heap := s4.heap.push { cls := .type "slice", data := .fields #[vl, vu, vs] } } := I4.kept (t' := s4.toks) fun b ob z => Heap.get?_push_of_some _ z
  obtain ⟨its, r, ht, hz⟩ := I5.tuple hx
  have hlen := r.length
  cases pl
  cases pu
  cases ps with
  | int i t =>
  show wpAny (model X.prog X.w) X.A (subscriptTail e (.Slice none none (some (.UnaryOp .USub (.Constant (.int 1) k p1) p2)) p3) (.ref a) (.ref s4.heap.objs.size)) (EP X pins σ Q) X.xe { s4 with heap := s4.heap.push { cls := .type "slice", data := .fields #[.none, .none, .int (-1) t] } }
  refine tail_any (ops := [.ref a, .ref s4.heap.objs.size]) ht.typeIs PyProof.Rows.slot_tuple_getitem.lookup ?_ (by with_unfolding_all rfl)
  refine getItem_tuple_rev ht (Heap.IsSliceOf.new _ .none .none (.int (-1) t)) ?_ (by rw [List.size_toArray]; omega)
  refine ⟨.ref _, _, I5.laid (t' := s4.toks) (o := .tup xs.reverse) (fun b ob z => Heap.get?_push_of_some _ z) (Nat.le_refl _) ?_, rfl, q _ (I5.hok.fresh (Nat.le_refl _))⟩
  exact ⟨by rw [List.length_reverse]; exact hz, _, r.reverse, ⟨_, Heap.get?_push_size _ rfl, rfl, _, rfl⟩⟩
end
end K3
set_option Elab.async false
set_option linter.all false
set_option maxRecDepth 100000
set_option maxHeartbeats 4000000
/-! enumerate over a tuple; the set of a list of ints. -/
namespace K3
open PySem PySem.Spec PyProof.Rows L2
open AutoSeq1 (wpAny_loadPart')
theorem enumT_new (l : Addr) (items : Array Value) (n : Nat) (dct : Option Addr) (sl : Array (Option Value)) :
    Meets (Builtin.«enumerate.__new__» ⟨[.type "enumerate", .ref l], []⟩) (fun _ R s => s.heap.get? l = some { cls := .type "tuple", dict := dct, data := .seq items n, slots := sl } ∧
      R (.ok (.ret (.ref (s.heap.push { cls := .type "tuple_iterator", data := .fields #[.ref l, .int 0 0] }).objs.size)))
        { s with heap := (s.heap.push { cls := .type "tuple_iterator", data := .fields #[.ref l, .int 0 0] }).push { cls := .type "enumerate", data := .fields #[.none, .bool false, .ref s.heap.objs.size, rawInt 0, .none, .none] } }) :=
  .of_wp fun prog w A R s h => by
    obtain ⟨hp, g, d, tk, os⟩ := s
    obtain ⟨hl, h⟩ := h
    have hsub := sub_enumerate
    have hT : Heap.IsTuple (Shared.heap ⟨hp, g, d, tk, os⟩) l items := ⟨_, hl, rfl, n, rfl⟩
    wp_walk using wpAny_loadPart' hl
    refine wpAny_stack_any fun st => wpAny_pure ?_
    split
    · rename_i c _ _ _ _ _
      cases (c == Value.type "enumerate") <;> (wp_walk using wpAny_loadPart' hl, wpAny_pyIter_tuple hT; exact ⟨_, rfl, h⟩)
    · wp_walk using wpAny_loadPart' hl, wpAny_pyIter_tuple hT
      exact ⟨_, rfl, h⟩
theorem call_enumT {prog : Program} {w : World} {A : Around} {E : Value → Shared → Prop} {s : Shared} {l : Addr} {items : Array Value} {Q : Value → Shared → Prop} (hL : s.heap.IsTuple l items)
    (h : ∀ h', IsEnum h' (s.heap.objs.size + 1) s.heap.objs.size 0 .none → h'.IsTupleIter s.heap.objs.size l 0 → (∀ b o, s.heap.get? b = some o → h'.get? b = some o) → Q (.ref (s.heap.objs.size + 1)) { s with heap := h' }) :
    wpAny (model prog w) A (call (.type "enumerate") [.ref l]) Q E s := by
  obtain ⟨⟨c, dct, dt, sl⟩, hl, hc, n, hd⟩ := hL
  have hc' : c = .type "tuple" := hc
  have hd' : dt = .seq items n := hd
  subst hc' hd'
  refine callType_new F.called_enumerate (by decide) (F.typeCall_enumerate_1 _) (F.newCall_enumerate_1 _) (fun obj => F.args_object_init_2 obj _) F.entry_enumerate_new (enumT_new l items n dct sl) ⟨hl, ?_⟩
  have hz : (s.heap.push { cls := .type "tuple_iterator", data := .fields #[.ref l, .int 0 0] }).objs.size = s.heap.objs.size + 1 := Heap.size_push ..
  show _ ∧ _
  rw [hz]
  have he : IsEnum ((s.heap.push { cls := .type "tuple_iterator", data := .fields #[.ref l, .int 0 0] }).push { cls := .type "enumerate", data := .fields #[.none, .bool false, .ref s.heap.objs.size, rawInt 0, .none, .none] }) (s.heap.objs.size + 1) s.heap.objs.size 0 .none := by
    have q := Heap.get?_push_size (s.heap.push { cls := .type "tuple_iterator", data := .fields #[.ref l, .int 0 0] }) (o := { cls := .type "enumerate", data := .fields #[.none, .bool false, .ref s.heap.objs.size, rawInt 0, .none, .none] }) rfl
    rw [hz] at q
    exact q
  exact ⟨⟨_, he, rfl⟩, h _ he ⟨_, Heap.get?_push_of_some _ (Heap.get?_push_size _ rfl), rfl, rfl⟩ fun b o x => Heap.get?_push_of_some _ (Heap.get?_push_of_some _ x)⟩
/-- the tuple at a as it stands, its items in new pairs with their numbers -/
def IteT (K : PySem.W.Frag) (a : Addr) : It :=
  ⟨fun i H => ∃ (xs : List V) (x : V), SqT K H a xs ∧ xs[i]? = some x, fun i H v H' => ∃ T x, v = .ref T ∧ H T = none ∧ H' = upd H T (.tup [.int (i : Nat), x]) ∧ ∀ xs, SqT K H a xs → xs[i]? = some x, fun i H => ∃ xs : List V, SqT K H a xs ∧ xs.length ≤ i⟩
theorem turn_enumT {P : Program} {w : World} {K : PySem.W.Frag} {elts : List Expr} {kk : Nat} {tpos : Pos} (a e it : Addr) (hai : a ≠ it) :
    Turn P w K (.Tuple elts kk tpos) (IteT K a) [e, it] e (fun i h => (∃ old, IsEnum h e it ((i : Nat) : Int) old) ∧ h.IsTupleIter it a i ∧ e ≠ it ∧ e ≠ a) where
  mem := by simp
  obj := fun i h st b hb => by
    obtain ⟨⟨old, he⟩, ⟨o, ho, hc, hd⟩, _⟩ := st
    have hb' : b = e ∨ b = it := by simpa using hb
    rcases hb' with z | z <;> rw [z]
    · exact ⟨_, he, fun v q => nomatch q⟩
    · exact ⟨o, ho, fun v q => by rw [hd] at q; cases q⟩
  keep := fun i h h' st k => by
    obtain ⟨⟨old, he⟩, hi, hne⟩ := st
    exact ⟨⟨old, k e (by simp) _ he⟩, hi.at fun o q => k it (by simp) o q, hne⟩
  item := by
    intro X hP hw hK hc i pins s σ H E I hf st hg
    subst hP hw hK
    obtain ⟨⟨old, he⟩, hit, hne, hea⟩ := st
    obtain ⟨xs, x, hq, hx⟩ := hg
    obtain ⟨its, rv, p, hz⟩ := I.tuple hq
    obtain ⟨u, hu, ru⟩ := rv.get hx
    have hel : e < s.heap.objs.size := Heap.lt_size he
    have hil : it < s.heap.objs.size := by
      obtain ⟨_, q, _⟩ := hit
      exact Heap.lt_size q
    have D := Draws.tuple (prog := X.prog) (w := X.w) (A := X.A.in1) (I.ok.hd hc) it a hai its.toArray
    have hlt : i < its.toArray.size := by
      rw [List.size_toArray, ← rv.length]
      exact (List.getElem?_eq_some_iff.mp hx).1
    refine wpAny_pyNext_enum_itemD D he ⟨hit, p⟩ hlt hne (by simp [hne, hea]) fun v h' tk hv ho hst' hT hsz hk => ?_
    have hvu : v = u := by
      have z : its.toArray[i]? = some u := by simpa using hu
      rw [z] at hv
      exact (Option.some.inj hv).symm
    subst hvu
    refine ⟨_, rfl, wpAny_letOwnedTupleGo_enum (s := { s with heap := h', toks := tk + 1 }) ho fun h'' he' sb => ?_⟩
    have hT2 : h''.get? s.heap.objs.size = some { cls := .type "tuple", data := .seq #[.int i tk, v] } := (sb.2 _ (Nat.ne_of_gt hel)).trans hT
    have new : ObjOk X.prog X.w (upd H s.heap.objs.size (.tup [.int (i : Nat), x])) h'' s.heap.objs.size (.tup [.int (i : Nat), x]) :=
      ⟨by show 2 ≤ sizeLine; decide, [.int i tk, v], .cons ⟨_, rfl⟩ (.cons ru .nil), ⟨_, hT2, rfl, _, rfl⟩⟩
    have I1 : Inv X pins σ (upd H s.heap.objs.size (.tup [.int (i : Nat), x])) { s with heap := h'', toks := tk + 1 } :=
      I.turnedNew (ch := [e, it]) (fun b ob hb q => (sb.2 b (fun z => hb (by simp [z]))).trans (hk b ob (fun z => hb (by simp [z])) (fun z => hb (by simp [z])) q)) hf (Nat.le_refl _) new
    refine ⟨.ref s.heap.objs.size, _, I1, rfl, ⟨_, x, rfl, I.hok.fresh (Nat.le_refl _), rfl, fun ys hy => by rw [I.tuple_inj hy hq]; exact hx⟩, ⟨⟨v, ?_⟩, hst'.1.at fun o q => (sb.2 it (Ne.symm hne)).trans q, hne, hea⟩, fun b hb => ?_⟩
    · have e1 : ((i + 1 : Nat) : Int) = (i : Int) + 1 := by omega
      rw [e1]
      exact he'
    · have hb' : b < s.heap.objs.size := by
        have z : b = e ∨ b = it := by simpa using hb
        rcases z with z | z <;> rw [z] <;> assumption
      rw [upd_ne (Nat.ne_of_lt hb')]
      exact (hf b hb).1
  done := by
    intro X hP hw hK hc i pins s σ H E I hf st hg
    subst hP hw hK
    obtain ⟨⟨old, he⟩, hit, hne, hea⟩ := st
    obtain ⟨xs, hq, hx⟩ := hg
    obtain ⟨its, rv, p, hz⟩ := I.tuple hq
    obtain ⟨f0, f1, f2, f3, f4, f5⟩ := hf it (by simp)
    have hT : s.TypeIs (.ref e) "enumerate" := ⟨_, he, rfl⟩
    unfold pyNext
    refine wpAny_bind (wpAny_attempt (wpAny_callSpecial?_slot (name := Str.ofString "__next__") hT PySem.F.slot_enumerate_next
      (wpAny_call_entry PySem.F.slot_enumerate_next hT PySem.F.entry_enumerate_next ?_ (PySem.F.args_enumerate_next_1 _))))
    show wpAny _ _ (field (.ref e) 2 >>= _) _ _ _
    refine wpAny_bind (wpAny_field he rfl (x := .ref it) rfl ?_)
    have hend : its.toArray[i]? = none := by
      have hl := rv.length
      simp
      omega
    refine wpAny_bind (wpAny_nextOf_tuple_end (A := X.A.in1) (I.ok.hd hc) hit p hend fun h' x he' hx' => ?_)
    obtain ⟨o, ho, hc'⟩ := hx'
    refine wpAny_bind (wpAny_isInstance (T := "StopIteration") (b := true) ⟨o, ho, hc'⟩ isSubtype_stop ?_)
    exact wpAny_pure ⟨rfl, I.turned (t' := s.toks) (fun b ob hb q => he' b ob hb q) f0 f1 f3 f4 f5⟩
  self := fun A i s Q E st h => by
    obtain ⟨⟨_, he⟩, _⟩ := st
    exact wpAny_pyIter_enum he h
def iEnumT (K : PySem.W.Frag) (ta : TA) : TI := fun σ H R => ta σ H fun vs H1 => ∃ a xs, vs = [.ref a] ∧ SqT K H1 a xs ∧ R (IteT K a) H1
theorem pi_enumT {X : Cx} {e : Expr} {ta : TA} {p pos tpos : Pos} {elts : List Expr} {kk : Nat} (hg : Gl X "enumerate") (hm : X.mg "enumerate" = none) (ha : PA X [e] ta) (hs : starEach [e] X.env = [(false, eval e X.env)] := by rfl) :
    PI X (.Tuple elts kk tpos) (.Call (.Name "enumerate" p) [e] [] pos) (iEnumT X.K ta) := by
  refine ⟨fun pins s σ H R I h => ?_⟩
  refine Call_ (ld_blt I hg hm boot_enumerate (PyProof.Rows.callWith_type1 (thn (ha.run pos pins s σ H _ I h) fun us s1 ⟨vs, H1, I1, r1, q1⟩ => ?_) hs rfl))
  obtain ⟨a, xs, ex, hq, q⟩ := q1
  subst ex
  rw [Vals.ref1 r1]
  obtain ⟨its, rv, ht, hz⟩ := I1.tuple hq
  have hal : a < s1.heap.objs.size := by
    obtain ⟨o, ho, _⟩ := id ht
    exact Heap.lt_size ho
  refine call_enumT ht fun h' he hit hk => wpAny_pyIter_enum he ?_
  refine ⟨s1.heap.objs.size + 1, [s1.heap.objs.size + 1, s1.heap.objs.size], _, _, H1, rfl, I1.kept (t' := s1.toks) hk, turn_enumT a (s1.heap.objs.size + 1) s1.heap.objs.size (Nat.ne_of_lt hal), ⟨⟨.none, he⟩, hit, Nat.succ_ne_self _, Nat.ne_of_gt (Nat.lt_succ_of_lt hal)⟩, fun b hb => ?_, q⟩
  have z : b = s1.heap.objs.size + 1 ∨ b = s1.heap.objs.size := by simpa using hb
  have hle : s1.heap.objs.size ≤ b := by
    rcases z with z | z <;> rw [z]
    · exact Nat.le_succ _
    · exact Nat.le_refl _
  exact I1.fpOk hle (I1.hok.fresh hle)
/-- a for over enumerate(t) -/
theorem for_enumT {K : PySem.W.Frag} {a : Addr} {xs : List V} {g : TG} {tb : TS} {D : Ends} {σ : L2.St} {H : Hp} (Pv : Nat → L2.St → Hp → Prop) (h0 : Pv 0 σ H) (hl : ∀ i σ H, i ≤ xs.length → Pv i σ H → SqT K H a xs)
    (hs : ∀ (i : Nat) (x : V) (T : Addr) (σ : L2.St) (H : Hp), xs[i]? = some x → Pv i σ H → H T = none → g (.ref T) σ (upd H T (.tup [.int (i : Nat), x])) fun σ2 H2 => tb { D with nx := Pv (i + 1), ct := Pv (i + 1), bk := D.nx } σ2 H2) (hd : ∀ σ H, Pv xs.length σ H → D.nx σ H) :
    ∃ W : Nat → Nat → L2.St → Hp → Prop, (∃ m, W 0 m σ H) ∧ ∀ i m σ H, W i m σ H →
      ((IteT K a).stop i H ∧ D.nx σ H) ∨ ((IteT K a).go i H ∧ ∃ N : L2.St → Hp → Prop, (∀ σ' H', N σ' H' → ∃ m', m' < m ∧ W (i + 1) m' σ' H') ∧ ∀ v H', (IteT K a).yld i H v H' → g v σ H' fun σ2 H2 => tb { D with nx := N, ct := N, bk := D.nx } σ2 H2) := by
  refine ⟨fun i m σ H => m = xs.length - i ∧ i ≤ xs.length ∧ Pv i σ H, ⟨xs.length, rfl, Nat.zero_le _, h0⟩, ?_⟩
  rintro i m σ H ⟨rfl, hi, p⟩
  have q := hl i σ H hi p
  by_cases hlt : i < xs.length
  · refine .inr ⟨⟨xs, _, q, List.getElem?_eq_getElem hlt⟩, Pv (i + 1), fun σ' H' p' => ⟨xs.length - (i + 1), by omega, rfl, hlt, p'⟩, fun v H' y => ?_⟩
    obtain ⟨T, x, rfl, hT, rfl, f⟩ := y
    exact hs i x T σ H (f xs q) p hT
  · have e : i = xs.length := by omega
    subst e
    exact .inl ⟨⟨xs, q, Nat.le_refl _⟩, hd σ H p⟩
/-- a comprehension over enumerate(t) -/
theorem lc_enumT {K : PySem.W.Frag} {a : Addr} {xs : List V} {g : TG} {tt : TT} {te : TE} {vs : List Nat} {σ : L2.St} {H1 : Hp} {D : Addr} {Qd : Hp → Prop} (Pv : Nat → Hp → Prop) (h0 : Pv 0 (upd H1 D (.lst []))) (hl : ∀ i H, i ≤ xs.length → Pv i H → SqT K H a xs)
    (hs : ∀ (i : Nat) (x : V) (T : Addr) (H : Hp), xs[i]? = some x → Pv i H → H T = none → g (.ref T) (wipe σ vs) (upd H T (.tup [.int (i : Nat), x])) fun σ2 H2 => wipe σ2 vs = wipe σ vs ∧ tt σ2 H2 fun b H3 =>
      if b = true then te σ2 H3 fun y H4 => ∃ acc, H4 D = some (.lst acc) ∧ acc.length < sizeLine ∧ Pv (i + 1) (upd H4 D (.lst (acc ++ [y]))) else Pv (i + 1) H3) (hd : ∀ H, Pv xs.length H → Qd H) :
    ∃ W : Nat → Nat → Hp → Prop, (∃ m, W 0 m (upd H1 D (.lst []))) ∧ ∀ i m H, W i m H →
      ((IteT K a).stop i H ∧ Qd H) ∨ ((IteT K a).go i H ∧ ∃ Nx : Hp → Prop, (∀ H', Nx H' → ∃ m', m' < m ∧ W (i + 1) m' H') ∧ ∀ x H', (IteT K a).yld i H x H' → g x (wipe σ vs) H' fun σ2 H2 => wipe σ2 vs = wipe σ vs ∧ tt σ2 H2 fun b H3 =>
        if b = true then te σ2 H3 fun y H4 => ∃ acc, H4 D = some (.lst acc) ∧ acc.length < sizeLine ∧ Nx (upd H4 D (.lst (acc ++ [y]))) else Nx H3) := by
  refine ⟨fun i m H => m = xs.length - i ∧ i ≤ xs.length ∧ Pv i H, ⟨xs.length, rfl, Nat.zero_le _, h0⟩, ?_⟩
  rintro i m H ⟨rfl, hi, p⟩
  have q := hl i H hi p
  by_cases hlt : i < xs.length
  · refine .inr ⟨⟨xs, _, q, List.getElem?_eq_getElem hlt⟩, Pv (i + 1), fun H' p' => ⟨xs.length - (i + 1), by omega, rfl, hlt, p'⟩, fun v H' y => ?_⟩
    obtain ⟨T, x, rfl, hT, rfl, f⟩ := y
    exact hs i x T H (f xs q) p hT
  · have e : i = xs.length := by omega
    subst e
    exact .inl ⟨⟨xs, q, Nat.le_refl _⟩, hd H p⟩
end K3
set_option Elab.async false
set_option linter.all false
set_option maxRecDepth 100000
set_option maxHeartbeats 4000000
/-! The program's errors: made, raised; check_number, first_wrong, check_book, check_few. -/
namespace K3
open PySem PySem.Spec PyProof.Rows L2
open Evl (Ex)
/-- X(), an own class over an own class over ValueError, without own __init__ -/
theorem pmk_own0 {X : Cx} {C : Addr} {bmB : List Value} {B newId initId : String} {x : Str} {p pos : Pos} (F : ExcBaseFacts B newId initId bmB) (q : PySem.W.excIn X.K C bmB newId = true) (gC : X.mg x = some (.ref C)) (kC : PySem.W.keepIn X.K (.ref C) = true) (r : Raises X (.ref C)) (hg : Gl X x)
    (hdb : (x == ("__debug__" : Str)) = false := by decide) : PMk X (.Call (.Name x p) [] [] pos) (fun _ H Q => Q (.ref C) none H) := by
  intro pins s σ H Q I h
  refine wpAny_Call_Name_kw (ld_glob I hg gC ?_ hdb)
  refine PySem.W.callWith_K0 I.kIn kC ?_
  show wpAny _ _ (call (.ref C) []) _ _ _
  obtain ⟨bm, N, nm, qn, bs, hdct, sn, sub, ab, col, dd, k0, k1, k2, k3, k5, mN, hC, hN, hni, T⟩ := exc_obj I.kIn q
  refine wpAny_call_exc_subT F T hC hN hni (fun h' e hm => ?_) (by show 0 ≤ sizeLine; exact Nat.zero_le _)
  exact mk_of I hm r h (I.hok.gone hm.new)
/-- what the written part says of a class with an __init__ of one field -/
structure XInit (K : PySem.W.Frag) (mg : Str → Option Value) (x q : Str) (st : Stmt) (fld : Str) where
  C : Addr
  f : Addr
  fd : FuncData
  F : Fun K "__init__" q st f fd
  b : Binds K fd ["self", fld] []
  g : mg x = some (.ref C)
  o : OexC K C
  iC : PySem.W.findIn K (.ref C) "__init__" = some (some (.ref f))
  tI : PySem.W.typeIn K (.ref f) = some (.type "function")
  no : PySem.W.findIn K (.ref C) fld = some none
  xf : XfC K C
structure XTxt (K : PySem.W.Frag) (mg : Str → Option Value) where
  B : XInit K mg "BadBook" "BadBook.__init__" (inClass (topS 3) 0) "index"
  M : XInit K mg "TooMany" "TooMany.__init__" (inClass (topS 4) 0) "most"
  N : Addr
  g_NoNumber : mg "NoNumber" = some (.ref N)
  xN : PySem.W.excIn K N [.type "ValueError", .type "Exception", .type "BaseException", .type "object"] "ValueError.__new__" = true
  kN : PySem.W.keepIn K (.ref N) = true
  bN : PySem.W.subIn K (.ref N) (.type "BaseException") = some true
  tN : PySem.W.typeIn K (.ref N) = some (.type "type")
def spInit (C : Addr) (fld : Str) : Sp := fun vs H Q _ => ∃ (a : Addr) (v : V), vs = [.ref a, v] ∧ H a = some (exo a C none) ∧ ∀ dx, H dx = none → dx ≠ a → Q .non (upd (upd H dx (exd dx [(fld, v)])) a (exo a C (some dx)))
section
variable {P : Program} {w : World} {K : PySem.W.Frag} {mg : Str → Option Value} {base : Heap} (T : Txt K mg) (Y : XTxt K mg)
theorem sc_initB : FnScope ["self", "index"] ["self", "index"] (defScope (inClass (topS 3) 0)) := ⟨rfl, rfl, rfl, by decide +kernel, rfl, by decide +kernel, by decide +kernel⟩
theorem sc_initM : FnScope ["self", "most"] ["self", "most"] (defScope (inClass (topS 4) 0)) := ⟨rfl, rfl, rfl, by decide +kernel, rfl, by decide +kernel, by decide +kernel⟩
theorem ok_initB : FnOk P w K mg base CX0 1 Y.B.f Y.B.fd ["self", "index"] (spInit Y.B.C "index") := by
  refine Y.B.F.ok sc_initB (fun vs H Q E h => ?_) (fun cdv A outer s H vs Q E hr h => ?_)
  · obtain ⟨a, v, rfl, _⟩ := h
    rfl
  · obtain ⟨a, v, rfl, ha, q⟩ := h
    refine ⟨_, pss_one (ps_ost (pv 0) (pv 1)), ?_⟩
    exact ⟨v, rfl, .ref a, rfl, a, Y.B.C, rfl, Y.B.o, Y.B.no, .inl ⟨ha, fun dx h1 h2 => q dx h1 h2⟩⟩
theorem ok_initM : FnOk P w K mg base CX0 1 Y.M.f Y.M.fd ["self", "most"] (spInit Y.M.C "most") := by
  refine Y.M.F.ok sc_initM (fun vs H Q E h => ?_) (fun cdv A outer s H vs Q E hr h => ?_)
  · obtain ⟨a, v, rfl, _⟩ := h
    rfl
  · obtain ⟨a, v, rfl, ha, q⟩ := h
    refine ⟨_, pss_one (ps_ost (pv 0) (pv 1)), ?_⟩
    exact ⟨v, rfl, .ref a, rfl, a, Y.M.C, rfl, Y.M.o, Y.M.no, .inl ⟨ha, fun dx h1 h2 => q dx h1 h2⟩⟩
/-- the making's reading, from what is wished of the error -/
theorem mkO_go {C : Addr} {fld : Str} {Q : XK} {v : V} {H1 : Hp}
    (q : ∀ d H', Ex H1 H' → H1 d = none → H' d = some (.xd [(fld, v)]) → Q (.ref C) (some d) H') :
    ([v] : List V).length ≤ 1000 ∧ ∀ a, H1 a = none → spInit C fld (.ref a :: ([v] ++ [])) (upd H1 a (exo a C none))
      (fun u H2 => u = .non ∧ ∃ (d : Addr) (fs : List (Str × V)), H2 a = some (exo a C (some d)) ∧ H2 d = some (exd d fs) ∧ H1 d = none ∧ Q (.ref C) (some d) (upd (del H2 a) d (.xd fs))) (fun _ _ _ => False) := by
  refine ⟨by simp, fun a ha => ⟨a, v, rfl, upd_same, fun dx h1 h2 => ⟨rfl, dx, [(fld, v)], upd_same, ?_, ?_, ?_⟩⟩⟩
  · rw [upd_ne h2, upd_same]
  · rw [upd_ne h2] at h1
    exact h1
  · rw [upd_ne h2] at h1
    refine q dx _ (fun b o e => ?_) h1 upd_same
    have hb : b ≠ dx := ne_of_none e h1
    have hba : b ≠ a := ne_of_none e ha
    rw [upd_ne hb, del_ne hba, upd_ne hba, upd_ne hb, upd_ne hba]
    exact e
theorem sc_check_number : FnScope ["thing", "least", "most"] ["thing", "least", "most"] (defScope (topS 10)) := ⟨rfl, rfl, rfl, by decide +kernel, rfl, by decide +kernel, by decide +kernel⟩
def spCheckNum (K : PySem.W.Frag) (N : Addr) : Sp := fun vs H Q E => ∃ v d lo hi, vs = [v, .int lo, .int hi] ∧ Dx K H v d ∧ (isWithinD lo hi d = true → Q .non H) ∧ (isWithinD lo hi d = false → E (.ref N) none H)
theorem ok_check_number : FnOk P w K mg base (L2.CX P w) 3 T.check_number.f T.check_number.fd ["thing", "least", "most"] (spCheckNum K Y.N) := by
  have G_is_within : FnOk P w K mg base CX0 2 T.is_within.f T.is_within.fd ["thing", "least", "most"] (spWithin K) := ok_is_within T
  refine T.check_number.F.okX sc_check_number (fun vs H Q E h => ?_) (fun cdv A outer s H vs Q E hr h => ?_)
  · obtain ⟨v, d, lo, hi, rfl, _⟩ := h
    rfl
  · obtain ⟨v, d, lo, hi, rfl, hd, q1, q2⟩ := h
    refine ⟨_, pss_one (ps_if (pt_not (pt_val (pe_call G_is_within (hr.mono (by decide)) (by rfl) T.is_within.g T.is_within.F.kp T.is_within.b .nil pass0 (pa_cons (pv 0) (pa_cons (pv 1) (pa_cons (pv 2) pa_nil))))))
      (pss_one (ps_raise rfl (takes_of (E := E) rfl rfl rfl rfl) (pmk_own0 PySem.F.excBase_ValueError Y.xN Y.g_NoNumber Y.kN (raises_own Y.bN Y.tN) rfl))) pss_nil), ?_⟩
    refine ⟨v, rfl, _, rfl, _, rfl, v, d, lo, hi, rfl, hd, _, rfl, ?_⟩
    cases hb : isWithinD lo hi d with
    | true => exact iteF (q1 hb)
    | false => exact iteT (q2 hb)
end
end K3
set_option Elab.async false
set_option linter.all false
set_option maxRecDepth 100000
set_option maxHeartbeats 4000000
/-! first_wrong, check_book, check_few. -/
namespace K3
open PySem PySem.Spec PyProof.Rows L2
open Evl (Ex)
def ltD : PyData → PyData → Bool
  | .tuple [.int a, .int b], .tuple [.int c, .int d] => HT.lexLt [a, b] [c, d]
  | _, _ => false
def wrongAt (n : Int) (ds : List PyData) (i : Nat) : Bool := !isEntryD n (ds.getD i .none) || (decide (0 < i) && !ltD (ds.getD (i - 1) .none) (ds.getD i .none))
def firstWrong (n : Int) : PyData → Option Int
  | .tuple ds => ((List.range ds.length).find? (wrongAt n ds)).map fun i => (i : Int)
  | _ => some (-1)
def optV : Option Int → V
  | none => .non
  | some i => .int i
theorem find_none {p : Nat → Bool} {n : Nat} (h : ∀ i, i < n → p i = false) : (List.range n).find? p = none := by
  rw [List.find?_eq_none]
  intro x hx
  rw [h x (List.mem_range.mp hx)]
  exact Bool.false_ne_true
theorem find_at {p : Nat → Bool} {n i : Nat} (hi : i < n) (h : ∀ j, j < i → p j = false) (hp : p i = true) : (List.range n).find? p = some i := by
  rw [List.find?_eq_some_iff_append]
  refine ⟨hp, List.range i, (List.range' (i + 1) (n - (i + 1))), ?_, fun a ha => ?_⟩
  · rw [List.range_eq_range', List.range_eq_range']
    have e : n = i + (n - (i + 1) + 1) := by omega
    conv => lhs; rw [e]
    rw [← List.range'_append_1, List.range'_succ]
    simp
  · rw [h a (List.mem_range.mp ha)]
    rfl
theorem entry_of {n : Int} {d : PyData} (h : isEntryD n d = true) : ∃ a b, d = .tuple [.int a, .int b] ∧ 0 ≤ a ∧ a ≤ n - 1 ∧ 0 ≤ b ∧ b ≤ n - 1 ∧ a ≠ b := by
  unfold isEntryD at h
  split at h
  · rename_i a b
    simp only [Bool.and_eq_true, Bool.not_eq_true', decide_eq_true_eq, decide_eq_false_iff_not] at h
    exact ⟨a, b, rfl, h.1.1.1, h.1.1.2, h.1.2.1, h.1.2.2, h.2⟩
  · cases h
section
variable {P : Program} {w : World} {K : PySem.W.Frag} {mg : Str → Option Value} {base : Heap} (T : Txt K mg) (Y : XTxt K mg)
-- first_wrong: 0 many  1 thing  2 index  3 item
theorem sc_first_wrong : FnScope ["many", "thing", "index", "item"] ["many", "thing"] (defScope (topS 15)) := ⟨rfl, rfl, rfl, by decide +kernel, rfl, by decide +kernel, by decide +kernel⟩
def spFirstWrong (K : PySem.W.Frag) : Sp := fun vs H Q _ => ∃ v d n, vs = [.int n, v] ∧ Dx K H v d ∧ ∀ H', Ex H H' → Q (optV (firstWrong n d)) H'
theorem dp_pair {K : PySem.W.Frag} {H : Hp} {v : V} {a b : Int} (h : Dp K H v (.tuple [.int a, .int b])) : ∃ t, v = .ref t ∧ SqT K H t (([a, b] : List Int).map V.int) := by
  cases h with
  | tup hs ha =>
    cases ha with
    | cons h1 h2 =>
      cases h1
      cases h2 with
      | cons h3 h4 =>
        cases h3
        cases h4
        exact ⟨_, rfl, hs⟩
theorem ok_first_wrong : FnOk P w K mg base CX0 5 T.first_wrong.f T.first_wrong.fd ["many", "thing"] (spFirstWrong K) := by
  have G_is_entry : FnOk P w K mg base CX0 4 T.is_entry.f T.is_entry.fd ["many", "thing"] (spEntry K) := ok_is_entry T
  refine T.first_wrong.F.ok sc_first_wrong (fun vs H Q E h => ?_) (fun cdv A outer s H vs Q E hr h => ?_)
  · obtain ⟨v, d, n, rfl, _⟩ := h
    rfl
  · obtain ⟨v, d, n, rfl, hd, q⟩ := h
    refine ⟨_, (pss_cons (ps_if (pt_not (pt_val (pe_callB call_isi (by rfl) T.m_isinstance boot_isinstance (pa_cons (pv 1) (pa_cons (pe_bltn (v := .ty "tuple") (by rfl) T.m_tuple boot_tuple rfl) pa_nil))))) (pss_one (ps_ret (pe_un un_neg pe_int))) pss_nil)
    (pss_cons (ps_for PassesOwn.never rfl (pi_enumT (by rfl) T.m_enumerate (pa_cons (pv 1) pa_nil)) (pg_tup rfl (pgs_cons (pg_name (i := 2) sc_first_wrong.nd rfl (.inl rfl)) (pgs_cons (pg_name (i := 3) sc_first_wrong.nd rfl (.inl rfl)) pgs_nil))) (pss_one (ps_if (PW.pt (pw_or (pt_not (pt_val (pe_call G_is_entry (hr.mono (by decide)) (by rfl) T.is_entry.g T.is_entry.F.kp T.is_entry.b .nil pass0 (pa_cons (pv 0) (pa_cons (pv 3) pa_nil))))) (pw_or1 (PW.pt (pw_and (pt_cmpR op_gt (pv 2) pe_int (nomark _)) (pw_and1 (pt_not (pt_cmpR (op_ltT hr.units0) (pe_ix ix_tup (pv 1) (pe_op op_sub (pv 2) pe_int) (fun _ _ => rfl)) (pv 3) (nomark _))))))))) (pss_one (ps_ret (pv 2))) pss_nil)))
    (pss_one (ps_ret pe_non)))), ?_⟩
    refine ⟨v, rfl, v, .ty "tuple", _, _, _, rfl, .ty "tuple", hd.ty, kit_tup d, _, rfl, ?_⟩
    cases d with
    | tuple ds =>
      obtain ⟨a, xs, rfl, hs, ha⟩ := dx_tup hd
      have hlen := dpAll_len ha
      refine iteF ⟨_, rfl, a, xs, rfl, hs, for_enumT (xs := xs) (fun i σ H' => (∃ y2 y3, σ = [some (.int n), some (.ref a), y2, y3]) ∧ Ex H H' ∧ ∀ j, j < i → wrongAt n ds j = false) ⟨⟨none, none, rfl⟩, Evl.Ex.refl H, fun j hj => absurd hj (Nat.not_lt_zero j)⟩ (fun i σ H' _ p => Evl.ex_t p.2.1 hs) (fun i x Ta σ H' hx p hT => ?_) (fun σ H' p => ?_)⟩
      · obtain ⟨⟨y2, y3, rfl⟩, e1, hno⟩ := p
        have hi : i < xs.length := (List.getElem?_eq_some_iff.mp hx).1
        have hid : i < ds.length := by omega
        have hdi : ds[i]? = some (ds.getD i .none) := by rw [List.getD_eq_getElem?_getD, List.getElem?_eq_getElem hid]; rfl
        obtain ⟨x', hx', hdx⟩ := dpAll_get ha hdi
        rw [hx] at hx'
        cases hx'
        have e2 : Ex H (upd H' Ta (.tup [.int (i : Nat), x])) := e1.trans (Evl.Ex.new hT)
        refine ⟨Ta, [.int (i : Nat), x], rfl, .inl (.inl upd_same), rfl, _, _, rfl, _, _, rfl, rfl, ?_⟩
        have ret : wrongAt n ds i = true → Q (.int (i : Nat)) (upd H' Ta (.tup [.int (i : Nat), x])) := fun hw => by
          have z := q _ e2
          have e : firstWrong n (.tuple ds) = some ((i : Nat) : Int) := by
            show ((List.range ds.length).find? (wrongAt n ds)).map (fun i => (i : Int)) = _
            rw [find_at hid hno hw]
            rfl
          rw [e] at z
          exact z
        have go : wrongAt n ds i = false → (∃ y2 y3, ([some (.int n), some (.ref a), some (.int (i : Nat)), some x] : L2.St) = [some (.int n), some (.ref a), y2, y3]) ∧ Ex H (upd H' Ta (.tup [.int (i : Nat), x])) ∧ ∀ j, j < i + 1 → wrongAt n ds j = false := fun hw => by
          refine ⟨⟨_, _, rfl⟩, e2, fun j hj => ?_⟩
          by_cases hji : j = i
          · rw [hji]
            exact hw
          · exact hno j (by omega)
        refine ⟨_, rfl, _, rfl, x, _, n, rfl, .of (dp_ex e2 _ _ hdx), _, rfl, ?_⟩
        cases hen : isEntryD n (ds.getD i .none) with
        | false =>
          refine iteT (iteT ?_)
          exact ⟨_, rfl, ret (by unfold wrongAt; rw [hen]; rfl)⟩
        | true =>
          refine iteF ⟨_, rfl, _, _, rfl, rfl, _, rfl, ?_⟩
          by_cases h0 : 0 < i
          · have hdec : decide ((0 : Int) < ((i : Nat) : Int)) = true := decide_eq_true (by omega)
            rw [hdec]
            obtain ⟨p1, p2, ep, _⟩ := entry_of hen
            have hprev : isEntryD n (ds.getD (i - 1) .none) = true := by
              have z := hno (i - 1) (by omega)
              unfold wrongAt at z
              cases hb : isEntryD n (ds.getD (i - 1) .none) with
              | true => rfl
              | false =>
                rw [hb] at z
                cases z
            obtain ⟨o1, o2, eo, _⟩ := entry_of hprev
            have hdi1 : ds[i - 1]? = some (ds.getD (i - 1) .none) := by rw [List.getD_eq_getElem?_getD, List.getElem?_eq_getElem (by omega)]; rfl
            obtain ⟨x1, hx1, hdx1⟩ := dpAll_get ha hdi1
            rw [eo] at hdx1
            rw [ep] at hdx
            obtain ⟨t1, rfl, s1⟩ := dp_pair hdx1
            obtain ⟨t2, rfl, s2⟩ := dp_pair hdx
            have hat : atI xs (((i : Nat) : Int) - 1) = some (.ref t1) := at_of (j := i - 1) (by omega) hx1
            refine iteT ⟨_, rfl, _, rfl, _, _, rfl, rfl, a, xs, _, _, rfl, rfl, Evl.ex_t e2 hs, hat, _, rfl, t1, t2, _, _, rfl, rfl, Evl.ex_t e2 s1, Evl.ex_t e2 s2, _, rfl, ?_⟩
            have hlt : ltD (ds.getD (i - 1) .none) (ds.getD i .none) = HT.lexLt [o1, o2] [p1, p2] := by rw [eo, ep]; rfl
            cases hb : HT.lexLt [o1, o2] [p1, p2] with
            | true =>
              refine iteF (go ?_)
              unfold wrongAt
              rw [hen, hlt, hb]
              simp
            | false =>
              refine iteT ⟨_, rfl, ret ?_⟩
              unfold wrongAt
              rw [hen, hlt, hb, decide_eq_true h0]
              rfl
          · have hdec : decide ((0 : Int) < ((i : Nat) : Int)) = false := decide_eq_false (by omega)
            rw [hdec]
            refine iteF (iteF (go ?_))
            unfold wrongAt
            rw [hen, decide_eq_false h0]
            rfl
      · obtain ⟨⟨y2, y3, rfl⟩, e1, hno⟩ := p
        have z := q _ e1
        have e : firstWrong n (.tuple ds) = none := by
          show ((List.range ds.length).find? (wrongAt n ds)).map (fun i => (i : Int)) = _
          rw [find_none fun j hj => hno j (by omega)]
          rfl
        rw [e] at z
        exact z
    | _ => exact iteT ⟨_, rfl, q H (Evl.Ex.refl H)⟩
-- check_book: 0 many  1 thing  2 wrong
theorem sc_check_book : FnScope ["many", "thing", "wrong"] ["many", "thing"] (defScope (topS 16)) := ⟨rfl, rfl, rfl, by decide +kernel, rfl, by decide +kernel, by decide +kernel⟩
/-- what check_book lets go on, or raises -/
def bookErr (Y : XTxt K mg) (dm dt : PyData) (H : Hp) (E : XK) : Prop :=
  (isWithinD 1 40 dm = false → E (.ref Y.N) none H) ∧ (isWithinD 1 40 dm = true → ∀ n wr, dm = .int n → firstWrong n dt = some wr → ∀ H' d, Ex H H' → H' d = some (.xd [("index", .int wr)]) → E (.ref Y.B.C) (some d) H')
def spBook (Y : XTxt K mg) : Sp := fun vs H Q E => ∃ vm dm vt dt, vs = [vm, vt] ∧ Dx K H vm dm ∧ Dx K H vt dt ∧ bookErr Y dm dt H E ∧
  (isWithinD 1 40 dm = true → ∀ n, dm = .int n → firstWrong n dt = none → ∀ H', Ex H H' → Q .non H')
theorem within_int {lo hi : Int} {d : PyData} (h : isWithinD lo hi d = true) : ∃ i, d = .int i ∧ lo ≤ i ∧ i ≤ hi := by
  unfold isWithinD at h
  split at h
  · rename_i i
    rw [Bool.and_eq_true, decide_eq_true_iff, decide_eq_true_iff] at h
    exact ⟨i, rfl, h.1, h.2⟩
  · cases h
theorem dx_int {K : PySem.W.Frag} {H : Hp} {v : V} {i : Int} (h : Dx K H v (.int i)) : v = .int i := by
  rcases h with h | ⟨_, _, _, h⟩
  · cases h
    rfl
  · cases h
theorem ok_check_book : FnOk P w K mg base (L2.CX P w) 6 T.check_book.f T.check_book.fd ["many", "thing"] (spBook Y) := by
  have G_check_number : FnOk P w K mg base (L2.CX P w) 3 T.check_number.f T.check_number.fd ["thing", "least", "most"] (spCheckNum K Y.N) := ok_check_number T Y
  have G_first_wrong : FnOk P w K mg base CX0 5 T.first_wrong.f T.first_wrong.fd ["many", "thing"] (spFirstWrong K) := ok_first_wrong T
  refine T.check_book.F.okX sc_check_book (fun vs H Q E h => ?_) (fun cdv A outer s H vs Q E hr h => ?_)
  · obtain ⟨vm, dm, vt, dt, rfl, _⟩ := h
    rfl
  · obtain ⟨vm, dm, vt, dt, rfl, hm, ht, ⟨q1, q2⟩, q3⟩ := h
    refine ⟨_, (pss_cons (ps_expr (pe_call G_check_number (hr.mono (by decide)) (by rfl) T.check_number.g T.check_number.F.kp T.check_number.b .nil (passes_call (takes_of rfl rfl rfl rfl) fun _ _ _ _ h => h) (pa_cons (pv 0) (pa_cons pe_int (pa_cons (pe_glob (v := .int 40) (by rfl) T.g_MOST_BOXES ⟨_, rfl⟩) pa_nil)))))
    (pss_cons (ps_set (i := 2) sc_check_book.nd rfl (.inl rfl) (pe_call G_first_wrong (hr.mono (by decide)) (by rfl) T.first_wrong.g T.first_wrong.F.kp T.first_wrong.b .nil pass0 (pa_cons (pv 0) (pa_cons (pv 1) pa_nil))))
    (pss_one (ps_if (pt_cmpR op_notN (pv 2) pe_non (nomark _)) (pss_one (ps_raise rfl (takes_of (E := E) rfl rfl rfl rfl) (pmk_oex Y.B.o Y.B.iC Y.B.tI (ok_initB Y) (hr.mono (by decide)) Y.B.b .nil pass0 rfl Y.B.g (pa_cons (pv 2) pa_nil)))) pss_nil)))), ?_⟩
    refine ⟨vm, rfl, vm, dm, 1, 40, rfl, hm, fun hw => ?_, fun hw => q1 hw⟩
    obtain ⟨n, rfl, n1, n2⟩ := within_int hw
    have e := dx_int hm
    subst e
    refine ⟨_, rfl, vt, rfl, vt, dt, n, rfl, ht, fun H1 e1 => ?_⟩
    refine ⟨_, rfl, rfl, _, rfl, ?_⟩
    cases hf : firstWrong n dt with
    | none => exact iteF (q3 hw n rfl hf H1 e1)
    | some wr =>
      refine iteT ⟨_, rfl, mkO_go fun d H' e2 _ hd => q2 hw n wr rfl hf H' d (e1.trans e2) hd⟩
-- check_few: 0 many
theorem sc_check_few : FnScope ["many"] ["many"] (defScope (topS 28)) := ⟨rfl, rfl, rfl, by decide +kernel, rfl, by decide +kernel, by decide +kernel⟩
def spFew (Y : XTxt K mg) : Sp := fun vs H Q E => ∃ n : Int, vs = [.int n] ∧ (n ≤ 14 → Q .non H) ∧ (14 < n → ∀ H' d, Ex H H' → H' d = some (.xd [("most", .int 14)]) → E (.ref Y.M.C) (some d) H')
theorem ok_check_few : FnOk P w K mg base (L2.CX P w) 3 T.check_few.f T.check_few.fd ["many"] (spFew Y) := by
  refine T.check_few.F.okX sc_check_few (fun vs H Q E h => ?_) (fun cdv A outer s H vs Q E hr h => ?_)
  · obtain ⟨n, rfl, _⟩ := h
    rfl
  · obtain ⟨n, rfl, q1, q2⟩ := h
    refine ⟨_, (pss_one (ps_if (pt_cmpR op_gt (pv 0) (pe_glob (v := .int 14) (by rfl) T.g_MOST_ORDERED ⟨_, rfl⟩) (nomark _)) (pss_one (ps_raise rfl (takes_of (E := E) rfl rfl rfl rfl) (pmk_oex Y.M.o Y.M.iC Y.M.tI (ok_initM Y) (hr.mono (by decide)) Y.M.b .nil pass0 rfl Y.M.g (pa_cons (pe_glob (v := .int 14) (by rfl) T.g_MOST_ORDERED ⟨_, rfl⟩) pa_nil)))) pss_nil)), ?_⟩
    refine ⟨_, rfl, _, _, rfl, rfl, _, rfl, ?_⟩
    by_cases h : 14 < n
    · rw [decide_eq_true h]
      exact iteT (mkO_go fun d H' e2 _ hd => q2 h H' d e2 hd)
    · rw [decide_eq_false h]
      exact iteF (q1 (by omega))
end
end K3
set_option Elab.async false
set_option linter.all false
set_option maxRecDepth 100000
set_option maxHeartbeats 4000000
/-! followers, begun_least. -/
namespace K3
open PySem PySem.Spec PyProof.Rows L2
open Evl (Ex)
/-- a pair of numbers as data -/
def pD (p : Nat × Nat) : PyData := .tuple [.int (p.1 : Int), .int (p.2 : Int)]
def iV (n : Nat) : V := .int (n : Int)
/-- what stands behind a thing -/
def succs (E : Edges) (i : Nat) : List Nat := (E.filter fun p => p.1 == i).map (·.2)
theorem mem_succs {E : Edges} {i c : Nat} : c ∈ succs E i ↔ (i, c) ∈ E := by
  unfold succs
  rw [List.mem_map]
  constructor
  · rintro ⟨⟨a, b⟩, h, rfl⟩
    obtain ⟨h1, h2⟩ := List.mem_filter.mp h
    have e : a = i := by simpa using h2
    subst e
    exact h1
  · intro h
    exact ⟨(i, c), List.mem_filter.mpr ⟨h, by simp⟩, rfl⟩
theorem succs_snoc (E : Edges) (p : Nat × Nat) (i : Nat) : succs (E ++ [p]) i = if p.1 = i then succs E i ++ [p.2] else succs E i := by
  unfold succs
  rw [List.filter_append, List.map_append]
  by_cases h : p.1 = i
  · rw [if_pos h, List.filter_cons, if_pos (by simpa using h)]
    rfl
  · rw [if_neg h, List.filter_cons, if_neg (by simpa using h)]
    simp
theorem succs_len (E : Edges) (i : Nat) : (succs E i).length ≤ E.length := by
  unfold succs
  rw [List.length_map]
  exact List.length_filter_le ..
/-- a list for each thing of those that stand behind it -/
def Behind (K : PySem.W.Frag) (H : Hp) (b n : Nat) (E : Edges) : Prop := ∃ ads : List Addr, SqL K H b (ads.map V.ref) ∧ ads.length = n ∧ ∀ i t, ads[i]? = some t → SqL K H t ((succs E i).map iV)
theorem Behind.ex {K : PySem.W.Frag} {H H' : Hp} {b n : Nat} {E : Edges} (e : Ex H H') (h : Behind K H b n E) : Behind K H' b n E := by
  obtain ⟨ads, h1, h2, h3⟩ := h
  exact ⟨ads, Evl.ex_l e h1, h2, fun i t hi => Evl.ex_l e (h3 i t hi)⟩
theorem take_snoc {α : Type} {l : List α} {i : Nat} {x : α} (h : l[i]? = some x) : l.take (i + 1) = l.take i ++ [x] := by
  rw [List.take_add_one, h]
  rfl
theorem dpAll_pairs {K : PySem.W.Frag} {H : Hp} {E : Edges} {xs : List V} (h : DpAll K H xs (E.map pD)) {i : Nat} {x : V} (hx : xs[i]? = some x) : ∃ p : Nat × Nat, E[i]? = some p ∧ ∃ t, x = .ref t ∧ SqT K H t [iV p.1, iV p.2] := by
  have hi := (List.getElem?_eq_some_iff.mp hx).1
  have hl := dpAll_len h
  rw [List.length_map] at hl
  have hiE : i < E.length := by omega
  have hd : (E.map pD)[i]? = some (pD E[i]) := by rw [List.getElem?_map, List.getElem?_eq_getElem hiE]; rfl
  obtain ⟨v, hv, hdv⟩ := dpAll_get h hd
  rw [hx] at hv
  cases hv
  obtain ⟨t, rfl, hs⟩ := dp_pair hdv
  exact ⟨E[i], List.getElem?_eq_getElem hiE, t, rfl, hs⟩
/-- the things at distinct addresses, one of them changed -/
theorem upd_at {H : Hp} {ads : List Addr} (hn : ads.Nodup) {f : Nat → HO} (h : ∀ i t, ads[i]? = some t → H t = some (f i)) {k : Nat} {a : Addr} (hk : ads[k]? = some a) (o : HO) :
    ∀ i t, ads[i]? = some t → (upd H a o) t = some (if i = k then o else f i) := fun i t hi => by
  by_cases e : i = k
  · subst e
    rw [hk] at hi
    cases hi
    rw [if_pos rfl, upd_same]
  · rw [if_neg e, upd_ne (fun z => e (nd_ix hn hi (by rw [z]; exact hk)))]
    exact h i t hi
/-- a tuple that is known to its object -/
def FT (H : Hp) (p : Addr) (xs : List V) : Prop := ∃ o, H p = some (.frz o (.tup xs)) ∧ o.cls = .type "tuple" ∧ o.dict = none
theorem FT.t {K : PySem.W.Frag} {H : Hp} {p : Addr} {xs : List V} (h : FT H p xs) : SqT K H p xs := by
  obtain ⟨o, h, _⟩ := h
  exact .inl (.inr ⟨o, h⟩)
theorem FT.ex {H H' : Hp} {p : Addr} {xs : List V} (e : Ex H H') (h : FT H p xs) : FT H' p xs := by
  obtain ⟨o, h, h2⟩ := h
  exact ⟨o, e _ _ h, h2⟩
/-- tuple(l), known to its object -/
theorem call_tuple_F {X : Cx} : CallR X (.type "tuple") (fun xs H Q => ∃ p ys, xs = [.ref p] ∧ SqL X.K H p ys ∧ ∀ l H', Ex H H' → FT H' l ys → Q (.ref l) H') := by
  intro pins s σ H xs us Q I r h
  obtain ⟨p, ys, rfl, hq, q⟩ := h
  obtain ⟨u, rfl, rx⟩ := vals1 r
  cases rx
  obtain ⟨its, r', pl, hz⟩ := I.list hq
  have hlen := r'.length
  refine call_tuple_list pl.isList (fun h' kp => ?_) (by simp only [List.size_toArray] <;> omega)
  have I1 : Inv X pins σ H { s with heap := h' } := I.kept (t' := s.toks) kp
  have hf := I1.hok.fresh (Nat.le_refl h'.objs.size)
  have I2 : Inv X pins σ (upd H h'.objs.size (.frz { cls := .type "tuple", data := .seq its.toArray } (.tup ys))) { s with heap := h'.push { cls := .type "tuple", data := .seq its.toArray } } :=
    I1.laid (t' := s.toks) (fun b o e => Heap.get?_push_of_some _ e) (Nat.le_refl _) (show ObjOk X.prog X.w _ _ _ (.frz _ (.tup ys)) from ⟨Heap.get?_push_size _ rfl, hz, its, r', IsTup.new _ _⟩)
  exact ⟨.ref h'.objs.size, _, I2, rfl, q _ _ (Ex.new hf) ⟨_, upd_same, rfl, rfl⟩⟩
def tBMF (r : V → List V → Hp → VK → Prop) (to : TE) (t : TA) : TE := fun σ H Q => to σ H fun x H1 => (∃ p xs, x = .ref p ∧ FT H1 p xs) ∧ t σ H1 fun xs H2 => r x xs H2 Q
/-- t.m(e, ..), t a tuple that is known to its object -/
theorem pe_bmF {X : Cx} {o e : Expr} {es : List Expr} {to : TE} {t : TA} {name : Str} {apos cpos : Pos} {id : String} {r : V → List V → Hp → VK → Prop}
    (slot : Slot "tuple" name id) (hty : typeOf (.builtin id) = pure (.type "method_descriptor")) (hm : MtR X id r) (ho : PE X o to) (ha : PA X (e :: es) t)
    (hbase : attributeBase o name X.env (eval o X.env) = eval o X.env := by rfl)
    (hfew : ((backTo cpos (starEach (e :: es) X.env)).all (fun x => !x.1) && (backToKw cpos (keywordEach [] X.env)).all (fun x => x.1.isSome)
      && decide ((e :: es).length + ([] : List Keyword).length + (if ([] : List Keyword).isEmpty then 0 else 1) < 30)) = true := by rfl)
    (hline : (apos.endLine == cpos.line) = true := by rfl) (hs : starEach (e :: es) X.env = (false, eval e X.env) :: starEach es X.env := by rfl) (hplain : (backTo cpos (starEach es X.env)).any (·.1) = false := by rfl) :
    PE X (.Call (.Attribute o name apos) (e :: es) [] cpos) (tBMF r to t) := by
  refine ⟨fun pins s σ H Q I h => ?_⟩
  refine wpAny_Call_method_late hbase hfew hline rfl (thn (ho.run pins s σ H _ I h) fun v s1 ⟨x, H1, I1, r1, ty, q1⟩ => ?_)
  obtain ⟨p, xs, ex, ob, hp, hc, hd⟩ := ty
  subst ex
  have ho := (I1.hok p _ hp).1
  refine ⟨"tuple", id, PySem.F.plainAttrs_tuple, slot, hty, ?_, ?_, ?_⟩
  · cases r1
    exact ⟨ob, ho, hc⟩
  · intro a e2
    cases r1
    cases e2
    exact ⟨ob, ho, hd⟩
  have hA := ha.run cpos pins s1 σ H1 _ I1 q1
  rw [hs] at hA ⊢
  refine Calls.callWith_builtin (by show (false || (backTo cpos (starEach es X.env)).any (·.1)) = false; rw [hplain] <;> rfl) (Calls.evalArgs_plain ?_)
  exact thn hA fun us s2 ⟨vs, H2, I2, r2, q2⟩ => hm pins s2 σ H2 _ vs v us Q I2 r1 r2 q2
theorem rSlA_go {K : PySem.W.Frag} {a : Addr} {xs : List V} {lo hi : Option Int} {H : Hp} {Q : VK} (h : SqT K H a xs) (q : ∀ r H', Ex H H' → SqT K H' r (cutV xs lo hi) → Q (.ref r) H') : rSlA K (.ref a) lo hi H Q := by
  refine ⟨a, xs, rfl, h, fun z => q a H (Ex.refl _) ?_, fun _ p hp => q p _ (Ex.new hp) (SqT.of upd_same)⟩
  unfold cutV
  rw [z.1, z.2, List.drop_zero, Nat.sub_zero, List.take_length]
  exact h
theorem rCatA_go {K : PySem.W.Frag} {a b : Addr} {xs ys : List V} {H : Hp} {Q : VK} (h : SqT K H a xs) (h2 : SqT K H b ys) (hz : xs.length + ys.length ≤ sizeLine) (q : ∀ r H', Ex H H' → SqT K H' r (xs ++ ys) → Q (.ref r) H') : rCatA K (.ref a) (.ref b) H Q := by
  refine ⟨a, b, xs, ys, rfl, rfl, h, h2, hz, fun e => q b H (Ex.refl _) ?_, fun _ e => q a H (Ex.refl _) ?_, fun _ _ p hp => q p _ (Ex.new hp) (SqT.of upd_same)⟩
  · rw [e]
    exact h2
  · rw [e, List.append_nil]
    exact h
theorem yes_go {σ : L2.St} {H : Hp} {A B : Hp → Prop} (h : A H) : tYes σ H (fun b H3 => if b = true then A H3 else B H3) := by
  show if true = true then A H else B H
  rw [if_pos rfl]
  exact h
theorem noPart_go {σ : L2.St} {H : Hp} {Q : Option Int → Hp → Prop} (h : Q none H) : tNoPart σ H Q := h
theorem idx_iV : ∀ (l : List Nat) (x : Nat), (l.map fun (x : Nat) => (x : Int)).idxOf (x : Int) = l.idxOf x
  | [], _ => rfl
  | a :: l, x => by
    rw [List.map_cons, List.idxOf_cons, List.idxOf_cons, idx_iV l x]
    by_cases e : a = x
    · subst e
      simp
    · have e2 : ((a : Int) == (x : Int)) = false := by simpa using fun z : (a : Int) = (x : Int) => e (by omega)
      have e3 : (a == x) = false := by simpa using e
      rw [e2, e3]
section
variable {P : Program} {w : World} {K : PySem.W.Frag} {mg : Str → Option Value} {base : Heap} (T : Txt K mg) (Y : XTxt K mg)
-- followers: 0 many  1 pairs  2 found  3 one  4 other  5 thing
theorem sc_followers : FnScope ["many", "pairs", "found", "one", "other", "thing"] ["many", "pairs"] (defScope (topS 17)) := ⟨rfl, rfl, rfl, by decide +kernel, rfl, by decide +kernel, by decide +kernel⟩
def spFollow (K : PySem.W.Frag) : Sp := fun vs H Q _ => ∃ (n : Nat) (E : Edges) (v : V), vs = [iV n, v] ∧ Dx K H v (.tuple (E.map pD)) ∧ (∀ p ∈ E, p.1 < n ∧ p.2 < n ∧ p.1 ≠ p.2) ∧ n ≤ 1000 ∧ E.length ≤ 1000 ∧ ∀ b H', Ex H H' → Behind K H' b n E → Q (.ref b) H'
theorem ok_followers : FnOk P w K mg base CX0 1 T.followers.f T.followers.fd ["many", "pairs"] (spFollow K) := by
  refine T.followers.F.ok sc_followers (fun vs H Q E h => ?_) (fun cdv A outer s H vs Q E hr h => ?_)
  · obtain ⟨n, E, v, rfl, _⟩ := h
    rfl
  · obtain ⟨n, B, v, rfl, hd, hB, hn, hl, q⟩ := h
    obtain ⟨a, xs, rfl, hs, ha⟩ := dx_tup hd
    have hlen : xs.length = B.length := by rw [dpAll_len ha, List.length_map]
    refine ⟨_, (pss_cons (ps_setLc (i := 2) (own := [("thing", 5)]) rfl sc_followers.nd rfl rfl (sw_true rfl rfl rfl (by decide +kernel)) (pi_range1 (by rfl) T.m_range (pa_cons (pv 0) pa_nil)) (blkOk_by (own := [("thing", 5)]) (N := ["many", "pairs", "found", "one", "other", "thing"]) (sc := defScope (topS 17)) (by decide +kernel)) (fun _ _ _ _ _ => (pg_name (i := 5) sc_followers.nd rfl (.inl rfl))) (fun _ _ _ _ _ => pts_nil) (fun _ _ _ _ _ => (pe_lst pa_nil)))
    (pss_cons (ps_for PassesOwn.never rfl (pi_tup (pv 1)) (pg_tup rfl (pgs_cons (pg_name (i := 3) sc_followers.nd rfl (.inl rfl)) (pgs_cons (pg_name (i := 4) sc_followers.nd rfl (.inl rfl)) pgs_nil))) (pss_one (ps_expr (pe_bm PySem.F.plainAttrs_list PySem.F.slot_list_append PySem.F.type_list_append mt_append (pe_ix ix_list (pv 2) (pv 3) (fun _ _ => rfl)) (pa_cons (pv 4) pa_nil)))))
    (pss_one (ps_ret (pv 2))))), ?_⟩
    refine ⟨_, rfl, (n : Int), rfl, by omega, by omega, fun D hD => ?_⟩
    refine lc_range (lo := 0) (n := (n : Int).toNat) (fun i H' => ∃ ads : List Addr, Ex H H' ∧ ads.length = i ∧ ads.Nodup ∧ H' D = some (.lst (ads.map V.ref)) ∧ D ∉ ads ∧ (∀ t ∈ ads, H t = none) ∧ ∀ i t, ads[i]? = some t → H' t = some (.lst []))
      ⟨[], Evl.Ex.new hD, rfl, List.Pairwise.nil, upd_same, by simp, by simp, fun i t h => nomatch (List.mem_of_getElem? h)⟩ (fun i H' hi p => ?_) (fun H' p => ?_)
    · obtain ⟨ads, e1, h1, h2, h3, h4, h5, h6⟩ := p
      refine ⟨rfl, yes_go ?_⟩
      refine ⟨Nat.zero_le _, fun p hp => ?_⟩
      have hpD : p ≠ D := fun z => by
        rw [z, h3] at hp
        cases hp
      have hpa : p ∉ ads := fun z => by
        obtain ⟨j, hj⟩ := List.mem_iff_getElem?.mp z
        rw [h6 j p hj] at hp
        cases hp
      have hDp : (upd H' p (.lst [])) D = some (.lst (ads.map V.ref)) := by
        rw [upd_ne (Ne.symm hpD)]
        exact h3
      refine ⟨_, hDp, by rw [List.length_map, sizeLine_eq]; omega, ads ++ [p], ?_, by rw [List.length_append, h1]; rfl, ?_, by rw [upd_same, List.map_append]; rfl, ?_, ?_, ?_⟩
      · exact Evl.Ex.mut (e1.trans (Evl.Ex.new hp)) hD
      · refine List.nodup_append.mpr ⟨h2, by simp, ?_⟩
        intro x hx y hy e
        rw [List.mem_singleton.mp hy] at e
        exact hpa (e ▸ hx)
      · intro z
        rcases List.mem_append.mp z with z | z
        · exact h4 z
        · exact hpD (List.mem_singleton.mp z).symm
      · intro t ht
        rcases List.mem_append.mp ht with z | z
        · exact h5 t z
        · rw [List.mem_singleton.mp z]
          exact Evl.fresh_back e1 hp
      · intro j t hj
        have htD : t ≠ D := fun z => by
          have hm := List.mem_of_getElem? hj
          rw [z] at hm
          rcases List.mem_append.mp hm with z2 | z2
          · exact h4 z2
          · exact hpD (List.mem_singleton.mp z2).symm
        rw [upd_ne htD]
        by_cases hjl : j < ads.length
        · rw [List.getElem?_append_left hjl] at hj
          rw [upd_ne (fun z => hpa (by rw [← z]; exact List.mem_of_getElem? hj))]
          exact h6 j t hj
        · rw [List.getElem?_append_right (by omega)] at hj
          have hm := List.mem_of_getElem? hj
          rw [List.mem_singleton.mp hm, upd_same]
    · obtain ⟨ads, e1, h1, h2, h3, h4, h5, h6⟩ := p
      have hnat : (n : Int).toNat = n := by omega
      rw [hnat] at h1
      refine ⟨_, rfl, a, rfl, ⟨xs, Evl.ex_t e1 hs⟩, for_tup (K := K) (a := a) (xs := xs) (fun i σ H2 => (∃ y3 y4 y5, σ = [some (iV n), some (.ref a), some (.ref D), y3, y4, y5]) ∧ Ex H H2 ∧ H2 D = some (.lst (ads.map V.ref)) ∧ ∀ j t, ads[j]? = some t → H2 t = some (.lst ((succs (B.take i) j).map iV)))
        ⟨⟨_, _, _, rfl⟩, e1, h3, fun j t hj => h6 j t hj⟩ (fun i σ H2 _ p => Evl.ex_t p.2.1 hs) (fun i x σ H2 hx p => ?_) (fun σ H2 p => ?_)⟩
      · obtain ⟨⟨y3, y4, y5, rfl⟩, e2, g3, g4⟩ := p
        obtain ⟨pr, hp, t, rfl, ht⟩ := dpAll_pairs ha hx
        have hpm := hB pr (List.mem_of_getElem? hp)
        obtain ⟨c, hc⟩ : ∃ c, ads[pr.1]? = some c := ⟨ads[pr.1]'(by omega), List.getElem?_eq_getElem _⟩
        have hcD : c ≠ D := fun z => h4 (z ▸ List.mem_of_getElem? hc)
        refine ⟨t, _, rfl, Evl.ex_t e2 ht, rfl, _, _, rfl, _, _, rfl, rfl, ?_⟩
        have hix : atI (ads.map V.ref) ((pr.1 : Nat) : Int) = some (.ref c) := atI_nat (by rw [List.getElem?_map, hc]; rfl)
        refine ⟨_, rfl, _, rfl, D, _, _, _, rfl, rfl, SqL.of g3, hix, .inl ⟨rfl, _, SqL.of (g4 _ _ hc)⟩, _, rfl, c, _, _, rfl, rfl, g4 _ _ hc, ?_, ?_⟩
        · rw [List.length_map, sizeLine_eq]
          have := succs_len (B.take i) pr.1
          rw [List.length_take] at this
          omega
        · refine ⟨⟨_, _, _, rfl⟩, Evl.Ex.mut e2 (h5 c (List.mem_of_getElem? hc)), ?_, fun j t hj => ?_⟩
          · rw [upd_ne (Ne.symm hcD)]
            exact g3
          · rw [upd_at h2 g4 hc _ j t hj, take_snoc hp, succs_snoc]
            by_cases hjk : j = pr.1
            · rw [if_pos hjk, if_pos hjk.symm, hjk, List.map_append]
              rfl
            · rw [if_neg hjk, if_neg (fun z => hjk z.symm)]
      · obtain ⟨⟨y3, y4, y5, rfl⟩, e2, g3, g4⟩ := p
        refine ⟨_, rfl, q D H2 e2 ⟨ads, SqL.of g3, h1, fun j t hj => ?_⟩⟩
        have z := g4 j t hj
        rw [hlen, List.take_length] at z
        exact SqL.of z
-- begun_least: 0 items  1 at
theorem sc_begun_least : FnScope ["items", "at"] ["items"] (defScope (topS 19)) := ⟨rfl, rfl, rfl, by decide +kernel, rfl, by decide +kernel, by decide +kernel⟩
def spBegun (K : PySem.W.Frag) : Sp := fun vs H Q _ => ∃ (p : Addr) (l : List Nat), vs = [.ref p] ∧ FT H p (l.map iV) ∧ 0 < l.length ∧ l.length ≤ 1000 ∧ ∀ at_ r H', at_ < l.length → (∀ x ∈ l, l.getD at_ 0 ≤ x) → Ex H H' → SqT K H' r ((l.drop at_ ++ l.take at_).map iV) → Q (.ref r) H'
theorem ints_iV (l : List Nat) : l.map iV = (l.map fun (x : Nat) => (x : Int)).map V.int := by
  rw [List.map_map]
  rfl
theorem cut_from (xs : List V) (k : Nat) (h : k ≤ xs.length) : cutV xs (some (k : Int)) none = xs.drop k := by
  unfold cutV
  rw [show HT.sIx xs.length 0 (some ((k : Nat) : Int)) = min k xs.length from HT.sIx_nat xs.length 0 k, HT.sIx_none, Nat.min_eq_left h]
  exact List.take_of_length_le (by rw [List.length_drop]; exact Nat.le_refl _)
theorem cut_to (xs : List V) (k : Nat) (h : k ≤ xs.length) : cutV xs none (some (k : Int)) = xs.take k := by
  unfold cutV
  rw [show HT.sIx xs.length xs.length (some ((k : Nat) : Int)) = min k xs.length from HT.sIx_nat xs.length xs.length k, HT.sIx_none, Nat.min_eq_left h]
  rfl
theorem six_from {n k : Nat} : HT.sIx n 0 (some ((k : Nat) : Int)) = min k n := HT.sIx_nat n 0 k
theorem six_to {n k : Nat} : HT.sIx n n (some ((k : Nat) : Int)) = min k n := HT.sIx_nat n n k
theorem ok_begun_least : FnOk P w K mg base CX0 1 T.begun_least.f T.begun_least.fd ["items"] (spBegun K) := by
  refine T.begun_least.F.ok sc_begun_least (fun vs H Q E h => ?_) (fun cdv A outer s H vs Q E hr h => ?_)
  · obtain ⟨p, l, rfl, _⟩ := h
    rfl
  · obtain ⟨p, l, rfl, hf, h0, hz, q⟩ := h
    have hs : SqT K H p (l.map iV) := hf.t
    refine ⟨_, (pss_cons (ps_set (i := 1) sc_begun_least.nd rfl (.inl rfl) (pe_bmF PySem.F.slot_tuple_index PySem.F.type_tuple_index mt_tindexI (pv 0) (pa_cons (pe_callB (cr_minT rfl) (by rfl) T.m_min boot_min (pa_cons (pv 0) pa_nil)) pa_nil)))
    (pss_one (ps_ret (pe_op op_catA (pe_slice sl_tupA (pv 0) (po_some (pv 1)) po_none) (pe_slice sl_tupA (pv 0) po_none (po_some (pv 1))))))), ?_⟩
    have hs' : SqT K H p ((l.map fun (x : Nat) => (x : Int)).map V.int) := by
      rw [← ints_iV]
      exact hs
    refine ⟨_, rfl, ⟨p, _, rfl, hf⟩, _, rfl, p, _, rfl, hs', by simpa using h0, fun m hm hle => ?_⟩
    obtain ⟨x, hx, rfl⟩ := List.mem_map.mp hm
    have hix : (l.map fun (x : Nat) => (x : Int)).idxOf (x : Int) = l.idxOf x := idx_iV l x
    refine ⟨p, _, (x : Int), rfl, rfl, hs', hm, ?_⟩
    rw [hix]
    have hlt : l.idxOf x < l.length := List.idxOf_lt_length_of_mem hx
    have hle2 : l.idxOf x ≤ l.length := Nat.le_of_lt hlt
    refine ⟨_, rfl, _, rfl, _, rfl, noPart_go (rSlA_go hs fun r1 H1 e1 g1 => ?_)⟩
    rw [cut_from _ _ (by rw [List.length_map]; exact hle2)] at g1
    refine ⟨_, rfl, noPart_go ⟨_, rfl, _, rfl, rSlA_go (Evl.ex_t e1 hs) fun r2 H2 e2 g2 => ?_⟩⟩
    rw [cut_to _ _ (by rw [List.length_map]; exact hle2)] at g2
    refine rCatA_go (Evl.ex_t e2 g1) g2 (by simp only [List.length_drop, List.length_take, List.length_map, sizeLine_eq]; omega) fun r3 H3 e3 g3 => ?_
    refine q (l.idxOf x) r3 H3 hlt (fun y hy => ?_) ((e1.trans e2).trans e3) ?_
    · rw [List.getD_eq_getElem?_getD, List.getElem?_eq_getElem hlt, Option.getD_some, List.getElem_idxOf]
      have z := hle (y : Int) (List.mem_map.mpr ⟨y, hy, rfl⟩)
      omega
    · rw [List.map_append, List.map_drop, List.map_take]
      exact g3
end
end K3
set_option Elab.async false
set_option linter.all false
set_option maxRecDepth 100000
set_option maxHeartbeats 4000000
/-! ring_from, ring_of, ring. -/
namespace K3
open PySem PySem.Spec PyProof.Rows L2
open Evl (Ex)
def kI (n : Nat) : Key := .inl (n : Int)
theorem kI_inj {a b : Nat} : kI a = kI b ↔ a = b := by
  unfold kI
  constructor
  · intro h
    have z := Sum.inl.inj h
    omega
  · intro h
    rw [h]
/-- the dict of where things are met from -/
def trK (tr : List (Nat × Nat)) : List (Key × V) := tr.map fun kp => (kI kp.1, iV kp.2)
def dkt (first : Nat) (tr : List (Nat × Nat)) : List (Key × V) := (kI first, V.non) :: trK tr
theorem valV_kI {α : Type} (f : α → V) (g : α → Nat) : ∀ (l : List α) (k : Nat), valV (l.map fun a => (kI (g a), f a)) (kI k) = (l.find? fun a => g a == k).map f
  | [], k => rfl
  | a :: l, k => by
    rw [List.map_cons]
    by_cases e : g a = k
    · rw [valV_pos (by rw [e]), List.find?_cons_of_pos (by simpa using e)]
      rfl
    · rw [valV_neg (fun z => e (kI_inj.mp z)), List.find?_cons_of_neg (by simpa using e)]
      exact valV_kI f g l k
theorem find_ix {l : List (Nat × Nat)} (hn : (l.map (·.1)).Nodup) {r k p : Nat} (h : l[r]? = some (k, p)) : (l.find? fun a => a.1 == k) = some (k, p) := by
  induction l generalizing r with
  | nil => simp at h
  | cons a l ih =>
    rw [List.map_cons] at hn
    obtain ⟨h1, h2⟩ := List.nodup_cons.mp hn
    cases r with
    | zero =>
      have e : a = (k, p) := Option.some.inj h
      rw [e, List.find?_cons_of_pos (by simp)]
    | succ r =>
      rw [List.getElem?_cons_succ] at h
      have hm : k ∈ l.map (·.1) := List.mem_map.mpr ⟨(k, p), List.mem_of_getElem? h, rfl⟩
      have hne : a.1 ≠ k := fun z => h1 (z ▸ hm)
      rw [List.find?_cons_of_neg (by simpa using hne)]
      exact ih h2 h
theorem dkt_at {first : Nat} {tr : List (Nat × Nat)} (hn : (first :: tr.map (·.1)).Nodup) : valV (dkt first tr) (kI first) = some .non := valV_pos rfl
theorem dkt_tr {first : Nat} {tr : List (Nat × Nat)} (hn : (first :: tr.map (·.1)).Nodup) {r k p : Nat} (h : tr[r]? = some (k, p)) : valV (dkt first tr) (kI k) = some (iV p) := by
  obtain ⟨h1, h2⟩ := List.nodup_cons.mp hn
  have hm : k ∈ tr.map (·.1) := List.mem_map.mpr ⟨(k, p), List.mem_of_getElem? h, rfl⟩
  have hne : first ≠ k := fun z => h1 (z ▸ hm)
  show valV ((kI first, V.non) :: trK tr) (kI k) = _
  rw [valV_neg (fun z => hne (kI_inj.mp z))]
  unfold trK
  rw [valV_kI, find_ix h2 h]
  rfl
theorem dkt_not {first : Nat} {tr : List (Nat × Nat)} {x : Nat} (h : x ∉ first :: tr.map (·.1)) : valV (dkt first tr) (kI x) = none := by
  have hne : first ≠ x := fun z => h (z ▸ List.mem_cons_self)
  show valV ((kI first, V.non) :: trK tr) (kI x) = _
  rw [valV_neg (fun z => hne (kI_inj.mp z))]
  unfold trK
  rw [valV_kI, List.find?_eq_none.mpr fun a ha => ?_]
  · rfl
  · have q : a.1 ≠ x := fun z => h (List.mem_cons_of_mem _ (List.mem_map.mpr ⟨a, ha, z⟩))
    simpa using q
theorem dkt_in {first : Nat} {tr : List (Nat × Nat)} (hn : (first :: tr.map (·.1)).Nodup) {x : Nat} (h : x ∈ first :: tr.map (·.1)) : (valV (dkt first tr) (kI x)).isSome = true := by
  rcases List.mem_cons.mp h with e | e
  · rw [e, dkt_at hn]
    rfl
  · obtain ⟨⟨k, p⟩, hm, ek⟩ := List.mem_map.mp e
    obtain ⟨r, hr⟩ := List.mem_iff_getElem?.mp hm
    have ek' : k = x := ek
    rw [← ek', dkt_tr hn hr]
    rfl
theorem dkt_put {first : Nat} {tr : List (Nat × Nat)} {x p : Nat} (h : x ∉ first :: tr.map (·.1)) : putK (dkt first tr) (kI x) (iV p) = dkt first (tr ++ [(x, p)]) := by
  unfold putK
  rw [if_neg]
  · unfold dkt trK
    rw [List.map_append]
    rfl
  · rw [valV_any, dkt_not h]
    exact Bool.false_ne_true
theorem atI_end {c : List Nat} {x : Nat} (h : c.getLast? = some x) : atI (c.map iV) (-1) = some (iV x) := by
  obtain ⟨ys, rfl⟩ := List.getLast?_eq_some_iff.mp h
  rw [List.map_append]
  exact L2.atI_last _ _
theorem bran {b : Bool} {A B : Prop} (t : b = true → A) (f : b = false → B) : if b = true then A else B := by
  cases b with
  | true =>
    rw [if_pos rfl]
    exact t rfl
  | false =>
    rw [if_neg Bool.false_ne_true]
    exact f rfl
/-- the state of the search -/
structure RF (K : PySem.W.Frag) (H H' : Hp) (E : Edges) (W L : Addr) (first : Nat) (tr : List (Nat × Nat)) (j : Nat) : Prop where
  ex : Ex H H'
  w : H' W = some (.dK (dkt first tr))
  l : H' L = some (.lst (((first :: tr.map (·.1)).drop j).map iV))
  s : Srch E first tr
  j : j ≤ (first :: tr.map (·.1)).length
theorem RF.len {K : PySem.W.Frag} {H H' : Hp} {E : Edges} {W L : Addr} {first n : Nat} {tr : List (Nat × Nat)} {j : Nat} (hE : ∀ p ∈ E, p.1 < n ∧ p.2 < n ∧ p.1 ≠ p.2) (hf : first < n) (h : RF K H H' E W L first tr j) : (first :: tr.map (·.1)).length ≤ n := by
  refine nodup_lt h.s.nd fun x hx => ?_
  rcases List.mem_cons.mp hx with e | e
  · rw [e]
    exact hf
  · obtain ⟨⟨k, p⟩, hm, ek⟩ := List.mem_map.mp e
    obtain ⟨i, hi⟩ := List.mem_iff_getElem?.mp hm
    have q := (h.s.par i k p hi).1
    have ek' : k = x := ek
    rw [← ek']
    exact (hE _ q).2.1
section
variable {P : Program} {w : World} {K : PySem.W.Frag} {mg : Str → Option Value} {base : Heap} (T : Txt K mg) (Y : XTxt K mg)
-- ring_from: 0 behind  1 first  2 ways  3 waiting  4 here  5 other  6 found
theorem sc_ring_from : FnScope ["behind", "first", "ways", "waiting", "here", "other", "found"] ["behind", "first"] (defScope (topS 18)) := ⟨rfl, rfl, rfl, by decide +kernel, rfl, by decide +kernel, by decide +kernel⟩
def spRingFrom (K : PySem.W.Frag) : Sp := fun vs H Q _ => ∃ (b first n : Nat) (E : Edges), vs = [.ref b, iV first] ∧ Behind K H b n E ∧ (∀ p ∈ E, p.1 < n ∧ p.2 < n ∧ p.1 ≠ p.2) ∧ first < n ∧ n ≤ 1000 ∧ E.length ≤ 1000 ∧
  (∀ H', Ex H H' → ¬ Way E first first → Q .non H') ∧ ∀ r l H', Ex H H' → FT H' r (l.map iV) → 2 ≤ l.length → (∀ x ∈ l, x < n) → l.Nodup → lk E (l ++ [l.headD 0]) → Q (.ref r) H'
theorem ok_ring_from : FnOk P w K mg base CX0 1 T.ring_from.f T.ring_from.fd ["behind", "first"] (spRingFrom K) := by
  refine T.ring_from.F.ok sc_ring_from (fun vs H Q E h => ?_) (fun cdv A outer s H vs Q E hr h => ?_)
  · obtain ⟨b, first, n, B, rfl, _⟩ := h
    rfl
  · obtain ⟨b, first, n, B, rfl, hb, hB, hf, hn, hl, q0, q1⟩ := h
    refine ⟨_, (pss_cons (ps_set (i := 2) sc_ring_from.nd rfl (.inl rfl) (pe_disp (pps_cons (pv 1) pe_non pps_nil) (by rfl) (by rfl) (fun z => by cases z) (by decide)))
    (pss_cons (ps_set (i := 3) sc_ring_from.nd rfl (.inl rfl) (pe_lst (pa_cons (pv 1) pa_nil)))
    (pss_cons (ps_while PassesOwn.never (pt_cmpR op_gt (pe_callB call_len_seq (by rfl) T.m_len PySem.boot_len (pa_cons (pv 3) pa_nil)) pe_int (nomark _)) (pss_cons (ps_set (i := 4) sc_ring_from.nd rfl (.inl rfl) (pe_bm PySem.F.plainAttrs_list PySem.F.slot_list_pop PySem.F.type_list_pop mt_popAt (pv 3) (pa_cons pe_int pa_nil)))
    (pss_one (ps_for PassesOwn.never rfl (pi_list (pe_ix ix_list (pv 0) (pv 4) (fun _ _ => rfl))) (pg_name (i := 5) sc_ring_from.nd rfl (.inl rfl)) (pss_cons (ps_if (pt_cmpR op_eq (pv 5) (pv 1) (nomark _)) (pss_cons (ps_set (i := 6) sc_ring_from.nd rfl (.inl rfl) (pe_lst (pa_cons (pv 4) pa_nil)))
    (pss_cons (ps_while PassesOwn.never (pt_cmpR op_notN (pe_dget (hu_of hr) (pv 2) (pe_ix ix_list (pv 6) (pe_un un_neg pe_int) (fun _ _ => rfl)) (fun _ _ => rfl)) pe_non (nomark _)) (pss_one (ps_expr (pe_bm PySem.F.plainAttrs_list PySem.F.slot_list_append PySem.F.type_list_append mt_append (pv 6) (pa_cons (pe_dget (hu_of hr) (pv 2) (pe_ix ix_list (pv 6) (pe_un un_neg pe_int) (fun _ _ => rfl)) (fun _ _ => rfl)) pa_nil)))))
    (pss_one (ps_ret (pe_callTy call_tuple_F (by rfl) T.m_tuple boot_tuple (pa_cons (pe_revL (pv 6)) pa_nil)))))) pss_nil)
    (pss_one (ps_if (pt_cmp (pc_dnotin (hu_of hr) (pv 5) (pv 2))) (pss_cons (ps_dput (hu_of hr) (pv 2) (pv 5) (pv 4) rfl)
    (pss_one (ps_expr (pe_bm PySem.F.plainAttrs_list PySem.F.slot_list_append PySem.F.type_list_append mt_append (pv 3) (pa_cons (pv 5) pa_nil))))) pss_nil)))))))
    (pss_one (ps_ret pe_non))))), ?_⟩
    refine fun W hW => ⟨_, rfl, upd_same, [(kI first, V.non)], rfl, by simp, ?_⟩
    refine ⟨_, rfl, (by simp [sizeLine_eq]), fun L hL => ?_⟩
    have hLW : L ≠ W := fun z => by
      rw [z, upd_same] at hL
      cases hL
    have hWL : W ≠ L := Ne.symm hLW
    have hL0 : H L = none := by
      rw [upd_ne hLW, upd_ne hLW] at hL
      exact hL
    refine ⟨fun m σ H' => ∃ tr j, m = n - j ∧ (∃ y4 y5 y6, σ = [some (.ref b), some (iV first), some (.ref W), some (.ref L), y4, y5, y6]) ∧ RF K H H' B W L first tr j ∧ ∀ a ∈ (first :: tr.map (·.1)).take j, ∀ c, (a, c) ∈ B → c ∈ first :: tr.map (·.1) ∧ c ≠ first,
      ⟨n, [], 0, rfl, ⟨_, _, _, rfl⟩, ⟨?_, ?_, ?_, Srch.nil, Nat.zero_le _⟩, fun a ha => by simp at ha⟩, ?_⟩
    · exact Evl.Ex.mut (Evl.Ex.mut (Ex.new hW) hW) hL0
    · rw [upd_ne hWL, upd_same]
      rfl
    · exact upd_same
    rintro m σ H' ⟨tr, j, rfl, ⟨y4, y5, y6, rfl⟩, g, cl⟩
    refine ⟨_, rfl, _, _, rfl, .inl (SqL.of g.l), ?_⟩
    refine ⟨_, _, rfl, rfl, _, rfl, bran (fun hc => ?_) (fun hc => ?_)⟩
    · have hj : j < (first :: tr.map (·.1)).length := by
        have z := of_decide_eq_true hc
        rw [List.length_map, List.length_drop] at z
        omega
      have hlen := g.len hB hf
      obtain ⟨here, hh⟩ : ∃ x, (first :: tr.map (·.1))[j]? = some x := ⟨_, List.getElem?_eq_getElem hj⟩
      have hd : (first :: tr.map (·.1)).drop j = here :: (first :: tr.map (·.1)).drop (j + 1) := by
        rw [List.drop_eq_getElem_cons hj]
        rw [List.getElem?_eq_getElem hj] at hh
        rw [Option.some.inj hh]
      have hherem : here ∈ first :: tr.map (·.1) := List.mem_of_getElem? hh
      have hlt : ∀ x ∈ first :: tr.map (·.1), x < n := fun x hx => by
        rcases List.mem_cons.mp hx with e | e
        · rw [e]
          exact hf
        · obtain ⟨⟨k, p⟩, hm, ek⟩ := List.mem_map.mp e
          obtain ⟨i, hi⟩ := List.mem_iff_getElem?.mp hm
          have q := (g.s.par i k p hi).1
          have ek' : k = x := ek
          rw [← ek']
          exact (hB _ q).2.1
      have hhn := hlt here hherem
      obtain ⟨ads, a1, a2, a3⟩ := hb
      obtain ⟨cc, hcc⟩ : ∃ c, ads[here]? = some c := ⟨ads[here]'(by omega), List.getElem?_eq_getElem _⟩
      have hss := a3 here cc hcc
      have gl := g.l
      rw [hd, List.map_cons] at gl
      refine ⟨fun σ' H' => ∃ tr', (∃ y4 y5 y6, σ' = [some (.ref b), some (iV first), some (.ref W), some (.ref L), y4, y5, y6]) ∧ RF K H H' B W L first tr' (j + 1) ∧ ∀ a ∈ (first :: tr'.map (·.1)).take (j + 1), ∀ c, (a, c) ∈ B → c ∈ first :: tr'.map (·.1) ∧ c ≠ first,
        fun σ' H2 ⟨tr', h1, h2, h3⟩ => ⟨_, by omega, tr', j + 1, rfl, h1, h2, h3⟩, ?_⟩
      refine ⟨_, rfl, .inl ⟨rfl, _, SqL.of gl⟩, L, _, 0, 0, iV here, rfl, rfl, gl, by decide, by decide, seqIndex_of (by decide) (by rw [List.length_cons]; omega), rfl, ?_⟩
      refine ⟨_, rfl, _, rfl, b, _, _, .ref cc, rfl, rfl, Evl.ex_l (Evl.Ex.mut g.ex hL0) a1, atI_nat (by rw [List.getElem?_map, hcc]; rfl), cc, rfl, ⟨_, Evl.ex_l (Evl.Ex.mut g.ex hL0) hss⟩, ?_⟩
      refine for_list (xs := (succs B here).map iV) (fun i σ H2 => ∃ tr', (∃ y5 y6, σ = [some (.ref b), some (iV first), some (.ref W), some (.ref L), some (iV here), y5, y6]) ∧ RF K H H2 B W L first tr' (j + 1) ∧ (first :: tr'.map (·.1))[j]? = some here ∧ (∀ a ∈ (first :: tr'.map (·.1)).take j, ∀ c, (a, c) ∈ B → c ∈ first :: tr'.map (·.1) ∧ c ≠ first) ∧ ∀ c ∈ (succs B here).take i, c ∈ first :: tr'.map (·.1) ∧ c ≠ first)
        ⟨tr, ⟨_, _, rfl⟩, ⟨Evl.Ex.mut g.ex hL0, ?_, ?_, g.s, hj⟩, hh, cl, fun c hc => by simp at hc⟩ (fun i σ H2 _ p => ?_) (fun i x σ H2 hx p => ?_) (fun σ H2 p => ?_)
      · rw [upd_ne hWL]
        exact g.w
      · exact upd_same
      · obtain ⟨tr', _, g2, _⟩ := p
        exact Evl.ex_l g2.ex hss
      · obtain ⟨tr', ⟨y5, y6, rfl⟩, g2, hh2, cl2, dn⟩ := p
        obtain ⟨o, ho, rfl⟩ : ∃ o, (succs B here)[i]? = some o ∧ iV o = x := by
          rw [List.getElem?_map] at hx
          cases e : (succs B here)[i]? with
          | none => rw [e] at hx; cases hx
          | some o => rw [e] at hx; exact ⟨o, rfl, Option.some.inj hx⟩
        have hoE : (here, o) ∈ B := mem_succs.mp (List.mem_of_getElem? ho)
        have hlen2 := g2.len hB hf
        have nd2 := g2.s.nd
        refine ⟨_, rfl, _, rfl, rfl, _, rfl, bran (fun he => ?_) (fun he => ?_)⟩
        · have heq : o = first := by
            have z := of_decide_eq_true he
            have z2 := V.int.inj z
            omega
          subst heq
          refine ⟨_, rfl, (by simp [sizeLine_eq]), fun F hF => ?_⟩
          have hFW : F ≠ W := fun z => by
            rw [z, g2.w] at hF
            cases hF
          have hWF : W ≠ F := Ne.symm hFW
          have hF0 : H F = none := Evl.fresh_back g2.ex hF
          refine ⟨fun m σ H3 => ∃ c, (σ = [some (.ref b), some (iV o), some (.ref W), some (.ref L), some (iV here), some (iV o), some (.ref F)]) ∧ Ex H H3 ∧ H3 W = some (.dK (dkt o tr')) ∧ H3 F = some (.lst (c.map iV)) ∧ Chn B o tr' c m ∧ c.head? = some here,
            ⟨j, [here], rfl, Evl.Ex.mut g2.ex hF0, by rw [upd_ne hWF]; exact g2.w, upd_same, Chn.start hh2, rfl⟩, ?_⟩
          rintro m σ H3 ⟨c, rfl, e3, w3, f3, C, hhd⟩
          have hcl : c.length ≤ n := nodup_lt C.nd fun x hx => by
            rcases List.mem_cons.mp (C.mem x hx) with e | e
            · rw [e]
              exact hf
            · obtain ⟨⟨k, p⟩, hm, ek⟩ := List.mem_map.mp e
              obtain ⟨i, hi⟩ := List.mem_iff_getElem?.mp hm
              have q := (g2.s.par i k p hi).1
              have ek' : k = x := ek
              rw [← ek']
              exact (hB _ q).2.1
          cases m with
          | zero =>
            have hlast : c.getLast? = some o := by
              rw [C.end_]
              rfl
            have hD : DGet H3 W (iV o) (some .non) := by
              have z := DGet.k (k := kI o) w3
              rw [dkt_at nd2] at z
              exact z
            refine ⟨_, rfl, _, rfl, _, rfl, F, _, _, _, rfl, rfl, SqL.of f3, atI_end hlast, W, _, rfl, hD, rfl, _, rfl, bran (fun z => by cases z) (fun _ => ?_)⟩
            refine ⟨_, rfl, F, _, rfl, SqL.of f3, fun R hR => ⟨R, _, rfl, SqL.of upd_same, fun r H4 e4 ft => ?_⟩⟩
            obtain ⟨k1, k2, k3, k4⟩ := C.ring hB hf g2.s hhd hoE
            refine q1 r c.reverse H4 ((Evl.Ex.mut e3 (Evl.fresh_back e3 hR)).trans e4) ?_ k1 k2 k3 k4
            rw [List.map_reverse]
            exact ft
          | succ r =>
            have hr1 : r < tr'.length := by
              have z := C.there
              rw [List.length_cons, List.length_map] at z
              omega
            obtain ⟨⟨k, p⟩, hkp⟩ : ∃ kp, tr'[r]? = some kp := ⟨_, List.getElem?_eq_getElem hr1⟩
            have hlast : c.getLast? = some k := by
              rw [C.end_, List.getElem?_cons_succ, List.getElem?_map, hkp]
              rfl
            have hD : DGet H3 W (iV k) (some (iV p)) := by
              have z := DGet.k (k := kI k) w3
              rw [dkt_tr nd2 hkp] at z
              exact z
            obtain ⟨r', hr', C'⟩ := C.step g2.s hkp
            refine ⟨_, rfl, _, rfl, _, rfl, F, _, _, _, rfl, rfl, SqL.of f3, atI_end hlast, W, _, rfl, hD, rfl, _, rfl, bran (fun _ => ?_) (fun z => by cases z)⟩
            refine ⟨fun σ H4 => σ = [some (.ref b), some (iV o), some (.ref W), some (.ref L), some (iV here), some (iV o), some (.ref F)] ∧ Ex H H4 ∧ H4 W = some (.dK (dkt o tr')) ∧ H4 F = some (.lst ((c ++ [p]).map iV)),
              fun σ' H4 ⟨z1, z2, z3, z4⟩ => ⟨r', hr', c ++ [p], z1, z2, z3, z4, C', ?_⟩, ?_⟩
            · rw [List.head?_append, hhd]
              rfl
            · refine ⟨_, rfl, .inl ⟨rfl, _, SqL.of f3⟩, _, rfl, _, rfl, _, rfl, F, _, _, _, rfl, rfl, SqL.of f3, atI_end hlast, W, _, rfl, hD, F, _, _, rfl, rfl, f3, ?_, rfl, Evl.Ex.mut e3 hF0, ?_, ?_⟩
              · rw [List.length_map, sizeLine_eq]
                omega
              · rw [upd_ne hWF]
                exact w3
              · rw [upd_same, List.map_append]
                rfl
        · have hne : o ≠ first := fun z => by
            have z2 := of_decide_eq_false he
            exact z2 (by rw [z])
          have hD : DGet H2 W (iV o) (valV (dkt first tr') (kI o)) := DGet.k (k := kI o) g2.w
          refine ⟨_, rfl, _, rfl, W, _, rfl, hD, _, rfl, bran (fun hn0 => ?_) (fun hn0 => ?_)⟩
          · have hno : o ∉ first :: tr'.map (·.1) := fun z => by
              rw [dkt_in nd2 z] at hn0
              cases hn0
            refine ⟨_, rfl, _, rfl, _, rfl, W, _, rfl, DPut.k (k := kI o) g2.w ?_, ?_⟩
            · show (dkt first tr').length < sizeLine
              unfold dkt trK
              rw [List.length_cons, List.length_map, sizeLine_eq]
              rw [List.length_cons, List.length_map] at hlen2
              omega
            · have hvs : first :: (tr' ++ [(o, here)]).map (·.1) = (first :: tr'.map (·.1)) ++ [o] := by rw [List.map_append]; rfl
              have hjl : j < (first :: tr'.map (·.1)).length := (List.getElem?_eq_some_iff.mp hh2).1
              have hl3 : (upd H2 W (.dK (putK (dkt first tr') (kI o) (iV here)))) L = some (.lst (((first :: tr'.map (·.1)).drop (j + 1)).map iV)) := by
                rw [upd_ne hLW]
                exact g2.l
              refine ⟨_, rfl, .inl ⟨rfl, _, SqL.of hl3⟩, _, rfl, L, _, _, rfl, rfl, hl3, ?_, tr' ++ [(o, here)], ⟨_, _, rfl⟩, ⟨Evl.Ex.mut (Evl.Ex.mut g2.ex hW) hL0, ?_, ?_, g2.s.add hoE (List.mem_of_getElem? hh2) hno, ?_⟩, ?_, ?_, ?_⟩
              · rw [List.length_map, List.length_drop, sizeLine_eq]
                omega
              · rw [upd_ne hWL, upd_same, dkt_put hno]
              · rw [upd_same, hvs, List.drop_append_of_le_length hjl, List.map_append]
                rfl
              · rw [hvs, List.length_append]
                exact Nat.le_trans hjl (Nat.le_add_right ..)
              · rw [hvs, List.getElem?_append_left hjl]
                exact hh2
              · intro a ha c hc
                rw [hvs, List.take_append_of_le_length (Nat.le_of_lt hjl)] at ha
                obtain ⟨z1, z2⟩ := cl2 a ha c hc
                exact ⟨by rw [hvs]; exact List.mem_append_left _ z1, z2⟩
              · intro c hc
                rw [take_snoc ho] at hc
                rcases List.mem_append.mp hc with z | z
                · obtain ⟨z1, z2⟩ := dn c z
                  exact ⟨by rw [hvs]; exact List.mem_append_left _ z1, z2⟩
                · rw [List.mem_singleton.mp z]
                  exact ⟨by rw [hvs]; exact List.mem_append_right _ (by simp), hne⟩
          · have hin : o ∈ first :: tr'.map (·.1) := Classical.byContradiction fun z => by
              rw [dkt_not z] at hn0
              cases hn0
            refine ⟨tr', ⟨_, _, rfl⟩, g2, hh2, cl2, fun c hc => ?_⟩
            rw [take_snoc ho] at hc
            rcases List.mem_append.mp hc with z | z
            · exact dn c z
            · rw [List.mem_singleton.mp z]
              exact ⟨hin, hne⟩
      · obtain ⟨tr', ⟨y5, y6, rfl⟩, g2, hh2, cl2, dn⟩ := p
        refine ⟨tr', ⟨_, _, _, rfl⟩, g2, fun a ha c hc => ?_⟩
        rw [take_snoc hh2] at ha
        rcases List.mem_append.mp ha with z | z
        · exact cl2 a z c hc
        · rw [List.mem_singleton.mp z] at hc
          refine dn c ?_
          rw [List.length_map, List.take_length]
          exact mem_succs.mpr hc
    · have hj : j = (first :: tr.map (·.1)).length := by
        have z := of_decide_eq_false hc
        have z2 := g.j
        rw [List.length_map, List.length_drop] at z
        omega
      refine q0 H' g.ex (closed_none (V := first :: tr.map (·.1)) (fun a ha c hc => cl a ?_ c hc) List.mem_cons_self)
      rw [hj, List.take_length]
      exact ha
-- ring_of: 0 many  1 pairs  2 behind  3 thing  4 found
theorem sc_ring_of : FnScope ["many", "pairs", "behind", "thing", "found"] ["many", "pairs"] (defScope (topS 20)) := ⟨rfl, rfl, rfl, by decide +kernel, rfl, by decide +kernel, by decide +kernel⟩
def spRingOf (K : PySem.W.Frag) : Sp := fun vs H Q _ => ∃ (n : Nat) (E : Edges) (v : V), vs = [iV n, v] ∧ Dx K H v (.tuple (E.map pD)) ∧ (∀ p ∈ E, p.1 < n ∧ p.2 < n ∧ p.1 ≠ p.2) ∧ n ≤ 1000 ∧ E.length ≤ 1000 ∧
  (∀ H', Ex H H' → (∀ a, ¬ Way E a a) → Q .non H') ∧ ∀ r l H', Ex H H' → SqT K H' r (l.map iV) → IsRing n E l → Q (.ref r) H'
theorem ok_ring_of : FnOk P w K mg base CX0 2 T.ring_of.f T.ring_of.fd ["many", "pairs"] (spRingOf K) := by
  have G_followers : FnOk P w K mg base CX0 1 T.followers.f T.followers.fd ["many", "pairs"] (spFollow K) := ok_followers T
  have G_ring_from : FnOk P w K mg base CX0 1 T.ring_from.f T.ring_from.fd ["behind", "first"] (spRingFrom K) := ok_ring_from T
  have G_begun_least : FnOk P w K mg base CX0 1 T.begun_least.f T.begun_least.fd ["items"] (spBegun K) := ok_begun_least T
  refine T.ring_of.F.ok sc_ring_of (fun vs H Q E h => ?_) (fun cdv A outer s H vs Q E hr h => ?_)
  · obtain ⟨n, B, v, rfl, _⟩ := h
    rfl
  · obtain ⟨n, B, v, rfl, hd, hB, hn, hl, q0, q1⟩ := h
    refine ⟨_, (pss_cons (ps_set (i := 2) sc_ring_of.nd rfl (.inl rfl) (pe_call G_followers (hr.mono (by decide)) (by rfl) T.followers.g T.followers.F.kp T.followers.b .nil pass0 (pa_cons (pv 0) (pa_cons (pv 1) pa_nil))))
    (pss_cons (ps_for PassesOwn.never rfl (pi_range1 (by rfl) T.m_range (pa_cons (pv 0) pa_nil)) (pg_name (i := 3) sc_ring_of.nd rfl (.inl rfl)) (pss_cons (ps_set (i := 4) sc_ring_of.nd rfl (.inl rfl) (pe_call G_ring_from (hr.mono (by decide)) (by rfl) T.ring_from.g T.ring_from.F.kp T.ring_from.b .nil pass0 (pa_cons (pv 2) (pa_cons (pv 3) pa_nil))))
    (pss_one (ps_if (pt_cmpR op_notN (pv 4) pe_non (nomark _)) (pss_one (ps_ret (pe_call G_begun_least (hr.mono (by decide)) (by rfl) T.begun_least.g T.begun_least.F.kp T.begun_least.b .nil pass0 (pa_cons (pv 4) pa_nil)))) pss_nil))))
    (pss_one (ps_ret pe_non)))), ?_⟩
    refine ⟨_, rfl, _, rfl, n, B, v, rfl, hd, hB, hn, hl, fun b H1 e1 hb => ?_⟩
    refine ⟨_, rfl, (n : Int), rfl, by omega, by omega, ?_⟩
    refine for_range (lo := 0) (n := (n : Int).toNat) (fun i σ H2 => (∃ y3 y4, σ = [some (iV n), some v, some (.ref b), y3, y4]) ∧ Ex H1 H2 ∧ ∀ a, a < i → ¬ Way B a a) ⟨⟨_, _, rfl⟩, Ex.refl _, fun a ha => absurd ha (Nat.not_lt_zero _)⟩ (fun i σ H2 hi p => ?_) (fun σ H2 p => ?_)
    · obtain ⟨⟨y3, y4, rfl⟩, e2, no⟩ := p
      have hi' : i < n := by omega
      refine ⟨_, rfl, _, rfl, b, i, n, B, ?_, hb.ex e2, hB, hi', hn, hl, fun H3 e3 hno => ?_, fun r l H3 e3 ft k1 k2 k3 k4 => ?_⟩
      · show _ = [V.ref b, V.int (i : Int)]
        rw [Int.zero_add]
        rfl
      · refine ⟨_, rfl, rfl, _, rfl, bran (fun z => by cases z) (fun _ => ?_)⟩
        refine ⟨⟨_, _, rfl⟩, e2.trans e3, fun a ha => ?_⟩
        by_cases hai : a = i
        · rw [hai]
          exact hno
        · exact no a (by omega)
      · refine ⟨_, rfl, rfl, _, rfl, bran (fun _ => ?_) (fun z => by cases z)⟩
        refine ⟨_, rfl, r, l, rfl, ft, by omega, ?_, fun at_ r2 H4 hat hm e4 ht => ?_⟩
        · have z := nodup_lt k3 k2
          omega
        · exact q1 r2 _ H4 (((e1.trans e2).trans e3).trans e4) ht (turned_ring k1 k2 k3 k4 hat hm)
    · obtain ⟨⟨y3, y4, rfl⟩, e2, no⟩ := p
      refine q0 H2 (e1.trans e2) fun a wa => no a ?_ wa
      have z := (wa.lt hB).1
      omega
end
end K3
set_option Elab.async false
set_option linter.all false
set_option maxRecDepth 100000
set_option maxHeartbeats 4000000
/-! right books as data; rings as data. -/
namespace K3
open PySem PySem.Spec PyProof.Rows L2
open Evl (Ex)
theorem lex_two {a b c d : Int} : HT.lexLt [a, b] [c, d] = true ↔ a < c ∨ (a = c ∧ b < d) := by
  rw [HT.lexLt_cons, HT.lexLt_cons, HT.lexLt_nil_nil]
  by_cases h : a = c
  · rw [if_pos h]
    by_cases h2 : b = d
    · rw [if_pos h2]
      constructor
      · intro z
        cases z
      · intro z
        omega
    · rw [if_neg h2, decide_eq_true_iff]
      omega
  · rw [if_neg h, decide_eq_true_iff]
    omega
/-- the pair of a datum -/
def pN : PyData → Nat × Nat
  | .tuple [.int a, .int b] => (a.toNat, b.toNat)
  | _ => (0, 0)
theorem wrong_pairs {n : Int} {ds : List PyData} (h : firstWrong n (.tuple ds) = none) {i : Nat} (hi : i < ds.length) : wrongAt n ds i = false := by
  have q : (List.range ds.length).find? (wrongAt n ds) = none := by
    cases e : (List.range ds.length).find? (wrongAt n ds) with
    | none => rfl
    | some x =>
      have h' : ((List.range ds.length).find? (wrongAt n ds)).map (fun i => (i : Int)) = none := h
      rw [e] at h'
      cases h'
  have z := List.find?_eq_none.mp q i (List.mem_range.mpr hi)
  simpa using z
theorem entry_at {n : Nat} {ds : List PyData} (h : firstWrong (n : Int) (.tuple ds) = none) {i : Nat} (hi : i < ds.length) :
    ∃ p : Nat × Nat, ds[i]? = some (pD p) ∧ pN ds[i] = p ∧ p.1 < n ∧ p.2 < n ∧ p.1 ≠ p.2 := by
  have w := wrong_pairs h hi
  unfold wrongAt at w
  rw [Bool.or_eq_false_iff] at w
  have hen : isEntryD (n : Int) (ds.getD i .none) = true := by
    have z := w.1
    cases hb : isEntryD (n : Int) (ds.getD i .none) with
    | true => rfl
    | false => rw [hb] at z; cases z
  obtain ⟨a, b, e, a1, a2, b1, b2, ne⟩ := entry_of hen
  rw [List.getD_eq_getElem?_getD, List.getElem?_eq_getElem hi, Option.getD_some] at e
  refine ⟨(a.toNat, b.toNat), ?_, by rw [e]; rfl, by show a.toNat < n; omega, by show b.toNat < n; omega, by show a.toNat ≠ b.toNat; omega⟩
  rw [List.getElem?_eq_getElem hi, e]
  unfold pD
  show _ = some (PyData.tuple [PyData.int ((a.toNat : Nat) : Int), PyData.int ((b.toNat : Nat) : Int)])
  rw [Int.toNat_of_nonneg a1, Int.toNat_of_nonneg b1]
theorem ltD_pD {p q : Nat × Nat} : ltD (pD p) (pD q) = true ↔ lt2 p q := by
  show HT.lexLt [(p.1 : Int), (p.2 : Int)] [(q.1 : Int), (q.2 : Int)] = true ↔ _
  rw [lex_two]
  unfold lt2
  omega
theorem lt2_trans {p q r : Nat × Nat} (a : lt2 p q) (b : lt2 q r) : lt2 p r := by
  unfold lt2 at *
  omega
theorem asc_of {E : Edges} (h : ∀ i p q, E[i]? = some p → E[i + 1]? = some q → lt2 p q) : E.Pairwise lt2 := by
  refine List.pairwise_iff_getElem.mpr fun i j hi hj hij => ?_
  have key : ∀ k, ∀ (hk : i + 1 + k < E.length), lt2 E[i] E[i + 1 + k] := by
    intro k
    induction k with
    | zero => exact fun hk => h i _ _ (List.getElem?_eq_getElem hi) (List.getElem?_eq_getElem hk)
    | succ k ih =>
      intro hk
      exact lt2_trans (ih (by omega)) (h (i + 1 + k) _ _ (List.getElem?_eq_getElem (by omega)) (List.getElem?_eq_getElem hk))
  have e : j = i + 1 + (j - i - 1) := by omega
  have z := key (j - i - 1) (by omega)
  simpa [← e] using z
/-- what is let by is a right book -/
theorem first_none {n : Nat} {dt : PyData} (h : firstWrong (n : Int) dt = none) : ∃ E : Edges, dt = .tuple (E.map pD) ∧ Bk n E := by
  cases dt with
  | tuple ds =>
    have e : ds = (ds.map pN).map pD := by
      refine List.ext_getElem? fun i => ?_
      by_cases hi : i < ds.length
      · obtain ⟨p, h1, h2, _⟩ := entry_at h hi
        rw [h1, List.map_map, List.getElem?_map, List.getElem?_eq_getElem hi]
        show _ = some (pD (pN ds[i]))
        rw [h2]
      · rw [List.getElem?_eq_none (by omega), List.getElem?_eq_none (by rw [List.length_map, List.length_map]; omega)]
    refine ⟨ds.map pN, by rw [← e], ⟨fun p hp => ?_, asc_of fun i p q hp hq => ?_⟩⟩
    · obtain ⟨d, hd, rfl⟩ := List.mem_map.mp hp
      obtain ⟨i, hi, rfl⟩ := List.getElem_of_mem hd
      obtain ⟨p, h1, h2, h3⟩ := entry_at h hi
      rw [h2]
      exact h3
    · rw [List.getElem?_map] at hp hq
      have hj : i + 1 < ds.length := by
        refine Classical.byContradiction fun z => ?_
        rw [List.getElem?_eq_none (by omega)] at hq
        cases hq
      have hi : i < ds.length := by omega
      obtain ⟨p', h1, h2, _⟩ := entry_at h hi
      obtain ⟨q', g1, g2, _⟩ := entry_at h hj
      rw [List.getElem?_eq_getElem hi] at hp
      rw [List.getElem?_eq_getElem hj] at hq
      have ep : p' = p := h2.symm.trans (Option.some.inj hp)
      have eq : q' = q := g2.symm.trans (Option.some.inj hq)
      subst ep eq
      have w := wrong_pairs h hj
      unfold wrongAt at w
      rw [Bool.or_eq_false_iff] at w
      have z := w.2
      rw [decide_eq_true (Nat.succ_pos i), Bool.true_and] at z
      rw [List.getD_eq_getElem?_getD, List.getD_eq_getElem?_getD, Nat.add_sub_cancel, h1, g1] at z
      refine ltD_pD.mp ?_
      simpa using z
  | _ => cases h
theorem bk_first {n : Nat} {E : Edges} (h : Bk n E) : firstWrong (n : Int) (.tuple (E.map pD)) = none := by
  show ((List.range (E.map pD).length).find? (wrongAt n (E.map pD))).map (fun i => (i : Int)) = none
  rw [find_none fun i hi => ?_]
  · rfl
  · rw [List.length_map] at hi
    have g : ∀ j, (hj : j < E.length) → (E.map pD).getD j .none = pD E[j] := fun j hj => by
      rw [List.getD_eq_getElem?_getD, List.getElem?_map, List.getElem?_eq_getElem hj]
      rfl
    unfold wrongAt
    rw [g i hi, Bool.or_eq_false_iff]
    obtain ⟨h1, h2, h3⟩ := h.lt _ (List.getElem_mem hi)
    constructor
    · have z : isEntryD (n : Int) (pD E[i]) = true := by
        show (decide ((0 : Int) ≤ ((E[i].1 : Nat) : Int)) && decide (((E[i].1 : Nat) : Int) ≤ (n : Int) - 1) && (decide ((0 : Int) ≤ ((E[i].2 : Nat) : Int)) && decide (((E[i].2 : Nat) : Int) ≤ (n : Int) - 1)) && !decide (((E[i].1 : Nat) : Int) = ((E[i].2 : Nat) : Int))) = true
        rw [decide_eq_true (by omega), decide_eq_true (by omega), decide_eq_true (by omega), decide_eq_true (by omega), decide_eq_false (by omega)]
        rfl
      rw [z]
      rfl
    · by_cases h0 : 0 < i
      · have z : ltD (pD E[i - 1]) (pD E[i]) = true := ltD_pD.mpr (List.pairwise_iff_getElem.mp h.asc (i - 1) i (by omega) hi (by omega))
        rw [g (i - 1) (by omega), z, decide_eq_true h0]
        rfl
      · rw [decide_eq_false h0]
        rfl
/-! ### rings as data -/
def inE (E : Edges) (a b : Int) : Bool := E.any fun p => ((p.1 : Int) == a) && ((p.2 : Int) == b)
theorem inE_iff {E : Edges} {a b : Nat} : inE E (a : Int) (b : Int) = true ↔ (a, b) ∈ E := by
  unfold inE
  rw [List.any_eq_true]
  constructor
  · rintro ⟨⟨x, y⟩, h, q⟩
    simp only [Bool.and_eq_true, beq_iff_eq] at q
    have e1 : x = a := by omega
    have e2 : y = b := by omega
    subst e1 e2
    exact h
  · intro h
    exact ⟨(a, b), h, by simp⟩
theorem any_pD {E : Edges} {a b : Int} : ((E.map pD).any fun z => PyData.eqv z (.tuple [.int a, .int b])) = inE E a b := by
  unfold inE
  rw [List.any_map]
  congr 1
  funext p
  show PyData.eqv (.tuple [.int (p.1 : Int), .int (p.2 : Int)]) (.tuple [.int a, .int b]) = _
  simp [PyData.eqv, PyData.eqvAll]
theorem lay_pD : ∀ E : Edges, PyData.canLayAll0 (E.map pD) = true
  | [] => by simp [PyData.canLayAll0]
  | p :: E => by simp [PyData.canLayAll0, PyData.canLay0, pD, lay_pD E]
def iD : PyData → Int
  | .int i => i
  | _ => 0
def prv (ns : List Int) (i : Nat) : Int := if i = 0 then ns.getLastD 0 else ns.getD (i - 1) 0
def cycN (E : Edges) (ns : List Int) (i : Nat) : Bool := inE E (prv ns i) (ns.getD i 0)
def isRingN (E : Edges) (ns : List Int) : Bool := decide ns.Nodup && ns.all (fun y => decide (ns.headD 0 ≤ y)) && (List.range ns.length).all (cycN E ns)
def isRingD (n : Int) (E : Edges) : PyData → Bool
  | .tuple ds => decide (2 ≤ ds.length) && ds.all (isBelowD n) && isRingN E (ds.map iD)
  | _ => false
theorem below_ints {n : Int} : ∀ {ds : List PyData}, ds.all (isBelowD n) = true → ds = (ds.map iD).map PyData.int ∧ ∀ k ∈ ds.map iD, 0 ≤ k ∧ k ≤ n - 1
  | [], _ => ⟨rfl, fun k hk => by cases hk⟩
  | d :: ds, h => by
    rw [List.all_cons, Bool.and_eq_true] at h
    obtain ⟨e, q⟩ := below_ints h.2
    obtain ⟨i, rfl, h1, h2⟩ := within_int (d := d) h.1
    refine ⟨?_, fun k hk => ?_⟩
    · rw [List.map_cons, List.map_cons, ← e]
      rfl
    · rcases List.mem_cons.mp hk with z | z
      · rw [z]
        exact ⟨h1, h2⟩
      · exact q k z
/-- a ring is one by the data, too -/
theorem isRing_D {n : Nat} {E : Edges} {l : List Nat} (h : IsRing n E l) : isRingD (n : Int) E (.tuple (l.map fun (x : Nat) => PyData.int (x : Int))) = true := by
  show (decide (2 ≤ (l.map fun (x : Nat) => PyData.int (x : Int)).length) && (l.map fun (x : Nat) => PyData.int (x : Int)).all (isBelowD n) && isRingN E ((l.map fun (x : Nat) => PyData.int (x : Int)).map iD)) = true
  rw [Bool.and_eq_true, Bool.and_eq_true]
  refine ⟨⟨decide_eq_true (by rw [List.length_map]; exact h.two), List.all_eq_true.mpr fun d hd => ?_⟩, ?_⟩
  · obtain ⟨x, hx, rfl⟩ := List.mem_map.mp hd
    have hl := h.lt x hx
    show (decide ((0 : Int) ≤ (x : Int)) && decide ((x : Int) ≤ (n : Int) - 1)) = true
    rw [decide_eq_true (by omega), decide_eq_true (by omega)]
    rfl
  · have e : (l.map fun (x : Nat) => PyData.int (x : Int)).map iD = l.map fun (x : Nat) => (x : Int) := by
      rw [List.map_map]
      rfl
    rw [e]
    have hne : l ≠ [] := fun z => by
      have q := h.two
      rw [z] at q
      simp at q
    unfold isRingN
    rw [Bool.and_eq_true, Bool.and_eq_true]
    refine ⟨⟨decide_eq_true ?_, List.all_eq_true.mpr fun y hy => ?_⟩, List.all_eq_true.mpr fun i hi => ?_⟩
    · refine List.pairwise_map.mpr (h.nd.imp fun {a b} z e => z ?_)
      omega
    · obtain ⟨x, hx, rfl⟩ := List.mem_map.mp hy
      refine decide_eq_true ?_
      have z := h.least x hx
      cases l with
      | nil => exact absurd rfl hne
      | cons a r =>
        show (a : Int) ≤ (x : Int)
        have z' : a ≤ x := z
        omega
    · rw [List.length_map] at hi
      have hi := List.mem_range.mp hi
      have g : ∀ j, (hj : j < l.length) → (l.map fun (x : Nat) => (x : Int)).getD j 0 = ((l[j] : Nat) : Int) := fun j hj => by
        rw [List.getD_eq_getElem?_getD, List.getElem?_map, List.getElem?_eq_getElem hj]
        rfl
      unfold cycN prv
      rw [g i hi]
      have cyc := lk_ix.mp h.cyc
      by_cases h0 : i = 0
      · subst h0
        rw [if_pos rfl]
        have e2 : (l.map fun (x : Nat) => (x : Int)).getLastD 0 = ((l[l.length - 1]'(by omega) : Nat) : Int) := by
          rw [List.getLastD_eq_getLast?, List.getLast?_map, List.getLast?_eq_getElem?, List.getElem?_eq_getElem (by omega)]
          rfl
        rw [e2]
        refine inE_iff.mpr (cyc (l.length - 1) _ _ ?_ ?_)
        · rw [List.getElem?_append_left (by omega), List.getElem?_eq_getElem (by omega)]
        · have e3 : l.length - 1 + 1 = l.length := by omega
          rw [e3, List.getElem?_append_right (Nat.le_refl _), Nat.sub_self]
          cases l with
          | nil => exact absurd rfl hne
          | cons a r => rfl
      · rw [if_neg h0, g (i - 1) (by omega)]
        refine inE_iff.mpr (cyc (i - 1) _ _ ?_ ?_)
        · rw [List.getElem?_append_left (by omega), List.getElem?_eq_getElem (by omega)]
        · have e3 : i - 1 + 1 = i := by omega
          rw [e3, List.getElem?_append_left hi, List.getElem?_eq_getElem hi]
/-! ### sets of ints -/
theorem perm_of_len : ∀ {l r : List Int}, l.Nodup → (∀ x ∈ l, x ∈ r) → r.length ≤ l.length → r.Perm l
  | [], r, _, _, h => by
    have e : r = [] := List.length_eq_zero_iff.mp (Nat.le_zero.mp h)
    rw [e]
  | x :: l, r, hn, hs, h => by
    have hx : x ∈ r := hs x List.mem_cons_self
    obtain ⟨h1, h2⟩ := List.nodup_cons.mp hn
    have e := List.length_erase_of_mem hx
    have pos : 0 < r.length := List.length_pos_of_mem hx
    have q : (r.erase x).length ≤ l.length := by
      rw [List.length_cons] at h
      omega
    have p := perm_of_len (r := r.erase x) h2 (fun y hy => by
      have hne : y ≠ x := fun e => h1 (e ▸ hy)
      exact (List.mem_erase_of_ne hne).mpr (hs y (List.mem_cons_of_mem _ hy))) q
    exact (List.perm_cons_erase hx).trans (p.cons x)
theorem set_len {ds ns : List Int} (hn : ds.Nodup) (h : ∀ k, k ∈ ds ↔ k ∈ ns) : ds.length = ns.length ↔ ns.Nodup := by
  constructor
  · intro e
    exact (perm_of_len hn (fun x hx => (h x).mp hx) (by omega)).nodup_iff.mpr hn
  · intro hn2
    exact ((List.perm_ext_iff_of_nodup hn hn2).mpr h).length_eq
def tLenSetT (K : PySem.W.Frag) (ta : TE) : TE := fun σ H Q => ta σ H fun x H1 => ∃ (l : Addr) (ns : List Int), x = .ref l ∧ SqT K H1 l (ns.map V.int) ∧ ns.length ≤ 4000 ∧ ∀ ds : List Int, ds.Nodup → (∀ k, k ∈ ds ↔ k ∈ ns) → Q (.int (ds.length : Nat)) H1
theorem pe_lenSetT {X : Cx} {a : Expr} {ta : TE} {p p2 q pos : Pos} (hc : X.calm = true) (hg : Gl X "len") (hm : X.mg "len" = none) (hg2 : Gl X "set") (hm2 : X.mg "set" = none) (ha : PE X a ta)
    (na : starEach [a] X.env = (false, eval a X.env) :: starEach [] X.env := by rfl) : PE X (.Call (.Name "len" p) [.Call (.Name "set" p2) [a] [] q] [] pos) (tLenSetT X.K ta) := by
  refine ⟨fun pins s σ H Q I h => ?_⟩
  refine Call_ (ld_blt I hg hm PySem.boot_len ?_)
  refine PyProof.Rows.callWith_builtin1 (PyProof.Rows.args_cons ?_ rfl) rfl rfl
  refine Call_ (ld_blt I hg2 hm2 PyProof.Rows.boot_set ?_)
  refine PyProof.Rows.callWith_type1 (PyProof.Rows.args_cons (thn (ha.run pins s σ H _ I h) fun v s1 ⟨x, H1, I1, r1, q1⟩ => PyProof.Rows.args_nil ?_) na) na rfl
  obtain ⟨l, ns, rfl, hq, h1, q1⟩ := q1
  cases r1
  obtain ⟨its, r, pl, hz⟩ := I1.tuple hq
  have hl : its.toArray.size = ns.length := by rw [List.size_toArray, ← r.length, List.length_map]
  refine call_set_tupI ns (I1.ok.hd hc) pl (by simpa using r.ints) (by unfold scanBound; omega) fun h' tk c hS hcn hk => ?_
  refine PyProof.Rows.args_nil ?_
  obtain ⟨o, es, ep, t, ho, hex, hd, _, hnd, hmem, _, hf, hn, _⟩ := hS
  have I2 : Inv X pins σ H1 { s1 with heap := h', toks := tk } := I1.kept fun b o e => hk b o e
  have fin := q1 (es.toList.map keyOf) hnd fun k => by
    rw [← hmem k]
    simp
  refine call_len_set ho hex hd hf (by rw [hn] <;> omega) ⟨.int _, H1, I2.tok _, ⟨_, rfl⟩, ?_⟩
  rw [List.length_map, Array.length_toList] at fin
  exact fin
end K3
set_option Elab.async false
set_option linter.all false
set_option maxRecDepth 100000
set_option maxHeartbeats 4000000
/-! ring, is_ring_of, is_ring. -/
namespace K3
open PySem PySem.Spec PyProof.Rows L2
open Evl (Ex)
theorem hu65 {A : Around} {k : Nat} (hr : Room k A) : A.units + 65 < cLine := by
  have := hr.un
  omega
theorem ne_of_fresh {H : Hp} {a b : Addr} {o : HO} (h : H a = none) (h2 : H b = some o) : a ≠ b := fun z => by
  rw [z, h2] at h
  cases h
theorem dx_dp {K : PySem.W.Frag} {H : Hp} {v : V} {ds : List PyData} (h : Dx K H v (.tuple ds)) : Dp K H v (.tuple ds) := by
  rcases h with h | ⟨_, _, _, h⟩
  · exact h
  · cases h
theorem shaped_two {a b : Int} : SeqAt.shaped (.tuple [.int a, .int b]) = true := by
  simp [SeqAt.shaped, PyData.canLay0, PyData.canLayAll0, PyData.depth, PyData.depthAll]
theorem dpAll_ints {K : PySem.W.Frag} {H : Hp} : ∀ {ns : List Int} {xs : List V}, DpAll K H xs (ns.map PyData.int) → xs = ns.map V.int
  | [], _, h => by cases h; rfl
  | n :: ns, _, h => by
    cases h with
    | cons h1 h2 =>
      cases h1
      rw [dpAll_ints h2]
      rfl
def lenD : PyData → Nat
  | .tuple ds => ds.length
  | _ => 0
/-- a right size and a right book of it -/
structure RightB (dm dt : PyData) (n : Nat) (B : Edges) : Prop where
  m : dm = .int (n : Int)
  lo : 1 ≤ n
  hi : n ≤ 40
  t : dt = .tuple (B.map pD)
  bk : Bk n B
  len : B.length ≤ 1000
theorem right_of {dm dt : PyData} {k : Int} (hw : isWithinD 1 40 dm = true) (e : dm = .int k) (h : firstWrong k dt = none) (hl : lenD dt ≤ 1000) : ∃ n B, k = ((n : Nat) : Int) ∧ RightB dm dt n B := by
  obtain ⟨i, ei, h1, h2⟩ := within_int hw
  rw [e] at ei
  have ek : k = i := PyData.int.inj ei
  subst ek
  obtain ⟨n, rfl⟩ : ∃ n : Nat, k = (n : Int) := ⟨k.toNat, by omega⟩
  obtain ⟨B, rfl, hb⟩ := first_none h
  refine ⟨n, B, rfl, e, by omega, by omega, rfl, hb, ?_⟩
  have z : lenD (.tuple (B.map pD)) = B.length := List.length_map ..
  rw [z] at hl
  exact hl
section
variable {P : Program} {w : World} {K : PySem.W.Frag} {mg : Str → Option Value} {base : Heap} (T : Txt K mg) (Y : XTxt K mg)
-- ring: 0 many  1 book
theorem sc_ring : FnScope ["many", "book"] ["many", "book"] (defScope (topS 21)) := ⟨rfl, rfl, rfl, by decide +kernel, rfl, by decide +kernel, by decide +kernel⟩
def spRing (Y : XTxt K mg) : Sp := fun vs H Q E => ∃ vm dm vt dt, vs = [vm, vt] ∧ Dx K H vm dm ∧ Dx K H vt dt ∧ lenD dt ≤ 1000 ∧ bookErr Y dm dt H E ∧ ∀ n B, RightB dm dt n B →
  (∀ H', Ex H H' → (∀ a, ¬ Way B a a) → Q .non H') ∧ ∀ r l H', Ex H H' → SqT K H' r (l.map iV) → IsRing n B l → Q (.ref r) H'
theorem ok_ring : FnOk P w K mg base (L2.CX P w) 7 T.ring.f T.ring.fd ["many", "book"] (spRing Y) := by
  have G_check_book : FnOk P w K mg base (L2.CX P w) 6 T.check_book.f T.check_book.fd ["many", "thing"] (spBook Y) := ok_check_book T Y
  have G_ring_of : FnOk P w K mg base CX0 2 T.ring_of.f T.ring_of.fd ["many", "pairs"] (spRingOf K) := ok_ring_of T
  refine T.ring.F.okX sc_ring (fun vs H Q E h => ?_) (fun cdv A outer s H vs Q E hr h => ?_)
  · obtain ⟨vm, dm, vt, dt, rfl, _⟩ := h
    rfl
  · obtain ⟨vm, dm, vt, dt, rfl, hm, ht, hl, q1, q2⟩ := h
    refine ⟨_, (pss_cons (ps_expr (pe_call G_check_book (hr.mono (by decide)) (by rfl) T.check_book.g T.check_book.F.kp T.check_book.b .nil (passes_call (takes_of rfl rfl rfl rfl) fun _ _ _ _ h => h) (pa_cons (pv 0) (pa_cons (pv 1) pa_nil))))
    (pss_one (ps_ret (pe_call G_ring_of (hr.mono (by decide)) (by rfl) T.ring_of.g T.ring_of.F.kp T.ring_of.b .nil pass0 (pa_cons (pv 0) (pa_cons (pv 1) pa_nil)))))), ?_⟩
    refine ⟨_, rfl, _, rfl, vm, dm, vt, dt, rfl, hm, ht, q1, fun hw k e hf H1 e1 => ?_⟩
    obtain ⟨n, B, rfl, R⟩ := right_of hw e hf hl
    obtain ⟨g0, g1⟩ := q2 n B R
    have hm' := hm
    rw [e] at hm'
    have em := dx_int hm'
    subst em
    refine ⟨_, rfl, _, rfl, n, B, vt, rfl, ?_, R.bk.lt, Nat.le_trans R.hi (by decide), R.len, fun H2 e2 no => g0 H2 (e1.trans e2) no, fun r l H2 e2 h1 h2 => g1 r l H2 (e1.trans e2) h1 h2⟩
    rw [← R.t]
    exact ht.ex e1
-- is_ring_of: 0 many  1 pairs  2 thing  3 item  4 at
theorem sc_is_ring_of : FnScope ["many", "pairs", "thing", "item", "at"] ["many", "pairs", "thing"] (defScope (topS 22)) := ⟨rfl, rfl, rfl, by decide +kernel, rfl, by decide +kernel, by decide +kernel⟩
def spIsRingOf (K : PySem.W.Frag) : Sp := fun vs H Q _ => ∃ (n : Nat) (B : Edges) (v x : V) (dx : PyData), vs = [iV n, v, x] ∧ Dx K H v (.tuple (B.map pD)) ∧ Dx K H x dx ∧ lenD dx ≤ 1000 ∧ ∀ H', Ex H H' → Q (.bl (isRingD n B dx)) H'
theorem ok_is_ring_of : FnOk P w K mg base CX0 4 T.is_ring_of.f T.is_ring_of.fd ["many", "pairs", "thing"] (spIsRingOf K) := by
  have G_is_below : FnOk P w K mg base CX0 3 T.is_below.f T.is_below.fd ["thing", "many"] (spBelow K) := ok_is_below T
  refine T.is_ring_of.F.ok sc_is_ring_of (fun vs H Q E h => ?_) (fun cdv A outer s H vs Q E hr h => ?_)
  · obtain ⟨n, B, v, x, dx, rfl, _⟩ := h
    rfl
  · obtain ⟨n, B, v, x, dx, rfl, hv, hx, hl, q⟩ := h
    refine ⟨_, (pss_cons (ps_if (PW.pt (pw_or (pt_not (pt_val (pe_callB call_isi (by rfl) T.m_isinstance boot_isinstance (pa_cons (pv 2) (pa_cons (pe_bltn (v := .ty "tuple") (by rfl) T.m_tuple boot_tuple rfl) pa_nil))))) (pw_or (pt_cmpR op_lt (pe_callB call_len_seq (by rfl) T.m_len PySem.boot_len (pa_cons (pv 2) pa_nil)) pe_int (nomark _)) (pw_or1 (pt_not (pt_val (pe_callB (cr_all rfl) (by rfl) T.m_all boot_all (pa_cons (pe_lc (own := [("item", 3)]) rfl sc_is_ring_of.nd (pi_tup (pv 2)) (blkOk_by (own := [("item", 3)]) (N := ["many", "pairs", "thing", "item", "at"]) (sc := defScope (topS 22)) (by decide +kernel)) (fun _ _ _ _ _ => (pg_name (i := 3) sc_is_ring_of.nd rfl (.inl rfl))) (fun _ _ _ _ _ => pts_nil) (fun _ _ _ _ _ => (pe_call G_is_below (hr.mono (by decide)) (by rfl) T.is_below.g T.is_below.F.kp T.is_below.b .nil pass0 (pa_cons (pv 3) (pa_cons (pv 0) pa_nil))))) pa_nil)))))))) (pss_one (ps_ret pe_bl)) pss_nil)
    (pss_cons (ps_if (PW.pt (pw_or (pt_cmpR op_ne (pe_lenSetT rfl (by rfl) T.m_len (by rfl) T.m_set (pv 2)) (pe_callB call_len_seq (by rfl) T.m_len PySem.boot_len (pa_cons (pv 2) pa_nil)) (nomark _)) (pw_or1 (pt_cmpR op_ne (pe_ix ix_tup (pv 2) pe_int (fun _ _ => rfl)) (pe_callB (cr_minT rfl) (by rfl) T.m_min boot_min (pa_cons (pv 2) pa_nil)) (nomark _))))) (pss_one (ps_ret pe_bl)) pss_nil)
    (pss_one (ps_ret (pe_callB (cr_all rfl) (by rfl) T.m_all boot_all (pa_cons (pe_lc (g := gTup K 2 _) (own := [("at", 4), ("item", 3)]) rfl sc_is_ring_of.nd (pi_enumT (by rfl) T.m_enumerate (pa_cons (pv 2) pa_nil)) (blkOk_by (own := [("at", 4), ("item", 3)]) (N := ["many", "pairs", "thing", "item", "at"]) (sc := defScope (topS 22)) (by decide +kernel)) (fun _ _ _ _ _ => (pg_tup rfl (pgs_cons (pg_name (i := 4) sc_is_ring_of.nd rfl (.inl rfl)) (pgs_cons (pg_name (i := 3) sc_is_ring_of.nd rfl (.inl rfl)) pgs_nil)))) (fun _ _ _ _ _ => pts_nil) (fun _ _ _ _ _ => (pe_cmpR (r := rInDT K) (op_inDT (hu65 hr)) (pe_tup (pa_cons (pe_ix (r := rIxT K) ix_tup (pv 2) (pe_op op_sub (pv 4) pe_int) (fun _ _ => rfl)) (pa_cons (pv 3) pa_nil))) (pv 1) (by rfl)))) pa_nil)))))), ?_⟩
    refine ⟨_, rfl, x, .ty "tuple", _, _, _, rfl, .ty "tuple", hx.ty, kit_tup dx, _, rfl, ?_⟩
    cases dx with
    | tuple ds =>
      obtain ⟨a, xs, rfl, hs, ha⟩ := dx_tup hx
      have hlen := dpAll_len ha
      have hl' : ds.length ≤ 1000 := hl
      refine iteF ⟨_, rfl, a, xs, rfl, .inr hs, ?_⟩
      refine ⟨_, _, rfl, rfl, _, rfl, bran (fun hc => ?_) (fun hc => ?_)⟩
      · have h2 : xs.length < 2 := by
          have z := of_decide_eq_true hc
          omega
        refine iteT ?_
        have z := q H (Ex.refl H)
        have e : isRingD n B (.tuple ds) = false := by
          show (decide (2 ≤ ds.length) && ds.all (isBelowD n) && isRingN B (ds.map iD)) = false
          rw [decide_eq_false (by omega)]
          rfl
        rw [e] at z
        exact z
      · have h2 : 2 ≤ ds.length := by
          have z := of_decide_eq_false hc
          omega
        refine ⟨_, rfl, a, rfl, ⟨xs, hs⟩, fun D hD => ?_⟩
        refine lc_tup (xs := xs) (fun i H' => Ex H H' ∧ H' D = some (.lst (((ds.take i).map (isBelowD n)).map V.bl))) ⟨Ex.new hD, upd_same⟩ (fun i H' _ p => Evl.ex_t p.1 hs) (fun i y H' hy p => ?_) (fun H' p => ?_)
        · obtain ⟨e1, h3⟩ := p
          have hid : i < ds.length := by
            have z := (List.getElem?_eq_some_iff.mp hy).1
            omega
          obtain ⟨y', hy', hdy⟩ := dpAll_get ha (List.getElem?_eq_getElem hid)
          rw [hy] at hy'
          cases hy'
          refine ⟨rfl, yes_go ⟨_, rfl, _, rfl, y, ds[i], n, rfl, .of (dp_ex e1 _ _ hdy), _, h3, ?_, Ex.mut e1 hD, ?_⟩⟩
          · rw [List.length_map, List.length_map, List.length_take, sizeLine_eq]
            omega
          · rw [upd_same, take_snoc (List.getElem?_eq_getElem hid), List.map_append, List.map_append]
            rfl
        · obtain ⟨e1, h3⟩ := p
          rw [hlen, List.take_length] at h3
          have no : ∀ c, (decide (2 ≤ ds.length) && ds.all (isBelowD n) && isRingN B (ds.map iD)) = c → ∀ H', Ex H H' → Q (.bl c) H' := fun c e H' ex => by
            rw [← e]
            exact q H' ex
          refine ⟨D, _, rfl, SqL.of h3, _, rfl, ?_⟩
          cases hb : ds.all (isBelowD n) with
          | false =>
            have e : (((ds.map (isBelowD n)).all id)) = false := by
              rw [List.all_map, ← hb]
              rfl
            rw [e]
            refine iteT ?_
            refine no false ?_ H' e1
            rw [hb, Bool.and_false]
            rfl
          | true =>
            have e : (((ds.map (isBelowD n)).all id)) = true := by
              rw [List.all_map, ← hb]
              rfl
            rw [e]
            refine iteF ?_
            obtain ⟨eds, hin⟩ := below_ints hb
            rw [eds] at ha
            have exs := dpAll_ints ha
            have hs1 : SqT K H' a ((ds.map iD).map V.int) := by
              rw [← exs]
              exact Evl.ex_t e1 hs
            have hnl : (ds.map iD).length = ds.length := List.length_map ..
            refine ⟨_, rfl, a, ds.map iD, rfl, hs1, by omega, fun us hus hmem => ?_⟩
            refine ⟨_, rfl, a, _, rfl, .inr hs1, rfl, _, rfl, ?_⟩
            rw [List.length_map]
            have ring : ∀ c, isRingN B (ds.map iD) = c → ∀ H', Ex H H' → Q (.bl c) H' := fun c e H' ex => by
              refine no c ?_ H' ex
              rw [hb, decide_eq_true h2, e]
              rfl
            by_cases hnd : (ds.map iD).Nodup
            · have e2 : (!decide (V.int ((us.length : Nat) : Int) = V.int (((ds.map iD).length : Nat) : Int))) = false := by
                rw [decide_eq_true (by rw [(set_len hus hmem).mpr hnd])]
                rfl
              rw [e2]
              refine iteF ?_
              obtain ⟨h0, rest, en⟩ : ∃ h0 rest, ds.map iD = h0 :: rest := by
                cases ez : ds.map iD with
                | nil =>
                  rw [ez] at hnl
                  simp at hnl
                  omega
                | cons x r => exact ⟨x, r, rfl⟩
              have hat0 : atI ((ds.map iD).map V.int) ((0 : Nat) : Int) = some (.int h0) := atI_nat (by rw [en]; rfl)
              refine ⟨_, rfl, a, _, 0, _, rfl, rfl, hs1, hat0, _, rfl, a, ds.map iD, rfl, hs1, by omega, fun m hm hle => ⟨rfl, _, rfl, ?_⟩⟩
              by_cases hmin : h0 = m
              · have e3 : (!decide (V.int h0 = V.int m)) = false := by
                  rw [decide_eq_true (by rw [hmin])]
                  rfl
                rw [e3]
                refine iteF ?_
                have hall : ((ds.map iD).all fun y => decide ((ds.map iD).headD 0 ≤ y)) = true := by
                  refine List.all_eq_true.mpr fun y hy => decide_eq_true ?_
                  have z := hle y hy
                  rw [en]
                  show h0 ≤ y
                  omega
                refine ⟨_, rfl, a, _, rfl, hs1, fun D2 hD2 => ?_⟩
                have hD20 : H D2 = none := Evl.fresh_back e1 hD2
                refine lc_enumT (xs := (ds.map iD).map V.int) (fun i H2 => Ex H' H2 ∧ H2 D2 = some (.lst (((List.range i).map (cycN B (ds.map iD))).map V.bl))) ⟨Ex.new hD2, upd_same⟩ (fun i H2 _ p => Evl.ex_t p.1 hs1) (fun i y Ta H2 hy p hTa => ?_) (fun H2 p => ?_)
                · obtain ⟨e4, h4⟩ := p
                  have hi : i < (ds.map iD).length := by
                    have z := (List.getElem?_eq_some_iff.mp hy).1
                    rw [List.length_map] at z
                    exact z
                  have ey : y = .int ((ds.map iD).getD i 0) := by
                    rw [List.getElem?_map, List.getElem?_eq_getElem hi] at hy
                    rw [List.getD_eq_getElem?_getD, List.getElem?_eq_getElem hi]
                    exact (Option.some.inj hy).symm
                  subst ey
                  have hpr : atI ((ds.map iD).map V.int) (((i : Nat) : Int) - 1) = some (.int (prv (ds.map iD) i)) := by
                    unfold prv
                    by_cases i0 : i = 0
                    · subst i0
                      rw [if_pos rfl]
                      have hne : ds.map iD ≠ [] := by
                        rw [en]
                        exact List.cons_ne_nil _ _
                      have el : ds.map iD = (ds.map iD).dropLast ++ [(ds.map iD).getLastD 0] := by
                        rw [List.getLastD_eq_getLast?, List.getLast?_eq_some_getLast hne, Option.getD_some]
                        exact (List.dropLast_concat_getLast hne).symm
                      have g : ∀ l : List Int, l = l.dropLast ++ [l.getLastD 0] → atI (l.map V.int) (((0 : Nat) : Int) - 1) = some (.int (l.getLastD 0)) := fun l el => by
                        conv => lhs; rw [el]
                        rw [List.map_append]
                        exact L2.atI_last _ _
                      exact g _ el
                    · rw [if_neg i0]
                      refine at_of (j := i - 1) (by omega) ?_
                      rw [List.getElem?_map, List.getElem?_eq_getElem (by omega), List.getD_eq_getElem?_getD, List.getElem?_eq_getElem (by omega)]
                      rfl
                  have hTD : Ta ≠ D2 := ne_of_fresh hTa h4
                  have e5 : Ex H' (upd H2 Ta (.tup [.int (i : Nat), .int ((ds.map iD).getD i 0)])) := e4.trans (Ex.new hTa)
                  refine ⟨Ta, _, rfl, SqT.of upd_same, rfl, _, _, rfl, _, _, rfl, rfl, rfl, yes_go ?_⟩
                  refine ⟨_, rfl, _, rfl, _, _, rfl, rfl, a, _, _, _, rfl, rfl, Evl.ex_t e5 hs1, hpr, _, rfl, ?_⟩
                  refine ⟨by simp [sizeLine_eq], fun p hp => ?_⟩
                  have e6 := e5.trans (Ex.new (o := .tup [.int (prv (ds.map iD) i), .int ((ds.map iD).getD i 0)]) hp)
                  have e7 := (Ex.new (o := .tup [.int (i : Nat), .int ((ds.map iD).getD i 0)]) hTa).trans (Ex.new (o := .tup [.int (prv (ds.map iD) i), .int ((ds.map iD).getD i 0)]) hp)
                  refine ⟨_, rfl, .tuple [.int (prv (ds.map iD) i), .int ((ds.map iD).getD i 0)], B.map pD, .tup (SqT.of upd_same) (.cons (.int _) (.cons (.int _) .nil)), dp_ex (e1.trans e6) _ _ (dx_dp hv), shaped_two, lay_pD B, _, e7 _ _ h4, ?_, Ex.mut e6 hD2, ?_⟩
                  · rw [List.length_map, List.length_map, List.length_range, sizeLine_eq]
                    omega
                  · rw [upd_same, any_pD, List.range_succ, List.map_append, List.map_append]
                    rfl
                · obtain ⟨e4, h4⟩ := p
                  refine ⟨D2, _, rfl, SqL.of h4, ?_⟩
                  refine ring _ ?_ H2 (e1.trans e4)
                  unfold isRingN
                  rw [hall, decide_eq_true hnd, List.length_map (as := ds.map iD), List.all_map, Bool.true_and, Bool.true_and]
                  rfl
              · have e3 : (!decide (V.int h0 = V.int m)) = true := by
                  rw [decide_eq_false (fun z => hmin (V.int.inj z))]
                  rfl
                rw [e3]
                refine iteT ?_
                refine ring false ?_ H' e1
                have hall : ((ds.map iD).all fun y => decide ((ds.map iD).headD 0 ≤ y)) = false := by
                  refine List.all_eq_false.mpr ⟨m, hm, ?_⟩
                  have z := hle h0 (by rw [en]; exact List.mem_cons_self)
                  rw [en]
                  show ¬ decide (h0 ≤ m) = true
                  rw [decide_eq_false (by omega)]
                  exact Bool.false_ne_true
                unfold isRingN
                rw [hall, Bool.and_false]
                rfl
            · have e2 : (!decide (V.int ((us.length : Nat) : Int) = V.int (((ds.map iD).length : Nat) : Int))) = true := by
                rw [decide_eq_false (fun z => hnd ((set_len hus hmem).mp (by have z2 := V.int.inj z; omega)))]
                rfl
              rw [e2]
              refine iteT (iteT ?_)
              refine ring false ?_ H' e1
              unfold isRingN
              rw [decide_eq_false hnd]
              rfl
    | _ =>
      refine iteT (iteT ?_)
      exact q H (Ex.refl H)
-- is_ring: 0 many  1 book  2 thing
theorem sc_is_ring : FnScope ["many", "book", "thing"] ["many", "book", "thing"] (defScope (topS 23)) := ⟨rfl, rfl, rfl, by decide +kernel, rfl, by decide +kernel, by decide +kernel⟩
def spIsRing (Y : XTxt K mg) : Sp := fun vs H Q E => ∃ vm dm vt dt x dx, vs = [vm, vt, x] ∧ Dx K H vm dm ∧ Dx K H vt dt ∧ Dx K H x dx ∧ lenD dt ≤ 1000 ∧ lenD dx ≤ 1000 ∧ bookErr Y dm dt H E ∧ ∀ n B, RightB dm dt n B → ∀ H', Ex H H' → Q (.bl (isRingD n B dx)) H'
theorem ok_is_ring : FnOk P w K mg base (L2.CX P w) 7 T.is_ring.f T.is_ring.fd ["many", "book", "thing"] (spIsRing Y) := by
  have G_check_book : FnOk P w K mg base (L2.CX P w) 6 T.check_book.f T.check_book.fd ["many", "thing"] (spBook Y) := ok_check_book T Y
  have G_is_ring_of : FnOk P w K mg base CX0 4 T.is_ring_of.f T.is_ring_of.fd ["many", "pairs", "thing"] (spIsRingOf K) := ok_is_ring_of T
  refine T.is_ring.F.okX sc_is_ring (fun vs H Q E h => ?_) (fun cdv A outer s H vs Q E hr h => ?_)
  · obtain ⟨vm, dm, vt, dt, x, dx, rfl, _⟩ := h
    rfl
  · obtain ⟨vm, dm, vt, dt, x, dx, rfl, hm, ht, hx, hl, hlx, q1, q2⟩ := h
    refine ⟨_, (pss_cons (ps_expr (pe_call G_check_book (hr.mono (by decide)) (by rfl) T.check_book.g T.check_book.F.kp T.check_book.b .nil (passes_call (takes_of rfl rfl rfl rfl) fun _ _ _ _ h => h) (pa_cons (pv 0) (pa_cons (pv 1) pa_nil))))
    (pss_one (ps_ret (pe_call G_is_ring_of (hr.mono (by decide)) (by rfl) T.is_ring_of.g T.is_ring_of.F.kp T.is_ring_of.b .nil pass0 (pa_cons (pv 0) (pa_cons (pv 1) (pa_cons (pv 2) pa_nil))))))), ?_⟩
    refine ⟨_, rfl, _, rfl, vm, dm, vt, dt, rfl, hm, ht, q1, fun hw k e hf H1 e1 => ?_⟩
    obtain ⟨n, B, rfl, R⟩ := right_of hw e hf hl
    have hm' := hm
    rw [e] at hm'
    have em := dx_int hm'
    subst em
    refine ⟨_, rfl, _, rfl, _, rfl, n, B, vt, x, dx, rfl, ?_, hx.ex e1, hlx, fun H2 e2 => q2 n B R H2 (e1.trans e2)⟩
    rw [← R.t]
    exact ht.ex e1
end
end K3
set_option Elab.async false
set_option linter.all false
set_option maxRecDepth 100000
set_option maxHeartbeats 4000000
/-! reached, passed_on. -/
namespace K3
open PySem PySem.Spec PyProof.Rows L2
open Evl (Ex)
theorem dpAll_snoc {K : PySem.W.Frag} {H : Hp} : ∀ {ds : List PyData} {xs : List V} {v : V} {d : PyData}, DpAll K H xs ds → Dp K H v d → DpAll K H (xs ++ [v]) (ds ++ [d])
  | [], _, v, d, h, hv => by
    cases h
    exact .cons hv .nil
  | c :: ds, _, v, d, h, hv => by
    cases h with
    | cons h1 h2 => exact .cons h1 (dpAll_snoc h2 hv)
theorem dpAll_app {K : PySem.W.Frag} {H : Hp} : ∀ {ds es : List PyData} {xs ys : List V}, DpAll K H xs ds → DpAll K H ys es → DpAll K H (xs ++ ys) (ds ++ es)
  | [], _, _, _, h, hv => by
    cases h
    exact hv
  | c :: ds, _, _, _, h, hv => by
    cases h with
    | cons h1 h2 => exact .cons h1 (dpAll_app h2 hv)
/-- tuples stay -/
def Tx (H H' : Hp) : Prop := ∀ (a : Addr) (xs : List V), Rd H a (.tup xs) → Rd H' a (.tup xs)
theorem Tx.trans {H H1 H2 : Hp} (a : Tx H H1) (b : Tx H1 H2) : Tx H H2 := fun x o h => b x o (a x o h)
theorem Tx.of {H H' : Hp} (e : Ex H H') : Tx H H' := fun a xs h => Evl.ex_rd e h
theorem Tx.mut {H : Hp} {D : Addr} {l : List V} {o : HO} (h : H D = some (.lst l)) : Tx H (upd H D o) := fun a xs q => by
  have hne : a ≠ D := fun z => by
    rw [z] at q
    rcases q with q | ⟨o, q⟩
    · rw [h] at q
      cases q
    · rw [h] at q
      cases q
  rcases q with q | ⟨u, q⟩
  · exact .inl (by rw [upd_ne hne]; exact q)
  · exact .inr ⟨u, by rw [upd_ne hne]; exact q⟩
theorem dp_pD_tx {K : PySem.W.Frag} {H H' : Hp} {v : V} {p : Nat × Nat} (t : Tx H H') (h : Dp K H v (pD p)) : Dp K H' v (pD p) := by
  cases h with
  | tup hs ha =>
    cases ha with
    | cons h1 h2 =>
      cases h1
      cases h2 with
      | cons h3 h4 =>
        cases h3
        cases h4
        refine .tup ?_ (.cons (.int _) (.cons (.int _) .nil))
        rcases hs with hs | hs
        · exact .inl (t _ _ hs)
        · exact .inr hs
theorem dpAll_pD_tx {K : PySem.W.Frag} {H H' : Hp} (t : Tx H H') : ∀ {E : Edges} {xs : List V}, DpAll K H xs (E.map pD) → DpAll K H' xs (E.map pD)
  | [], _, h => by
    cases h
    exact .nil
  | p :: E, _, h => by
    cases h with
    | cons h1 h2 => exact .cons (dp_pD_tx t h1) (dpAll_pD_tx t h2)
def dkr (fk : List Nat) : List (Key × V) := fk.map fun x => (kI x, V.bl true)
theorem find_self {l : List Nat} {x : Nat} : (l.find? fun a => a == x) = if x ∈ l then some x else none := by
  by_cases h : x ∈ l
  · rw [if_pos h]
    cases e : l.find? fun a => a == x with
    | none =>
      have z := List.find?_eq_none.mp e x h
      simp at z
    | some y =>
      have z := List.find?_some e
      simp at z
      rw [z]
  · rw [if_neg h, List.find?_eq_none.mpr fun a ha => ?_]
    have q : a ≠ x := fun z => h (z ▸ ha)
    simpa using q
theorem dkr_val {fk : List Nat} {x : Nat} : valV (dkr fk) (kI x) = if x ∈ fk then some (.bl true) else none := by
  have z := valV_kI (fun _ : Nat => V.bl true) (fun a : Nat => a) fk x
  rw [find_self] at z
  unfold dkr
  rw [z]
  by_cases h : x ∈ fk
  · rw [if_pos h, if_pos h]
    rfl
  · rw [if_neg h, if_neg h]
    rfl
theorem dkr_put {fk : List Nat} {x : Nat} (h : x ∉ fk) : putK (dkr fk) (kI x) (.bl true) = dkr (fk ++ [x]) := by
  unfold putK
  rw [if_neg]
  · unfold dkr
    rw [List.map_append]
    rfl
  · rw [valV_any, dkr_val, if_neg h]
    exact Bool.false_ne_true
/-- the state of the gathering -/
structure RC (E : Edges) (first : Nat) (fk wl : List Nat) : Prop where
  nd : fk.Nodup
  way : ∀ x ∈ fk, Way E first x
  wm : ∀ x ∈ wl, x = first ∨ x ∈ fk
section
variable {P : Program} {w : World} {K : PySem.W.Frag} {mg : Str → Option Value} {base : Heap} (T : Txt K mg) (Y : XTxt K mg)
-- reached: 0 behind  1 first  2 found  3 waiting  4 other
theorem sc_reached : FnScope ["behind", "first", "found", "waiting", "other"] ["behind", "first"] (defScope (topS 24)) := ⟨rfl, rfl, rfl, by decide +kernel, rfl, by decide +kernel, by decide +kernel⟩
def spReached (K : PySem.W.Frag) : Sp := fun vs H Q _ => ∃ (b first n : Nat) (E : Edges), vs = [.ref b, iV first] ∧ Behind K H b n E ∧ (∀ p ∈ E, p.1 < n ∧ p.2 < n ∧ p.1 ≠ p.2) ∧ first < n ∧ n ≤ 40 ∧ E.length ≤ 1000 ∧
  ∀ (r : Addr) (l : List Nat) (H' : Hp), Ex H H' → SqL K H' r (l.map iV) → l.Pairwise (· < ·) → (∀ x, x ∈ l ↔ Way E first x) → Q (.ref r) H'
theorem ok_reached : FnOk P w K mg base CX0 1 T.reached.f T.reached.fd ["behind", "first"] (spReached K) := by
  refine T.reached.F.ok sc_reached (fun vs H Q E h => ?_) (fun cdv A outer s H vs Q E hr h => ?_)
  · obtain ⟨b, first, n, B, rfl, _⟩ := h
    rfl
  · obtain ⟨b, first, n, B, rfl, hb, hB, hf, hn, hl, q⟩ := h
    refine ⟨_, (pss_cons (ps_set (i := 2) sc_reached.nd rfl (.inl rfl) pe_dnewK)
    (pss_cons (ps_set (i := 3) sc_reached.nd rfl (.inl rfl) (pe_lst (pa_cons (pv 1) pa_nil)))
    (pss_cons (ps_while PassesOwn.never (pt_cmpR op_gt (pe_callB call_len_seq (by rfl) T.m_len PySem.boot_len (pa_cons (pv 3) pa_nil)) pe_int (nomark _)) (pss_one (ps_for PassesOwn.never rfl (pi_list (pe_ix ix_list (pv 0) (pe_bm0 PySem.F.plainAttrs_list PySem.F.slot_list_pop PySem.F.type_list_pop mt_pop (pv 3)) (fun _ _ => rfl))) (pg_name (i := 4) sc_reached.nd rfl (.inl rfl)) (pss_one (ps_if (pt_cmp (pc_dnotin (hu_of hr) (pv 4) (pv 2))) (pss_cons (ps_dput (hu_of hr) (pv 2) (pv 4) pe_bl rfl)
    (pss_one (ps_expr (pe_bm PySem.F.plainAttrs_list PySem.F.slot_list_append PySem.F.type_list_append mt_append (pv 3) (pa_cons (pv 4) pa_nil))))) pss_nil)))))
    (pss_one (ps_ret (pe_callB (call_sortedDI rfl) (by rfl) T.m_sorted boot_sorted (pa_cons (pv 2) pa_nil))))))), ?_⟩
    refine fun F hF => ⟨_, rfl, (by simp [sizeLine_eq]), fun L hL => ?_⟩
    have hLF : L ≠ F := fun z => by
      rw [z, upd_same] at hL
      cases hL
    have hFL : F ≠ L := Ne.symm hLF
    have hL0 : H L = none := by
      rw [upd_ne hLF] at hL
      exact hL
    obtain ⟨ads, a1, a2, a3⟩ := hb
    refine ⟨fun m σ H' => ∃ fk wl, m = 2 * (n - fk.length) + wl.length ∧ (∃ y4, σ = [some (.ref b), some (iV first), some (.ref F), some (.ref L), y4]) ∧ Ex H H' ∧ H' F = some (.dK (dkr fk)) ∧ H' L = some (.lst (wl.map iV)) ∧ RC B first fk wl ∧ wl.length ≤ 2 * n + 1 ∧ wl.length + 2 * (n - fk.length) ≤ 2 * n + 1 ∧ ∀ a ∈ first :: fk, a ∈ wl ∨ ∀ c, (a, c) ∈ B → c ∈ fk,
      ⟨2 * n + 1, [], [first], by simp, ⟨_, rfl⟩, ?_, ?_, upd_same, ⟨by simp, fun x hx => (by cases hx), fun x hx => .inl (List.mem_singleton.mp hx)⟩, ?_, ?_, fun a ha => .inl ha⟩, ?_⟩
    · exact Evl.Ex.mut (Ex.new hF) hL0
    · rw [upd_ne hFL, upd_same]
      rfl
    · simp
    · simp
      omega
    rintro m σ H' ⟨fk, wl, rfl, ⟨y4, rfl⟩, e1, hF1, hL1, g, hwl, hm, cl⟩
    have vis : ∀ fk wl, RC B first fk wl → ∀ x ∈ first :: fk, x < n := fun fk wl g x hx => by
      rcases List.mem_cons.mp hx with z | z
      · rw [z]
        exact hf
      · exact ((g.way x z).lt hB).2
    have few : ∀ fk wl, RC B first fk wl → fk.length ≤ n := fun fk wl g => nodup_lt g.nd fun x hx => vis fk wl g x (List.mem_cons_of_mem _ hx)
    refine ⟨_, rfl, _, _, rfl, .inl (SqL.of hL1), _, _, rfl, rfl, _, rfl, bran (fun hc => ?_) (fun hc => ?_)⟩
    · have hpos : 0 < wl.length := by
        have z := of_decide_eq_true hc
        rw [List.length_map] at z
        omega
      have hne : wl ≠ [] := List.length_pos_iff.mp hpos
      obtain ⟨ws, here, rfl⟩ : ∃ ws here, wl = ws ++ [here] := ⟨wl.dropLast, wl.getLast hne, (List.dropLast_concat_getLast hne).symm⟩
      have hhere : here ∈ first :: fk := by
        rcases g.wm here (List.mem_append_right _ (by simp)) with z | z
        · rw [z]
          exact List.mem_cons_self
        · exact List.mem_cons_of_mem _ z
      have hhn := vis _ _ g here hhere
      have hwh : here = first ∨ Way B first here := by
        rcases List.mem_cons.mp hhere with z | z
        · exact .inl z
        · exact .inr (g.way _ z)
      obtain ⟨cc, hcc⟩ : ∃ c, ads[here]? = some c := ⟨ads[here]'(by omega), List.getElem?_eq_getElem _⟩
      have hss := a3 here cc hcc
      rw [List.length_append, List.length_singleton] at hwl hm
      refine ⟨fun σ' H' => ∃ fk' wl', (∃ y4, σ' = [some (.ref b), some (iV first), some (.ref F), some (.ref L), y4]) ∧ Ex H H' ∧ H' F = some (.dK (dkr fk')) ∧ H' L = some (.lst (wl'.map iV)) ∧ RC B first fk' wl' ∧ wl'.length + 2 * (n - fk'.length) ≤ ws.length + 2 * (n - fk.length) ∧ ∀ a ∈ first :: fk', a ∈ wl' ∨ ∀ c, (a, c) ∈ B → c ∈ fk',
        fun σ' H2 ⟨fk', wl', h1, h2, h3, h4, h5, h6, h7⟩ => ⟨_, ?_, fk', wl', rfl, h1, h2, h3, h4, h5, by omega, by omega, h7⟩, ?_⟩
      · rw [List.length_append, List.length_singleton]
        omega
      refine ⟨_, rfl, _, rfl, .inl ⟨rfl, _, SqL.of hL1⟩, L, _, iV here, rfl, rfl, hL1, ?_, b, ads.map V.ref, (here : Int), .ref cc, rfl, rfl, ?_, ?_, ?_⟩
      · rw [List.length_map, List.length_append, List.length_singleton, Nat.add_sub_cancel, List.map_append, List.getElem?_append_right (by rw [List.length_map]; exact Nat.le_refl _), List.length_map, Nat.sub_self]
        rfl
      · exact Evl.ex_l (Evl.Ex.mut e1 hL0) a1
      · exact atI_nat (by rw [List.getElem?_map, hcc]; rfl)
      refine ⟨cc, rfl, ⟨_, Evl.ex_l (Evl.Ex.mut e1 hL0) hss⟩, ?_⟩
      refine for_list (xs := (succs B here).map iV) (fun i σ H2 => ∃ fk' wl', (∃ y4, σ = [some (.ref b), some (iV first), some (.ref F), some (.ref L), y4]) ∧ Ex H H2 ∧ H2 F = some (.dK (dkr fk')) ∧ H2 L = some (.lst (wl'.map iV)) ∧ RC B first fk' wl' ∧ wl'.length + 2 * (n - fk'.length) ≤ ws.length + 2 * (n - fk.length) ∧ (∀ a ∈ first :: fk', a ∈ wl' ∨ (∀ c, (a, c) ∈ B → c ∈ fk') ∨ a = here) ∧ ∀ c ∈ (succs B here).take i, c ∈ fk')
        ⟨fk, ws, ⟨_, rfl⟩, Evl.Ex.mut e1 hL0, ?_, ?_, ⟨g.nd, g.way, fun x hx => g.wm x (List.mem_append_left _ hx)⟩, Nat.le_refl _, fun a ha => ?_, fun c hc => by simp at hc⟩ (fun i σ H2 _ p => ?_) (fun i x σ H2 hx p => ?_) (fun σ H2 p => ?_)
      · rw [upd_ne hFL]
        exact hF1
      · rw [upd_same, List.map_append, List.dropLast_append_of_ne_nil (by simp)]
        simp
      · rcases cl a ha with z | z
        · rcases List.mem_append.mp z with z | z
          · exact .inl z
          · exact .inr (.inr (List.mem_singleton.mp z))
        · exact .inr (.inl z)
      · obtain ⟨_, _, _, e2, _⟩ := p
        exact Evl.ex_l e2 hss
      · obtain ⟨fk', wl', ⟨y4, rfl⟩, e2, hF2, hL2, g2, hm2, cl2, dn⟩ := p
        obtain ⟨o, ho, rfl⟩ : ∃ o, (succs B here)[i]? = some o ∧ iV o = x := by
          rw [List.getElem?_map] at hx
          cases e : (succs B here)[i]? with
          | none => rw [e] at hx; cases hx
          | some o => rw [e] at hx; exact ⟨o, rfl, Option.some.inj hx⟩
        have hoE : (here, o) ∈ B := mem_succs.mp (List.mem_of_getElem? ho)
        have hwo : Way B first o := by
          rcases hwh with z | z
          · rw [z] at hoE
            exact .one hoE
          · exact .more z hoE
        have hfew := few _ _ g2
        have hfew1 := few _ _ g
        have hD : DGet H2 F (iV o) (valV (dkr fk') (kI o)) := DGet.k (k := kI o) hF2
        refine ⟨_, rfl, _, rfl, F, _, rfl, hD, _, rfl, bran (fun hn0 => ?_) (fun hn0 => ?_)⟩
        · have hno : o ∉ fk' := fun z => by
            rw [dkr_val, if_pos z] at hn0
            cases hn0
          have hlt : fk'.length < n := by
            have z := nodup_lt (n := n) (l := o :: fk') (List.nodup_cons.mpr ⟨hno, g2.nd⟩) fun x hx => by
              rcases List.mem_cons.mp hx with z | z
              · rw [z]
                exact (hwo.lt hB).2
              · exact ((g2.way x z).lt hB).2
            rw [List.length_cons] at z
            exact z
          refine ⟨_, rfl, _, rfl, F, _, rfl, DPut.k (k := kI o) hF2 ?_, ?_⟩
          · unfold dkr
            rw [List.length_map, sizeLine_eq]
            omega
          · have hl3 : (upd H2 F (.dK (putK (dkr fk') (kI o) (.bl true)))) L = some (.lst (wl'.map iV)) := by
              rw [upd_ne hLF]
              exact hL2
            refine ⟨_, rfl, .inl ⟨rfl, _, SqL.of hl3⟩, _, rfl, L, _, _, rfl, rfl, hl3, ?_, fk' ++ [o], wl' ++ [o], ⟨_, rfl⟩, Evl.Ex.mut (Evl.Ex.mut e2 hF) hL0, ?_, ?_, ⟨?_, ?_, ?_⟩, ?_, ?_, ?_⟩
            · rw [List.length_map, sizeLine_eq]
              omega
            · rw [upd_ne hFL, upd_same, dkr_put hno]
            · rw [upd_same, List.map_append]
              rfl
            · refine List.nodup_append.mpr ⟨g2.nd, by simp, fun a ha c hc => ?_⟩
              rw [List.mem_singleton.mp hc]
              exact fun e => hno (e ▸ ha)
            · intro x hx
              rcases List.mem_append.mp hx with z | z
              · exact g2.way x z
              · rw [List.mem_singleton.mp z]
                exact hwo
            · intro x hx
              rcases List.mem_append.mp hx with z | z
              · rcases g2.wm x z with z | z
                · exact .inl z
                · exact .inr (List.mem_append_left _ z)
              · exact .inr (List.mem_append_right _ z)
            · rw [List.length_append, List.length_append, List.length_singleton]
              omega
            · intro a ha
              rcases List.mem_cons.mp ha with z | z
              · rcases cl2 a (by rw [z]; exact List.mem_cons_self) with z | z | z
                · exact .inl (List.mem_append_left _ z)
                · exact .inr (.inl fun c hc => List.mem_append_left _ (z c hc))
                · exact .inr (.inr z)
              · rcases List.mem_append.mp z with z | z
                · rcases cl2 a (List.mem_cons_of_mem _ z) with z | z | z
                  · exact .inl (List.mem_append_left _ z)
                  · exact .inr (.inl fun c hc => List.mem_append_left _ (z c hc))
                  · exact .inr (.inr z)
                · exact .inl (List.mem_append_right _ z)
            · intro c hc
              rw [take_snoc ho] at hc
              rcases List.mem_append.mp hc with z | z
              · exact List.mem_append_left _ (dn c z)
              · exact List.mem_append_right _ z
        · have hin : o ∈ fk' := Classical.byContradiction fun z => by
            rw [dkr_val, if_neg z] at hn0
            cases hn0
          refine ⟨fk', wl', ⟨_, rfl⟩, e2, hF2, hL2, g2, hm2, cl2, fun c hc => ?_⟩
          rw [take_snoc ho] at hc
          rcases List.mem_append.mp hc with z | z
          · exact dn c z
          · rw [List.mem_singleton.mp z]
            exact hin
      · obtain ⟨fk', wl', ⟨y4, rfl⟩, e2, hF2, hL2, g2, hm2, cl2, dn⟩ := p
        refine ⟨fk', wl', ⟨_, rfl⟩, e2, hF2, hL2, g2, hm2, fun a ha => ?_⟩
        rcases cl2 a ha with z | z | z
        · exact .inl z
        · exact .inr z
        · refine .inr fun c hc => dn c ?_
          rw [z] at hc
          rw [List.length_map, List.take_length]
          exact mem_succs.mpr hc
    · have hz : wl = [] := by
        have z := of_decide_eq_false hc
        rw [List.length_map] at z
        exact List.length_eq_zero_iff.mp (by omega)
      subst hz
      have all : ∀ {x : Nat}, Way B first x → x ∈ fk := by
        intro x wx
        induction wx with
        | one e =>
          rcases cl first List.mem_cons_self with z | z
          · cases z
          · exact z _ e
        | more _ e ih =>
          rcases cl _ (List.mem_cons_of_mem _ ih) with z | z
          · cases z
          · exact z _ e
      have hfew := few _ _ g
      refine ⟨_, rfl, F, dkr fk, fk.map fun (x : Nat) => (x : Int), rfl, .inl hF1, ?_, by rw [List.length_map]; omega, fun ys p hp hpw hpn => ?_⟩
      · unfold dkr
        rw [List.map_map, List.map_map]
        rfl
      · have hnn : ∀ y ∈ ys, 0 ≤ y := fun y hy => by
          obtain ⟨x, _, rfl⟩ := List.mem_map.mp (hp.mem_iff.mp hy)
          omega
        have ey : ys = (ys.map Int.toNat).map fun (x : Nat) => (x : Int) := by
          rw [List.map_map]
          have z : ys.map ((fun (x : Nat) => (x : Int)) ∘ Int.toNat) = ys.map id := List.map_congr_left fun y hy => by
            show ((y.toNat : Nat) : Int) = y
            have := hnn y hy
            omega
          rw [z, List.map_id]
        have hnd : ys.Nodup := hp.nodup_iff.mpr (List.pairwise_map.mpr (g.nd.imp fun {a b} z e => z (by omega)))
        refine q p (ys.map Int.toNat) _ (e1.trans (Ex.new hpn)) ?_ ?_ fun x => ?_
        · rw [ints_iV, ← ey]
          exact SqL.of upd_same
        · refine List.pairwise_map.mpr ?_
          have z := List.Pairwise.and hpw hnd
          refine List.Pairwise.imp_of_mem ?_ z
          intro a c ha hc h
          have h1 := hnn a ha
          have h2 := hnn c hc
          have h3 := h.1
          have h4 := h.2
          omega
        · rw [List.mem_map]
          constructor
          · rintro ⟨y, hy, rfl⟩
            obtain ⟨x, hx, rfl⟩ := List.mem_map.mp (hp.mem_iff.mp hy)
            exact g.way _ (by simpa using hx)
          · intro wx
            exact ⟨(x : Int), hp.mem_iff.mpr (List.mem_map.mpr ⟨x, all wx, rfl⟩), by simp⟩
-- passed_on: 0 many  1 book  2 behind  3 found  4 one  5 other
theorem sc_passed_on : FnScope ["many", "book", "behind", "found", "one", "other"] ["many", "book"] (defScope (topS 25)) := ⟨rfl, rfl, rfl, by decide +kernel, rfl, by decide +kernel, by decide +kernel⟩
def spPassed (Y : XTxt K mg) : Sp := fun vs H Q E => ∃ vm dm vt dt, vs = [vm, vt] ∧ Dx K H vm dm ∧ Dx K H vt dt ∧ lenD dt ≤ 1000 ∧ bookErr Y dm dt H E ∧ ∀ n B, RightB dm dt n B →
  ∀ (r : Addr) (W : Edges) (H' : Hp), Ex H H' → Dp K H' (.ref r) (.tuple (W.map pD)) → W.Pairwise lt2 → (∀ p, p ∈ W ↔ p.1 ≠ p.2 ∧ Way B p.1 p.2) → W.length ≤ 1600 → Q (.ref r) H'
theorem ok_passed_on : FnOk P w K mg base (L2.CX P w) 7 T.passed_on.f T.passed_on.fd ["many", "book"] (spPassed Y) := by
  have G_check_book : FnOk P w K mg base (L2.CX P w) 6 T.check_book.f T.check_book.fd ["many", "thing"] (spBook Y) := ok_check_book T Y
  have G_followers : FnOk P w K mg base CX0 1 T.followers.f T.followers.fd ["many", "pairs"] (spFollow K) := ok_followers T
  have G_reached : FnOk P w K mg base CX0 1 T.reached.f T.reached.fd ["behind", "first"] (spReached K) := ok_reached T
  refine T.passed_on.F.okX sc_passed_on (fun vs H Q E h => ?_) (fun cdv A outer s H vs Q E hr h => ?_)
  · obtain ⟨vm, dm, vt, dt, rfl, _⟩ := h
    rfl
  · obtain ⟨vm, dm, vt, dt, rfl, hm, ht, hl, q1, q2⟩ := h
    refine ⟨_, (pss_cons (ps_expr (pe_call G_check_book (hr.mono (by decide)) (by rfl) T.check_book.g T.check_book.F.kp T.check_book.b .nil (passes_call (takes_of rfl rfl rfl rfl) fun _ _ _ _ h => h) (pa_cons (pv 0) (pa_cons (pv 1) pa_nil))))
    (pss_cons (ps_set (i := 2) sc_passed_on.nd rfl (.inl rfl) (pe_call G_followers (hr.mono (by decide)) (by rfl) T.followers.g T.followers.F.kp T.followers.b .nil pass0 (pa_cons (pv 0) (pa_cons (pv 1) pa_nil))))
    (pss_cons (ps_set (i := 3) sc_passed_on.nd rfl (.inl rfl) (pe_lst pa_nil))
    (pss_cons (ps_for (passes_of rfl) rfl (pi_range1 (by rfl) T.m_range (pa_cons (pv 0) pa_nil)) (pg_name (i := 4) sc_passed_on.nd rfl (.inr rfl)) (pss_one (ps_expr (pe_bm PySem.F.plainAttrs_list PySem.F.slot_list_extend PySem.F.type_list_extend mt_extend (pv 3) (pa_cons (pe_lc (own := [("other", 5)]) rfl sc_passed_on.nd (pi_list (pe_call G_reached (hr.mono (by decide)) (by rfl) T.reached.g T.reached.F.kp T.reached.b .nil pass0 (pa_cons (pv 2) (pa_cons (pv 4) pa_nil)))) (blkOk_by (own := [("other", 5)]) (N := ["many", "book", "behind", "found", "one", "other"]) (sc := defScope (topS 25)) (by decide +kernel)) (fun _ _ _ _ _ => (pg_name (i := 5) sc_passed_on.nd rfl (.inl rfl))) (fun _ _ _ _ _ => pts_one (pt_cmpR op_ne (pv 5) (pv 4) (nomark _))) (fun _ _ _ _ _ => (pe_tup (pa_cons (pv 4) (pa_cons (pv 5) pa_nil))))) pa_nil)))))
    (pss_one (ps_ret (pe_callTy call_tuple_of (by rfl) T.m_tuple boot_tuple (pa_cons (pv 3) pa_nil)))))))), ?_⟩
    refine ⟨_, rfl, _, rfl, vm, dm, vt, dt, rfl, hm, ht, q1, fun hw k e hf H1 e1 => ?_⟩
    obtain ⟨n, B, rfl, R⟩ := right_of hw e hf hl
    have hm' := hm
    rw [e] at hm'
    have em := dx_int hm'
    subst em
    have hn40 := R.hi
    refine ⟨_, rfl, _, rfl, n, B, vt, rfl, ?_, R.bk.lt, Nat.le_trans R.hi (by decide), R.len, fun b H2 e2 hb => ?_⟩
    · rw [← R.t]
      exact ht.ex e1
    refine ⟨by simp, fun F hF => ?_⟩
    have hF0 : H1 F = none := Evl.fresh_back e2 hF
    refine ⟨_, rfl, (n : Int), rfl, by omega, by omega, ?_⟩
    refine for_range (lo := 0) (n := (n : Int).toNat) (fun i σ H3 => (∃ y4 y5, σ = [some (iV n), some vt, some (.ref b), some (.ref F), y4, y5]) ∧ Ex H2 H3 ∧ ∃ W xs, H3 F = some (.lst xs) ∧ DpAll K H3 xs (W.map pD) ∧ W.Pairwise lt2 ∧ (∀ p, p ∈ W ↔ p.1 < i ∧ p.1 ≠ p.2 ∧ Way B p.1 p.2) ∧ W.length ≤ i * n)
      ⟨⟨_, _, rfl⟩, Ex.new hF, [], [], upd_same, .nil, .nil, fun p => ⟨fun z => (by cases z), fun z => absurd z.1 (Nat.not_lt_zero _)⟩, by simp⟩ (fun i σ H3 hi p => ?_) (fun σ H3 p => ?_)
    · obtain ⟨⟨y4, y5, rfl⟩, e3, W, xs, hxs, hW, asc, mem, hWl⟩ := p
      have hi' : i < n := by omega
      have hxl : xs.length = W.length := by rw [dpAll_len hW, List.length_map]
      refine ⟨_, rfl, .inl ⟨rfl, _, SqL.of hxs⟩, _, rfl, _, rfl, b, i, n, B, ?_, hb.ex e3, R.bk.lt, hi', R.hi, R.len, fun r l H4 e4 hsq lasc lmem => ?_⟩
      · show _ = [V.ref b, V.int (i : Int)]
        rw [Int.zero_add]
        rfl
      have hln : l.length ≤ n := nodup_lt (lasc.imp fun {a c} h e => by omega) fun x hx => (((lmem x).mp hx).lt R.bk.lt).2
      refine ⟨r, rfl, ⟨_, hsq⟩, fun D hD => ?_⟩
      have hFD : F ≠ D := Ne.symm (ne_of_fresh hD (e4 _ _ hxs))
      refine lc_list (xs := l.map iV) (fun j H5 => Ex H4 H5 ∧ ∃ acc, H5 D = some (.lst acc) ∧ DpAll K H5 acc ((((l.take j).filter fun o => decide (o ≠ i)).map fun o => (i, o)).map pD)) ⟨Ex.new hD, [], upd_same, .nil⟩ (fun j H5 _ p => Evl.ex_l p.1 hsq) (fun j x H5 hx p => ?_) (fun H5 p => ?_)
      · obtain ⟨e5, acc, hacc, hA⟩ := p
        obtain ⟨o, ho, rfl⟩ : ∃ o, l[j]? = some o ∧ iV o = x := by
          rw [List.getElem?_map] at hx
          cases e : l[j]? with
          | none => rw [e] at hx; cases hx
          | some o => rw [e] at hx; exact ⟨o, rfl, Option.some.inj hx⟩
        have hacl : acc.length ≤ 40 := by
          rw [dpAll_len hA, List.length_map, List.length_map]
          refine Nat.le_trans (List.length_filter_le ..) ?_
          rw [List.length_take]
          omega
        have hfil : ((l.take (j + 1)).filter fun o => decide (o ≠ i)) = ((l.take j).filter fun o => decide (o ≠ i)) ++ if o = i then [] else [o] := by
          rw [take_snoc ho, List.filter_append]
          by_cases h : o = i
          · rw [if_pos h, List.filter_cons_of_neg (by simpa using h)]
            rfl
          · rw [if_neg h, List.filter_cons_of_pos (by simpa using h)]
            rfl
        refine ⟨rfl, _, rfl, _, rfl, rfl, _, rfl, bran (fun hc => ?_) (fun hc => ?_)⟩
        · have hne : ¬ o = i := fun z => by
            rw [z] at hc
            have q : decide (iV i = V.int (0 + (i : Int))) = true := decide_eq_true (by rw [Int.zero_add]; rfl)
            rw [q] at hc
            cases hc
          refine ⟨_, rfl, _, rfl, by simp [sizeLine_eq], fun t ht => ?_⟩
          have hDt : D ≠ t := Ne.symm (ne_of_fresh ht hacc)
          refine ⟨acc, ?_, ?_, Ex.mut (e5.trans (Ex.new ht)) hD, acc ++ [.ref t], upd_same, ?_⟩
          · rw [upd_ne hDt]
            exact hacc
          · rw [sizeLine_eq]
            omega
          · rw [hfil, if_neg hne, List.map_append, List.map_append]
            have hDt2 : (upd H5 t (.tup [iV i, iV o])) D = some (.lst acc) := by
              rw [upd_ne hDt]
              exact hacc
            have tx1 : Tx (upd H5 t (.tup [iV i, iV o])) (upd (upd H5 t (.tup [iV i, iV o])) D (.lst (acc ++ [.ref t]))) := Tx.mut hDt2
            have hti : SqT K (upd H5 t (.tup [iV i, iV o])) t [iV i, iV o] := SqT.of upd_same
            have hA2 := dpAll_pD_tx ((Tx.of (Ex.new (o := .tup [iV i, iV o]) ht)).trans tx1) hA
            have hv2 := dp_pD_tx (p := (i, o)) tx1 (.tup hti (.cons (.int _) (.cons (.int _) .nil)))
            have z0 : V.int (0 + (i : Int)) = iV i := by
              rw [Int.zero_add]
              rfl
            rw [z0]
            exact dpAll_snoc hA2 hv2
        · have heq : o = i := by
            refine Classical.byContradiction fun z => ?_
            have q : decide (iV o = V.int (0 + (i : Int))) = false := decide_eq_false fun e => by
              have e2 := V.int.inj e
              omega
            rw [q] at hc
            cases hc
          refine ⟨e5, acc, hacc, ?_⟩
          rw [hfil, if_pos heq, List.append_nil]
          exact hA
      · obtain ⟨e5, acc, hacc, hA⟩ := p
        rw [List.length_map, List.take_length] at hA
        have hF5 : H5 F = some (.lst xs) := e5 _ _ (e4 _ _ hxs)
        have hacl : acc.length ≤ n := by
          rw [dpAll_len hA, List.length_map, List.length_map]
          exact Nat.le_trans (List.length_filter_le ..) hln
        have hin : i * n ≤ 40 * 40 := Nat.mul_le_mul (by omega) hn40
        refine ⟨F, D, xs, acc, rfl, rfl, hF5, hacc, by rw [sizeLine_eq]; omega, ⟨_, _, rfl⟩, Ex.mut (e3.trans (e4.trans e5)) hF, W ++ ((l.filter fun o => decide (o ≠ i)).map fun o => (i, o)), xs ++ acc, upd_same, ?_, ?_, ?_, ?_⟩
        · rw [List.map_append]
          have tx : Tx H5 (upd H5 F (.lst (xs ++ acc))) := Tx.mut hF5
          exact dpAll_app (dpAll_pD_tx ((Tx.of (e4.trans e5)).trans tx) hW) (dpAll_pD_tx tx hA)
        · refine List.pairwise_append.mpr ⟨asc, ?_, fun p hp r hr => ?_⟩
          · refine List.pairwise_map.mpr ((lasc.sublist (List.filter_sublist (p := fun o => decide (o ≠ i)) (l := l))).imp fun {a c} h => .inr ⟨rfl, h⟩)
          · obtain ⟨o, _, rfl⟩ := List.mem_map.mp hr
            exact .inl ((mem p).mp hp).1
        · intro p
          rw [List.mem_append, mem p, List.mem_map]
          constructor
          · rintro (⟨h1, h2, h3⟩ | ⟨o, ho, rfl⟩)
            · exact ⟨by omega, h2, h3⟩
            · obtain ⟨h1, h2⟩ := List.mem_filter.mp ho
              have h2' : o ≠ i := by simpa using h2
              exact ⟨Nat.lt_succ_self _, fun e => h2' e.symm, (lmem o).mp h1⟩
          · rintro ⟨h1, h2, h3⟩
            by_cases hp : p.1 = i
            · refine .inr ⟨p.2, List.mem_filter.mpr ⟨(lmem _).mpr (hp ▸ h3), ?_⟩, by rw [← hp]⟩
              have h2' : p.2 ≠ i := fun e => h2 (hp.trans e.symm)
              simpa using h2'
            · exact .inl ⟨by omega, h2, h3⟩
        · rw [List.length_append, ← hxl] 
          have z : ((l.filter fun o => decide (o ≠ i)).map fun o => (i, o)).length = acc.length := by rw [dpAll_len hA, List.length_map (f := pD)]
          rw [z, Nat.succ_mul, hxl]
          omega
    · obtain ⟨⟨y4, y5, rfl⟩, e3, W, xs, hxs, hW, asc, mem, hWl⟩ := p
      have hnn : (n : Int).toNat = n := by omega
      rw [hnn] at mem hWl
      have hin : n * n ≤ 40 * 40 := Nat.mul_le_mul hn40 hn40
      refine ⟨_, rfl, F, xs, rfl, .inl ⟨SqL.of hxs, fun r hr => ?_⟩⟩
      refine q2 n B R r W _ (((e1.trans e2).trans e3).trans (Ex.new hr)) (.tup (SqT.of upd_same) (dpAll_ex (Ex.new hr) _ _ hW)) asc (fun p => ?_) (by omega)
      rw [mem p]
      constructor
      · exact fun z => ⟨z.2.1, z.2.2⟩
      · exact fun z => ⟨(z.2.lt R.bk.lt).1, z.1, z.2⟩
end
end K3
set_option Elab.async false
set_option linter.all false
set_option maxRecDepth 100000
set_option maxHeartbeats 4000000
/-! masks_ahead, ways_on, count_orders, order_at. -/
namespace K3
open PySem PySem.Spec PyProof.Rows L2
open Evl (Ex)
theorem bor_nat {a b : Nat} : Builtin.bitOr (a : Int) (b : Int) = ((a ||| b : Nat) : Int) := by
  rw [Bits.bitOr_pp (Int.natCast_nonneg a) (Int.natCast_nonneg b)]
  rfl
theorem band_nat {a b : Nat} : Builtin.bitAnd (a : Int) (b : Int) = ((a &&& b : Nat) : Int) := by
  rw [PyProof.Rows.bitAnd_pp (Int.natCast_nonneg a) (Int.natCast_nonneg b)]
  rfl
theorem shl_nat {x : Nat} : (1 : Int) * (2 : Int) ^ ((x : Int).toNat) = ((1 <<< x : Nat) : Int) := by
  rw [Nat.one_shiftLeft, Int.one_mul, Int.toNat_natCast]
  exact (Int.natCast_pow 2 x).symm
theorem aheadM_snoc {E : Edges} {q : Nat × Nat} {t : Nat} : aheadM (E ++ [q]) t = if q.2 = t then aheadM E t ||| 1 <<< q.1 else aheadM E t := by
  unfold aheadM
  rw [List.foldl_append]
  rfl
theorem set_range {g : Nat → V} {N k : Nat} {v : V} : ((List.range N).map g).set k v = (List.range N).map fun m => if m = k then v else g m := by
  refine List.ext_getElem? fun i => ?_
  rw [List.getElem?_set, List.getElem?_map, List.getElem?_map]
  by_cases hi : i < N
  · rw [List.getElem?_range hi]
    by_cases h : k = i
    · subst h
      rw [if_pos rfl, if_pos (by rw [List.length_map, List.length_range]; exact hi)]
      show _ = some (if k = k then v else g k)
      rw [if_pos rfl]
    · rw [if_neg h]
      show _ = some (if i = k then v else g i)
      rw [if_neg (fun z => h z.symm)]
      rfl
  · rw [List.getElem?_eq_none (by rw [List.length_range]; omega)]
    by_cases h : k = i
    · rw [if_pos h, if_neg (by rw [List.length_map, List.length_range]; omega)]
      rfl
    · rw [if_neg h]
      rfl
theorem ixN_nat {n j : Nat} (h : j < n) : ixN n (j : Int) = some j := by
  unfold ixN
  rw [if_pos (by omega), if_pos (by omega), Int.toNat_natCast]
theorem rep_range {n : Nat} {c : V} : (List.replicate n [c]).flatten = (List.range n).map fun _ => c := by
  rw [List.flatten_replicate_singleton]
  refine List.ext_getElem? fun i => ?_
  rw [List.getElem?_map, List.getElem?_replicate]
  by_cases hi : i < n
  · rw [if_pos hi, List.getElem?_range hi]
    rfl
  · rw [if_neg hi, List.getElem?_eq_none (by rw [List.length_range]; omega)]
    rfl
theorem get_range {g : Nat → V} {N k : Nat} (h : k < N) : ((List.range N).map g)[k]? = some (g k) := by
  rw [List.getElem?_map, List.getElem?_range h]
  rfl
theorem bit_tru {K : PySem.W.Frag} {H : Hp} {lot j : Nat} : TruV K (V.int (Builtin.bitAnd ((lot : Int) / (2 : Int) ^ ((j : Int).toNat)) 1)) H (lot.testBit j) := by
  show lot.testBit j = (Builtin.bitAnd ((lot : Int) / (2 : Int) ^ ((j : Int).toNat)) 1 != 0)
  have e : (lot : Int) / (2 : Int) ^ ((j : Int).toNat) = ((lot / 2 ^ j : Nat) : Int) := by
    rw [Int.toNat_natCast, Int.natCast_ediv, Int.natCast_pow]
    rfl
  rw [e, show (1 : Int) = ((1 : Nat) : Int) from rfl, band_nat, Nat.testBit_eq_decide_div_mod_eq, Nat.and_one_is_mod]
  have h2 : lot / 2 ^ j % 2 = 0 ∨ lot / 2 ^ j % 2 = 1 := Nat.mod_two_eq_zero_or_one _
  rcases h2 with h2 | h2 <;> rw [h2] <;> rfl
section
variable {P : Program} {w : World} {K : PySem.W.Frag} {mg : Str → Option Value} {base : Heap} (T : Txt K mg) (Y : XTxt K mg)
-- masks_ahead: 0 many  1 pairs  2 found  3 one  4 other
theorem sc_masks_ahead : FnScope ["many", "pairs", "found", "one", "other"] ["many", "pairs"] (defScope (topS 26)) := ⟨rfl, rfl, rfl, by decide +kernel, rfl, by decide +kernel, by decide +kernel⟩
def spMasks (K : PySem.W.Frag) : Sp := fun vs H Q _ => ∃ (n : Nat) (E : Edges) (v : V), vs = [iV n, v] ∧ Dx K H v (.tuple (E.map pD)) ∧ (∀ p ∈ E, p.1 < n ∧ p.2 < n ∧ p.1 ≠ p.2) ∧ n ≤ 40 ∧
  ∀ (r : Addr) (H' : Hp), Ex H H' → SqL K H' r ((List.range n).map fun t => iV (aheadM E t)) → Q (.ref r) H'
theorem ok_masks_ahead : FnOk P w K mg base CX0 1 T.masks_ahead.f T.masks_ahead.fd ["many", "pairs"] (spMasks K) := by
  refine T.masks_ahead.F.ok sc_masks_ahead (fun vs H Q E h => ?_) (fun cdv A outer s H vs Q E hr h => ?_)
  · obtain ⟨n, B, v, rfl, _⟩ := h
    rfl
  · obtain ⟨n, B, v, rfl, hd, hB, hn, q⟩ := h
    obtain ⟨a, xs, rfl, hs, ha⟩ := dx_tup hd
    have hlen : xs.length = B.length := by rw [dpAll_len ha, List.length_map]
    refine ⟨_, (pss_cons (ps_set (i := 2) sc_masks_ahead.nd rfl (.inl rfl) (pe_op op_rep (pe_lst (pa_cons pe_int pa_nil)) (pv 0)))
    (pss_cons (ps_for PassesOwn.never rfl (pi_tup (pv 1)) (pg_tup rfl (pgs_cons (pg_name (i := 3) sc_masks_ahead.nd rfl (.inl rfl)) (pgs_cons (pg_name (i := 4) sc_masks_ahead.nd rfl (.inl rfl)) pgs_nil))) (pss_one (ps_augS (pv 2) (pv 4) get_listI (pe_op op_shl pe_int (pv 3)) iop_or set_list)))
    (pss_one (ps_ret (pv 2))))), ?_⟩
    refine ⟨by simp [sizeLine_eq], fun Z hZ => ⟨_, rfl, Z, (n : Int), [.int 0], rfl, rfl, upd_same, by omega, by omega, by simp [sizeLine_eq]; omega, fun D hD => ?_⟩⟩
    have hD0 : H D = none := Evl.fresh_back (Ex.new hZ) hD
    refine ⟨_, rfl, a, rfl, ⟨xs, Evl.ex_t ((Ex.new hZ).trans (Ex.new hD)) hs⟩, for_tup (K := K) (a := a) (xs := xs) (fun i σ H2 => (∃ y3 y4, σ = [some (iV n), some (.ref a), some (.ref D), y3, y4]) ∧ Ex H H2 ∧ H2 D = some (.lst ((List.range n).map fun t => iV (aheadM (B.take i) t))))
      ⟨⟨_, _, rfl⟩, (Ex.new hZ).trans (Ex.new hD), ?_⟩ (fun i σ H2 _ p => Evl.ex_t p.2.1 hs) (fun i x σ H2 hx p => ?_) (fun σ H2 p => ?_)⟩
    · rw [upd_same, Int.toNat_natCast]
      rw [rep_range]
      rfl
    · obtain ⟨⟨y3, y4, rfl⟩, e2, g⟩ := p
      obtain ⟨pr, hp, t, rfl, ht⟩ := dpAll_pairs ha hx
      have hpm := hB pr (List.mem_of_getElem? hp)
      refine ⟨t, _, rfl, Evl.ex_t e2 ht, rfl, _, _, rfl, _, _, rfl, rfl, ?_⟩
      refine ⟨_, rfl, _, rfl, D, _, (pr.2 : Int), _, rfl, rfl, SqL.of g, atI_nat (get_range hpm.2.1), _, rfl, _, _, rfl, rfl, ⟨by omega, by omega, by decide⟩, _, _, rfl, rfl, D, _, (pr.2 : Int), pr.2, rfl, rfl, g, ?_, ?_⟩
      · rw [List.length_map, List.length_range]
        exact ixN_nat hpm.2.1
      · refine ⟨⟨_, _, rfl⟩, Ex.mut e2 hD0, ?_⟩
        rw [upd_same, set_range]
        congr 2
        refine List.map_congr_left fun m _ => ?_
        rw [take_snoc hp, aheadM_snoc]
        by_cases h : m = pr.2
        · rw [if_pos h, if_pos h.symm, h]
          show V.int (Builtin.bitOr ((aheadM (B.take i) pr.2 : Nat) : Int) (1 * 2 ^ ((pr.1 : Int).toNat))) = _
          rw [shl_nat, bor_nat]
          rfl
        · rw [if_neg h, if_neg (fun z => h z.symm)]
    · obtain ⟨⟨y3, y4, rfl⟩, e2, g⟩ := p
      rw [hlen, List.take_length] at g
      exact ⟨_, rfl, q D H2 e2 (SqL.of g)⟩
-- ways_on: 0 many  1 pairs  2 ahead  3 whole  4 found  5 lot  6 thing
theorem sc_ways_on : FnScope ["many", "pairs", "ahead", "whole", "found", "lot", "thing"] ["many", "pairs"] (defScope (topS 27)) := ⟨rfl, rfl, rfl, by decide +kernel, rfl, by decide +kernel, by decide +kernel⟩
def spWays (K : PySem.W.Frag) : Sp := fun vs H Q _ => ∃ (n : Nat) (E : Edges) (v : V), vs = [iV n, v] ∧ Dx K H v (.tuple (E.map pD)) ∧ (∀ p ∈ E, p.1 < n ∧ p.2 < n ∧ p.1 ≠ p.2) ∧ 1 ≤ n ∧ n ≤ 14 ∧
  ∀ (r : Addr) (H' : Hp), Ex H H' → SqL K H' r ((List.range (2 ^ n)).map fun m => iV (cntM n E m)) → Q (.ref r) H'
theorem ok_ways_on : FnOk P w K mg base CX0 2 T.ways_on.f T.ways_on.fd ["many", "pairs"] (spWays K) := by
  have G_masks_ahead : FnOk P w K mg base CX0 1 T.masks_ahead.f T.masks_ahead.fd ["many", "pairs"] (spMasks K) := ok_masks_ahead T
  refine T.ways_on.F.ok sc_ways_on (fun vs H Q E h => ?_) (fun cdv A outer s H vs Q E hr h => ?_)
  · obtain ⟨n, B, v, rfl, _⟩ := h
    rfl
  · obtain ⟨n, B, v, rfl, hd, hB, hn1, hn, q⟩ := h
    obtain ⟨N, hN⟩ : ∃ N, 2 ^ n = N + 1 := ⟨2 ^ n - 1, by have := Nat.two_pow_pos n; omega⟩
    have hN14 : N + 1 ≤ 16384 := by
      rw [← hN]
      exact Nat.pow_le_pow_right (by decide) hn
    have hwhole : (1 : Int) * (2 : Int) ^ ((n : Int).toNat) - 1 = (N : Int) := by
      rw [shl_nat, Nat.one_shiftLeft, hN]
      omega
    refine ⟨_, (pss_cons (ps_set (i := 2) sc_ways_on.nd rfl (.inl rfl) (pe_call G_masks_ahead (hr.mono (by decide)) (by rfl) T.masks_ahead.g T.masks_ahead.F.kp T.masks_ahead.b .nil pass0 (pa_cons (pv 0) (pa_cons (pv 1) pa_nil))))
    (pss_cons (ps_set (i := 3) sc_ways_on.nd rfl (.inl rfl) (pe_op op_sub (pe_op op_shl pe_int (pv 0)) pe_int))
    (pss_cons (ps_set (i := 4) sc_ways_on.nd rfl (.inl rfl) (pe_op op_cat (pe_op op_rep (pe_lst (pa_cons pe_int pa_nil)) (pv 3)) (pe_lst (pa_cons pe_int pa_nil))))
    (pss_cons (ps_for PassesOwn.never rfl (pi_range3 (by rfl) T.m_range (pa_cons (pe_op op_sub (pv 3) pe_int) (pa_cons (pe_un un_neg pe_int) (pa_cons (pe_un un_neg pe_int) pa_nil)))) (pg_name (i := 5) sc_ways_on.nd rfl (.inl rfl)) (pss_one (ps_for PassesOwn.never rfl (pi_range1 (by rfl) T.m_range (pa_cons (pv 0) pa_nil)) (pg_name (i := 6) sc_ways_on.nd rfl (.inl rfl)) (pss_one (ps_if (PW.pt (pw_and (pt_not (pt_truth (pe_op op_and (pe_op op_shr (pv 5) (pv 6)) pe_int) (by intro _; rfl))) (pw_and1 (pt_cmpR op_eq (pe_op op_and (pe_ix ix_list (pv 2) (pv 6) (fun _ _ => rfl)) (pv 5)) (pe_ix ix_list (pv 2) (pv 6) (fun _ _ => rfl)) (nomark _))))) (pss_one (ps_augS (pv 4) (pv 5) get_listI (pe_ix ix_list (pv 4) (pe_op op_or (pv 5) (pe_op op_shl pe_int (pv 6))) (fun _ _ => rfl)) ip_add set_list)) pss_nil)))))
    (pss_one (ps_ret (pv 4))))))), ?_⟩
    refine ⟨_, rfl, _, rfl, n, B, v, rfl, hd, hB, by omega, fun a H1 e1 ha => ?_⟩
    refine ⟨_, rfl, _, _, rfl, rfl, ⟨by omega, by omega, by decide⟩, _, _, rfl, rfl, ?_⟩
    dsimp only
    rw [hwhole]
    refine ⟨by simp [sizeLine_eq], fun Z hZ => ⟨_, rfl, Z, (N : Int), [.int 0], rfl, rfl, upd_same, by omega, by omega, by simp [sizeLine_eq]; omega, fun R hR => ?_⟩⟩
    refine ⟨by simp [sizeLine_eq], fun O hO => ?_⟩
    have hRO : R ≠ O := Ne.symm (ne_of_fresh hO upd_same)
    have hR0 : H1 R = none := Evl.fresh_back (Ex.new hZ) hR
    refine ⟨R, O, _, _, rfl, rfl, by rw [upd_ne hRO]; exact upd_same, upd_same, ?_, fun F hF => ?_⟩
    · rw [Int.toNat_natCast, rep_range, List.length_map, List.length_range, sizeLine_eq]
      simp
      omega
    rw [Int.toNat_natCast, rep_range]
    have e2 : Ex H1 (upd (upd (upd H1 Z (.lst [V.int 0])) R (.lst ((List.range N).map fun _ => V.int 0))) O (.lst [V.int 1])) := by
      refine ((Ex.new hZ).trans (Ex.new hR)).trans (Ex.new ?_)
      rw [Int.toNat_natCast, rep_range] at hO
      exact hO
    rw [Int.toNat_natCast, rep_range] at hF
    have hF0 : H F = none := Evl.fresh_back (e1.trans e2) hF
    have e3 := (e1.trans e2).trans (Ex.new (o := .lst (((List.range N).map fun _ => V.int 0) ++ [V.int 1])) hF)
    have e13 := e2.trans (Ex.new (o := .lst (((List.range N).map fun _ => V.int 0) ++ [V.int 1])) hF)
    have hF1 : H1 F = none := Evl.fresh_back e2 hF
    have hrg : RgC ((N : Int) - 1) (-1) (-1) N := by
      have z := RgC.neg (i := (N : Int) - 1) (j := -1) (by omega) (by omega) (by omega) (by omega)
      have hcnt : ((N : Int) - 1 - -1).toNat = N := by omega
      rwa [hcnt] at z
    refine ⟨_, rfl, _, _, rfl, rfl, _, rfl, _, rfl, (N : Int) - 1, -1, -1, N, rfl, hrg, ?_⟩
    refine for_rangeC (lo := (N : Int) - 1) (c := -1) (n := N) (fun i σ H2 => (∃ y5 y6, σ = [some (iV n), some v, some (.ref a), some (.int (N : Int)), some (.ref F), y5, y6]) ∧ Ex H1 H2 ∧ H2 F = some (.lst ((List.range (N + 1)).map fun m => if N - i ≤ m then iV (cntM n B m) else iV 0)))
      ⟨⟨_, _, rfl⟩, e13, ?_⟩ (fun i σ H2 hi p => ?_) (fun σ H2 p => ?_)
    · rw [upd_same, List.range_succ, List.map_append]
      congr 3
      · refine List.map_congr_left fun m hm => ?_
        have z := List.mem_range.mp hm
        rw [if_neg (by omega)]
        rfl
      · show [V.int 1] = [if N - 0 ≤ N then iV (cntM n B N) else iV 0]
        have e : N = 2 ^ n - 1 := by omega
        rw [if_pos (by omega), e, cntM_whole]
        rfl
    · obtain ⟨⟨y5, y6, rfl⟩, e4, g⟩ := p
      obtain ⟨lot, hlot⟩ : ∃ lot, lot = N - 1 - i := ⟨_, rfl⟩
      have hv : (N : Int) - 1 + (i : Nat) * (-1) = (lot : Int) := by omega
      have hlt : lot < N := by omega
      rw [hv]
      have g' : H2 F = some (.lst ((List.range (N + 1)).map fun m => if lot < m then iV (cntM n B m) else if m = lot then iV ((((List.range 0).filter (okM B lot)).map fun t => cntM n B (lot ||| 1 <<< t)).sum) else iV 0)) := by
        rw [g]
        congr 2
        refine List.map_congr_left fun m _ => ?_
        by_cases h : lot < m
        · rw [if_pos h, if_pos (by omega)]
        · rw [if_neg h, if_neg (by omega)]
          by_cases h2 : m = lot
          · rw [if_pos h2]
            rfl
          · rw [if_neg h2]
      refine ⟨_, rfl, (n : Int), rfl, by omega, by omega, ?_⟩
      refine for_range (lo := 0) (n := (n : Int).toNat) (fun j σ H3 => (∃ y6, σ = [some (iV n), some v, some (.ref a), some (.int (N : Int)), some (.ref F), some (.int (lot : Int)), y6]) ∧ Ex H1 H3 ∧ H3 F = some (.lst ((List.range (N + 1)).map fun m => if lot < m then iV (cntM n B m) else if m = lot then iV ((((List.range j).filter (okM B lot)).map fun t => cntM n B (lot ||| 1 <<< t)).sum) else iV 0)))
        ⟨⟨_, rfl⟩, e4, g'⟩ (fun j σ H3 hj p => ?_) (fun σ H3 p => ?_)
      · obtain ⟨⟨y6, rfl⟩, e5, gj⟩ := p
        have hjn : j < n := by omega
        rw [Int.zero_add]
        have ha3 := Evl.ex_l e5 ha
        have haj : atI ((List.range n).map fun t => iV (aheadM B t)) (j : Int) = some (iV (aheadM B j)) := atI_nat (get_range hjn)
        have stay : okM B lot j = false → H3 F = some (.lst ((List.range (N + 1)).map fun m => if lot < m then iV (cntM n B m) else if m = lot then iV ((((List.range (j + 1)).filter (okM B lot)).map fun t => cntM n B (lot ||| 1 <<< t)).sum) else iV 0)) := fun h => by
          rw [gj, List.range_succ (n := j), List.filter_append, List.filter_cons_of_neg (by rw [h]; exact Bool.false_ne_true)]
          simp
        refine ⟨_, rfl, _, rfl, _, _, rfl, rfl, Int.natCast_nonneg _, _, _, rfl, rfl, lot.testBit j, bit_tru, bran (fun hb => ?_) (fun hb => ?_)⟩
        · refine ⟨_, rfl, _, rfl, a, _, (j : Int), _, rfl, rfl, ha3, haj, _, rfl, _, _, rfl, rfl, _, rfl, _, rfl, a, _, (j : Int), _, rfl, rfl, ha3, haj, rfl, _, rfl, bran (fun hc => ?_) (fun hc => ?_)⟩
          · have hok : okM B lot j = true := by
              unfold okM
              have z := V.int.inj (of_decide_eq_true hc)
              rw [band_nat] at z
              have z2 : aheadM B j &&& lot = aheadM B j := by omega
              rw [hb, z2]
              simp
            have hbit : lot.testBit j = false := by
              cases hq : lot.testBit j with
              | false => rfl
              | true => rw [hq] at hb; cases hb
            have hor : lot ||| 1 <<< j < N + 1 := by
              rw [← hN]
              exact or_lt (by omega) hjn
            have hgt := or_gt (m := lot) (t := j) hbit
            have hcur : atI ((List.range (N + 1)).map fun m => if lot < m then iV (cntM n B m) else if m = lot then iV ((((List.range j).filter (okM B lot)).map fun t => cntM n B (lot ||| 1 <<< t)).sum) else iV 0) (lot : Int) = some (iV ((((List.range j).filter (okM B lot)).map fun t => cntM n B (lot ||| 1 <<< t)).sum)) := by
              rw [atI_nat (get_range (by omega)), if_neg (Nat.lt_irrefl _), if_pos rfl]
            refine ⟨_, rfl, _, rfl, F, _, (lot : Int), _, rfl, rfl, SqL.of gj, hcur, _, rfl, _, rfl, _, rfl, _, _, rfl, rfl, ⟨by omega, by omega, by decide⟩, _, _, rfl, rfl, F, _, _, iV (cntM n B (lot ||| 1 <<< j)), rfl, rfl, SqL.of gj, ?_, _, _, rfl, rfl, F, _, (lot : Int), lot, rfl, rfl, gj, ?_, ⟨_, rfl⟩, Ex.mut e5 hF1, ?_⟩
            · rw [shl_nat, bor_nat, atI_nat (get_range hor), if_pos hgt]
            · rw [List.length_map, List.length_range]
              exact ixN_nat (by omega)
            · rw [upd_same, set_range]
              congr 2
              refine List.map_congr_left fun m _ => ?_
              by_cases h : m = lot
              · rw [if_pos h, if_neg (by omega), if_pos h, List.range_succ (n := j), List.filter_append, List.filter_cons_of_pos hok, List.map_append, List.sum_append]
                show V.int ((_ : Nat) + (_ : Nat)) = V.int _
                congr 1
              · rw [if_neg h]
                by_cases h1 : lot < m
                · rw [if_pos h1, if_pos h1]
                · rw [if_neg h1, if_neg h1, if_neg h, if_neg h]
          · refine ⟨⟨_, rfl⟩, e5, stay ?_⟩
            unfold okM
            have z : ¬ V.int (Builtin.bitAnd ((aheadM B j : Nat) : Int) (lot : Int)) = iV (aheadM B j) := of_decide_eq_false hc
            rw [band_nat] at z
            have z2 : ¬ aheadM B j &&& lot = aheadM B j := fun e => z (by rw [e]; rfl)
            rw [beq_eq_false_iff_ne.mpr z2, Bool.and_false]
        · refine ⟨⟨_, rfl⟩, e5, stay ?_⟩
          unfold okM
          have z : lot.testBit j = true := by
            cases hq : lot.testBit j with
            | true => rfl
            | false => rw [hq] at hb; cases hb
          rw [z]
          rfl
      · obtain ⟨⟨y6, rfl⟩, e5, gj⟩ := p
        refine ⟨⟨_, _, rfl⟩, e5, ?_⟩
        rw [gj]
        congr 2
        refine List.map_congr_left fun m _ => ?_
        by_cases h : lot < m
        · rw [if_pos h, if_pos (by omega)]
        · rw [if_neg h]
          by_cases h2 : m = lot
          · rw [if_pos h2, if_pos (by omega), h2, Int.toNat_natCast, cntM_row (things_small (by omega)), nexts_okM hB holds_things]
          · rw [if_neg h2, if_neg (by omega)]
    · obtain ⟨⟨y5, y6, rfl⟩, e4, g⟩ := p
      refine ⟨_, rfl, q F H2 (e1.trans e4) (SqL.of ?_)⟩
      rw [g, hN]
      congr 2
      refine List.map_congr_left fun m _ => ?_
      rw [if_pos (by omega)]
-- count_orders: 0 many  1 book
theorem sc_count_orders : FnScope ["many", "book"] ["many", "book"] (defScope (topS 29)) := ⟨rfl, rfl, rfl, by decide +kernel, rfl, by decide +kernel, by decide +kernel⟩
/-- too many things -/
def manyErr (Y : XTxt K mg) (H : Hp) (E : XK) : Prop := ∀ H' d, Ex H H' → H' d = some (.xd [("most", .int 14)]) → E (.ref Y.M.C) (some d) H'
def spCount (Y : XTxt K mg) : Sp := fun vs H Q E => ∃ vm dm vt dt, vs = [vm, vt] ∧ Dx K H vm dm ∧ Dx K H vt dt ∧ lenD dt ≤ 1000 ∧ bookErr Y dm dt H E ∧ ∀ n B, RightB dm dt n B →
  (14 < n → manyErr Y H E) ∧ (n ≤ 14 → ∀ H', Ex H H' → Q (iV (lev n B n).length) H')
theorem ok_count_orders : FnOk P w K mg base (L2.CX P w) 7 T.count_orders.f T.count_orders.fd ["many", "book"] (spCount Y) := by
  have G_check_book : FnOk P w K mg base (L2.CX P w) 6 T.check_book.f T.check_book.fd ["many", "thing"] (spBook Y) := ok_check_book T Y
  have G_check_few : FnOk P w K mg base (L2.CX P w) 3 T.check_few.f T.check_few.fd ["many"] (spFew Y) := ok_check_few T Y
  have G_ways_on : FnOk P w K mg base CX0 2 T.ways_on.f T.ways_on.fd ["many", "pairs"] (spWays K) := ok_ways_on T
  refine T.count_orders.F.okX sc_count_orders (fun vs H Q E h => ?_) (fun cdv A outer s H vs Q E hr h => ?_)
  · obtain ⟨vm, dm, vt, dt, rfl, _⟩ := h
    rfl
  · obtain ⟨vm, dm, vt, dt, rfl, hm, ht, hl, q1, q2⟩ := h
    refine ⟨_, (pss_cons (ps_expr (pe_call G_check_book (hr.mono (by decide)) (by rfl) T.check_book.g T.check_book.F.kp T.check_book.b .nil (passes_call (takes_of rfl rfl rfl rfl) fun _ _ _ _ h => h) (pa_cons (pv 0) (pa_cons (pv 1) pa_nil))))
    (pss_cons (ps_expr (pe_call G_check_few (hr.mono (by decide)) (by rfl) T.check_few.g T.check_few.F.kp T.check_few.b .nil (passes_call (takes_of rfl rfl rfl rfl) fun _ _ _ _ h => h) (pa_cons (pv 0) pa_nil)))
    (pss_one (ps_ret (pe_ix ix_list (pe_call G_ways_on (hr.mono (by decide)) (by rfl) T.ways_on.g T.ways_on.F.kp T.ways_on.b .nil pass0 (pa_cons (pv 0) (pa_cons (pv 1) pa_nil))) pe_int (fun _ _ => rfl)))))), ?_⟩
    refine ⟨_, rfl, _, rfl, vm, dm, vt, dt, rfl, hm, ht, q1, fun hw k e hf H1 e1 => ?_⟩
    obtain ⟨n, B, rfl, R⟩ := right_of hw e hf hl
    obtain ⟨g0, g1⟩ := q2 n B R
    have hm' := hm
    rw [e] at hm'
    have em := dx_int hm'
    subst em
    refine ⟨_, rfl, (n : Int), rfl, fun hle => ?_, fun hgt H2 d e2 hd => g0 (by omega) H2 d (e1.trans e2) hd⟩
    refine ⟨_, rfl, _, rfl, n, B, vt, rfl, ?_, R.bk.lt, R.lo, by omega, fun r H2 e2 hr2 => ?_⟩
    · rw [← R.t]
      exact ht.ex e1
    have z := g1 (by omega) H2 (e1.trans e2)
    rw [← cntM_zero] at z
    exact ⟨r, _, 0, _, rfl, rfl, hr2, atI_nat (j := 0) (get_range (Nat.two_pow_pos n)), z⟩
-- order_at: 0 many  1 book  2 number  3 known  4 ahead  5 found  6 lot  7 thing  8 some
theorem sc_order_at : FnScope ["many", "book", "number", "known", "ahead", "found", "lot", "thing", "some"] ["many", "book", "number"] (defScope (topS 30)) := ⟨rfl, rfl, rfl, by decide +kernel, rfl, by decide +kernel, by decide +kernel⟩
def spOrderAt (Y : XTxt K mg) : Sp := fun vs H Q E => ∃ vm dm vt dt x dx, vs = [vm, vt, x] ∧ Dx K H vm dm ∧ Dx K H vt dt ∧ Dx K H x dx ∧ lenD dt ≤ 1000 ∧ bookErr Y dm dt H E ∧ ∀ n B, RightB dm dt n B →
  (14 < n → manyErr Y H E) ∧ (n ≤ 14 → isWithinD 0 (((lev n B n).length : Nat) - 1 : Int) dx = false → ∀ H', Ex H H' → E (.ref Y.N) none H') ∧
  (n ≤ 14 → isWithinD 0 (((lev n B n).length : Nat) - 1 : Int) dx = true → ∀ (r : Addr) (p : List Nat) (k : Nat) (H' : Hp), Ex H H' → dx = .int (k : Int) → (lev n B n)[k]? = some p → SqT K H' r (p.map iV) → Q (.ref r) H')
/-- what goes on from p, the next thing at j or beyond -/
def tailC (n : Nat) (E : Edges) (lot k : Nat) (p : List Nat) (j : Nat) : List (List Nat) := ((List.range' j (n - j)).filter (okM E lot)).flatMap fun t => comp n E k (p ++ [t])
theorem tail_zero {n : Nat} {E : Edges} (hE : ∀ q ∈ E, q.1 < n ∧ q.2 < n ∧ q.1 ≠ q.2) {p : List Nat} {lot k : Nat} (h : Holds n p lot) : tailC n E lot k p 0 = comp n E (k + 1) p := by
  unfold tailC
  rw [Nat.sub_zero, ← List.range_eq_range', ← nexts_okM hE h]
  rfl
theorem tail_yes {n : Nat} {E : Edges} {p : List Nat} {lot k j : Nat} (hj : j < n) (h : okM E lot j = true) : tailC n E lot k p j = comp n E k (p ++ [j]) ++ tailC n E lot k p (j + 1) := by
  unfold tailC
  have e : n - j = (n - (j + 1)) + 1 := by omega
  rw [e, List.range'_succ, List.filter_cons_of_pos h, List.flatMap_cons]
theorem tail_no {n : Nat} {E : Edges} {p : List Nat} {lot k j : Nat} (hj : j < n) (h : okM E lot j = false) : tailC n E lot k p j = tailC n E lot k p (j + 1) := by
  unfold tailC
  have e : n - j = (n - (j + 1)) + 1 := by omega
  rw [e, List.range'_succ, List.filter_cons_of_neg (by rw [h]; exact Bool.false_ne_true)]
theorem tail_end {n : Nat} {E : Edges} {p : List Nat} {lot k : Nat} : tailC n E lot k p n = [] := by
  unfold tailC
  rw [Nat.sub_self]
  rfl
end
end K3
set_option Elab.async false
set_option linter.all false
set_option maxRecDepth 100000
set_option maxHeartbeats 4000000
/-! order_at. -/
namespace K3
open PySem PySem.Spec PyProof.Rows L2
open Evl (Ex)
section
variable {P : Program} {w : World} {K : PySem.W.Frag} {mg : Str → Option Value} {base : Heap} (T : Txt K mg) (Y : XTxt K mg)
theorem ok_order_at : FnOk P w K mg base (L2.CX P w) 7 T.order_at.f T.order_at.fd ["many", "book", "number"] (spOrderAt Y) := by
  have G_check_book : FnOk P w K mg base (L2.CX P w) 6 T.check_book.f T.check_book.fd ["many", "thing"] (spBook Y) := ok_check_book T Y
  have G_check_few : FnOk P w K mg base (L2.CX P w) 3 T.check_few.f T.check_few.fd ["many"] (spFew Y) := ok_check_few T Y
  have G_check_number : FnOk P w K mg base (L2.CX P w) 3 T.check_number.f T.check_number.fd ["thing", "least", "most"] (spCheckNum K Y.N) := ok_check_number T Y
  have G_ways_on : FnOk P w K mg base CX0 2 T.ways_on.f T.ways_on.fd ["many", "pairs"] (spWays K) := ok_ways_on T
  have G_masks_ahead : FnOk P w K mg base CX0 1 T.masks_ahead.f T.masks_ahead.fd ["many", "pairs"] (spMasks K) := ok_masks_ahead T
  refine T.order_at.F.okX sc_order_at (fun vs H Q E h => ?_) (fun cdv A outer s H vs Q E hr h => ?_)
  · obtain ⟨vm, dm, vt, dt, x, dx, rfl, _⟩ := h
    rfl
  · obtain ⟨vm, dm, vt, dt, x, dx, rfl, hm, ht, hx, hl, q1, q2⟩ := h
    refine ⟨_, (pss_cons (ps_expr (pe_call G_check_book (hr.mono (by decide)) (by rfl) T.check_book.g T.check_book.F.kp T.check_book.b .nil (passes_call (takes_of rfl rfl rfl rfl) fun _ _ _ _ h => h) (pa_cons (pv 0) (pa_cons (pv 1) pa_nil))))
    (pss_cons (ps_expr (pe_call G_check_few (hr.mono (by decide)) (by rfl) T.check_few.g T.check_few.F.kp T.check_few.b .nil (passes_call (takes_of rfl rfl rfl rfl) fun _ _ _ _ h => h) (pa_cons (pv 0) pa_nil)))
    (pss_cons (ps_set (i := 3) sc_order_at.nd rfl (.inl rfl) (pe_call G_ways_on (hr.mono (by decide)) (by rfl) T.ways_on.g T.ways_on.F.kp T.ways_on.b .nil pass0 (pa_cons (pv 0) (pa_cons (pv 1) pa_nil))))
    (pss_cons (ps_expr (pe_call G_check_number (hr.mono (by decide)) (by rfl) T.check_number.g T.check_number.F.kp T.check_number.b .nil (passes_call (takes_of rfl rfl rfl rfl) fun _ _ _ _ h => h) (pa_cons (pv 2) (pa_cons pe_int (pa_cons (pe_op op_sub (pe_ix ix_list (pv 3) pe_int (fun _ _ => rfl)) pe_int) pa_nil)))))
    (pss_cons (ps_set (i := 4) sc_order_at.nd rfl (.inl rfl) (pe_call G_masks_ahead (hr.mono (by decide)) (by rfl) T.masks_ahead.g T.masks_ahead.F.kp T.masks_ahead.b .nil pass0 (pa_cons (pv 0) (pa_cons (pv 1) pa_nil))))
    (pss_cons (ps_set (i := 5) sc_order_at.nd rfl (.inl rfl) (pe_lst pa_nil))
    (pss_cons (ps_set (i := 6) sc_order_at.nd rfl (.inl rfl) pe_int)
    (pss_cons (ps_while (passes_of rfl) (pt_cmpR op_lt (pe_callB call_len_seq (by rfl) T.m_len PySem.boot_len (pa_cons (pv 5) pa_nil)) (pv 0) (nomark _)) (pss_one (ps_for (passes_of rfl) rfl (pi_range1 (by rfl) T.m_range (pa_cons (pv 0) pa_nil)) (pg_name (i := 7) sc_order_at.nd rfl (.inl rfl)) (pss_cons (ps_set (i := 8) sc_order_at.nd rfl (.inl rfl) (pe_ix ix_list (pv 3) (pe_op op_or (pv 6) (pe_op op_shl pe_int (pv 7))) (fun _ _ => rfl)))
    (pss_one (ps_if (PW.pt (pw_and (pt_not (pt_truth (pe_op op_and (pe_op op_shr (pv 6) (pv 7)) pe_int) (by intro _; rfl))) (pw_and1 (pt_cmpR op_eq (pe_op op_and (pe_ix ix_list (pv 4) (pv 7) (fun _ _ => rfl)) (pv 6)) (pe_ix ix_list (pv 4) (pv 7) (fun _ _ => rfl)) (nomark _))))) (pss_cons (ps_if (pt_cmpR op_lt (pv 2) (pv 8) (nomark _)) (pss_cons (ps_expr (pe_bm PySem.F.plainAttrs_list PySem.F.slot_list_append PySem.F.type_list_append mt_append (pv 5) (pa_cons (pv 7) pa_nil)))
    (pss_cons (ps_aug (i := 6) sc_order_at.nd rfl (.inl rfl) (pe_op op_shl pe_int (pv 7)) iop_or)
    (pss_one ps_break))) pss_nil)
    (pss_one (ps_aug (i := 2) sc_order_at.nd rfl (.inl rfl) (pv 8) ip_sub))) pss_nil))))))
    (pss_one (ps_ret (pe_callTy call_tuple_of (by rfl) T.m_tuple boot_tuple (pa_cons (pv 5) pa_nil)))))))))))), ?_⟩
    refine ⟨_, rfl, _, rfl, vm, dm, vt, dt, rfl, hm, ht, q1, fun hw k e hf H1 e1 => ?_⟩
    obtain ⟨n, B, rfl, R⟩ := right_of hw e hf hl
    obtain ⟨g0, g1, g2⟩ := q2 n B R
    have hm' := hm
    rw [e] at hm'
    have em := dx_int hm'
    subst em
    have hB := R.bk.lt
    refine ⟨_, rfl, (n : Int), rfl, fun hle => ?_, fun hgt H2 d e2 hd => g0 (by omega) H2 d (e1.trans e2) hd⟩
    have hn : n ≤ 14 := by omega
    have hT : ∀ {H2 : Hp}, Ex H1 H2 → Dx K H2 vt (.tuple (B.map pD)) := fun e2 => by
      rw [← R.t]
      exact ht.ex (e1.trans e2)
    refine ⟨_, rfl, _, rfl, n, B, vt, rfl, hT (Ex.refl _), hB, R.lo, hn, fun kn H2 e2 hkn => ?_⟩
    refine ⟨_, rfl, _, rfl, kn, _, 0, _, rfl, rfl, hkn, atI_nat (j := 0) (get_range (Nat.two_pow_pos n)), _, _, rfl, rfl, x, dx, 0, _, rfl, hx.ex (e1.trans e2), fun hwi => ?_, fun hwi => ?_⟩
    · rw [cntM_zero] at hwi
      have g3 := g2 hn hwi
      obtain ⟨k0, rfl, k1, k2⟩ := within_int hwi
      have ex := dx_int hx
      subst ex
      obtain ⟨k, rfl⟩ : ∃ k : Nat, k0 = (k : Int) := ⟨k0.toNat, by omega⟩
      have hk : k < (lev n B n).length := by omega
      obtain ⟨tgt, htgt⟩ : ∃ p, (lev n B n)[k]? = some p := ⟨_, List.getElem?_eq_getElem hk⟩
      refine ⟨_, rfl, _, rfl, n, B, vt, rfl, hT e2, hB, by omega, fun a H3 e3 ha => ?_⟩
      refine ⟨by simp, fun F hF => ?_⟩
      have hF0 : H F = none := Evl.fresh_back ((e1.trans e2).trans e3) hF
      have hF3 : H3 F = none := hF
      refine ⟨fun m σ H' => ∃ p lot k', m = n - p.length ∧ (∃ y7 y8, σ = [some (iV n), some vt, some (.int ((k' : Nat) : Int)), some (.ref kn), some (.ref a), some (.ref F), some (.int ((lot : Nat) : Int)), y7, y8]) ∧ Ex H3 H' ∧ H' F = some (.lst (p.map iV)) ∧ Holds n p lot ∧ lot < 2 ^ n ∧ p.Nodup ∧ (∀ x ∈ p, x < n) ∧ p.length ≤ n ∧ (comp n B (n - p.length) p)[k']? = some tgt,
        ⟨n, [], 0, k, rfl, ⟨_, _, rfl⟩, Ex.new hF, upd_same, Holds.zero, Nat.two_pow_pos n, by simp, by simp, by simp, ?_⟩, ?_⟩
      · rw [List.length_nil, Nat.sub_zero, ← lev_all]
        exact htgt
      rintro m σ H4 ⟨p, lot, k', rfl, ⟨y7, y8, rfl⟩, e4, hFp, hH, hlot, hnd, hpn, hpl, hc⟩
      refine ⟨_, rfl, _, _, rfl, .inl (SqL.of hFp), _, rfl, _, _, rfl, rfl, _, rfl, bran (fun hlt => ?_) (fun hlt => ?_)⟩
      · have hpn' : p.length < n := by
          have z := of_decide_eq_true hlt
          rw [List.length_map] at z
          omega
        obtain ⟨r, hr0⟩ : ∃ r, n - p.length = r + 1 := ⟨n - p.length - 1, by omega⟩
        rw [hr0, ← tail_zero hB hH] at hc
        refine ⟨fun σ' H' => ∃ p' lot' k2, p'.length = p.length + 1 ∧ (∃ y7 y8, σ' = [some (iV n), some vt, some (.int ((k2 : Nat) : Int)), some (.ref kn), some (.ref a), some (.ref F), some (.int ((lot' : Nat) : Int)), y7, y8]) ∧ Ex H3 H' ∧ H' F = some (.lst (p'.map iV)) ∧ Holds n p' lot' ∧ lot' < 2 ^ n ∧ p'.Nodup ∧ (∀ x ∈ p', x < n) ∧ (comp n B r p')[k2]? = some tgt,
          fun σ' H' ⟨p', lot', k2, z1, z2, z3, z4, z5, z6, z7, z8, z9⟩ => ⟨n - p'.length, by omega, p', lot', k2, rfl, z2, z3, z4, z5, z6, z7, z8, by omega, ?_⟩, ?_⟩
        · have z : n - p'.length = r := by omega
          rw [z]
          exact z9
        refine ⟨_, rfl, (n : Int), rfl, by omega, by omega, ?_⟩
        refine for_range (lo := 0) (n := (n : Int).toNat) (fun j σ H5 => ∃ k2, (∃ y7 y8, σ = [some (iV n), some vt, some (.int ((k2 : Nat) : Int)), some (.ref kn), some (.ref a), some (.ref F), some (.int ((lot : Nat) : Int)), y7, y8]) ∧ H5 = H4 ∧ (tailC n B lot r p j)[k2]? = some tgt)
          ⟨k', ⟨_, _, rfl⟩, rfl, hc⟩ (fun j σ H5 hj p5 => ?_) (fun σ H5 p5 => ?_)
        · obtain ⟨k2, ⟨y7, y8, rfl⟩, rfl, ht2⟩ := p5
          have hjn : j < n := by omega
          rw [Int.zero_add]
          have hkn3 := Evl.ex_l (e3.trans e4) hkn
          have ha3 := Evl.ex_l e4 ha
          have haj : atI ((List.range n).map fun t => iV (aheadM B t)) (j : Int) = some (iV (aheadM B j)) := atI_nat (get_range hjn)
          have hor : lot ||| 1 <<< j < 2 ^ n := or_lt hlot hjn
          refine ⟨_, rfl, _, rfl, _, rfl, _, _, rfl, rfl, ⟨by omega, by omega, by decide⟩, _, _, rfl, rfl, kn, _, _, iV (cntM n B (lot ||| 1 <<< j)), rfl, rfl, hkn3, ?_, ?_⟩
          · rw [shl_nat, bor_nat, atI_nat (get_range hor)]
          refine ⟨_, rfl, _, rfl, _, _, rfl, rfl, Int.natCast_nonneg _, _, _, rfl, rfl, lot.testBit j, bit_tru, bran (fun hb => ?_) (fun hb => ?_)⟩
          · refine ⟨_, rfl, _, rfl, a, _, (j : Int), _, rfl, rfl, ha3, haj, _, rfl, _, _, rfl, rfl, _, rfl, _, rfl, a, _, (j : Int), _, rfl, rfl, ha3, haj, rfl, _, rfl, bran (fun hc2 => ?_) (fun hc2 => ?_)⟩
            · have hok : okM B lot j = true := by
                unfold okM
                have z := V.int.inj (of_decide_eq_true hc2)
                rw [band_nat] at z
                have z2 : aheadM B j &&& lot = aheadM B j := by omega
                rw [hb, z2]
                simp
              have hbit : lot.testBit j = false := by
                cases hq : lot.testBit j with
                | false => rfl
                | true => rw [hq] at hb; cases hb
              have hjp : j ∉ p := fun z => by
                have q := (hH j hjn).mpr z
                rw [hbit] at q
                cases q
              have hnd2 : (p ++ [j]).Nodup := List.nodup_append.mpr ⟨hnd, by simp, fun u hu v hv => by
                rw [List.mem_singleton.mp hv]
                exact fun z => hjp (z ▸ hu)⟩
              have hpn2 : ∀ x ∈ p ++ [j], x < n := fun x hx => by
                rcases List.mem_append.mp hx with z | z
                · exact hpn x z
                · rw [List.mem_singleton.mp z]
                  exact hjn
              have hcn : cntM n B (lot ||| 1 <<< j) = (comp n B r (p ++ [j])).length := by
                rw [(hH.add (t := j)).cnt hpn2 hnd2]
                unfold cnt
                congr 2
                rw [List.length_append, List.length_singleton]
                omega
              rw [tail_yes hjn hok] at ht2
              refine ⟨_, rfl, _, rfl, _, _, rfl, rfl, _, rfl, bran (fun hk2 => ?_) (fun hk2 => ?_)⟩
              · have hk3 : k2 < (comp n B r (p ++ [j])).length := by
                  have z := of_decide_eq_true hk2
                  rw [← hcn]
                  omega
                rw [List.getElem?_append_left hk3] at ht2
                refine ⟨_, rfl, .inl ⟨rfl, _, SqL.of hFp⟩, _, rfl, F, _, _, rfl, rfl, hFp, ?_, ?_⟩
                · rw [List.length_map, sizeLine_eq]
                  omega
                have hl : V.int (Builtin.bitOr (lot : Int) ((1 : Int) * (2 : Int) ^ ((j : Int).toNat))) = V.int ((lot ||| 1 <<< j : Nat) : Int) := by rw [shl_nat, bor_nat]
                refine ⟨_, rfl, _, rfl, _, _, rfl, rfl, ⟨by omega, by omega, by decide⟩, _, _, rfl, rfl, p ++ [j], lot ||| 1 <<< j, k2, by simp, ⟨some (.int (j : Int)), some (iV (cntM n B (lot ||| 1 <<< j))), by rw [← hl]; rfl⟩, Ex.mut e4 hF3, ?_, hH.add, hor, hnd2, hpn2, ht2⟩
                rw [upd_same, List.map_append]
                rfl
              · have hk3 : (comp n B r (p ++ [j])).length ≤ k2 := by
                  have z := of_decide_eq_false hk2
                  rw [← hcn]
                  omega
                rw [List.getElem?_append_right hk3] at ht2
                have hl : V.int ((k2 : Int) - ((cntM n B (lot ||| 1 <<< j) : Nat) : Int)) = V.int ((k2 - (comp n B r (p ++ [j])).length : Nat) : Int) := by
                  rw [hcn]
                  congr 1
                  omega
                exact ⟨_, rfl, _, rfl, _, _, rfl, rfl, k2 - (comp n B r (p ++ [j])).length, ⟨some (.int (j : Int)), some (iV (cntM n B (lot ||| 1 <<< j))), by rw [← hl]; rfl⟩, rfl, ht2⟩
            · refine ⟨k2, ⟨_, _, rfl⟩, rfl, ?_⟩
              rw [← tail_no hjn]
              · exact ht2
              unfold okM
              have z : ¬ V.int (Builtin.bitAnd ((aheadM B j : Nat) : Int) (lot : Int)) = iV (aheadM B j) := of_decide_eq_false hc2
              rw [band_nat] at z
              have z2 : ¬ aheadM B j &&& lot = aheadM B j := fun e => z (by rw [e]; rfl)
              rw [beq_eq_false_iff_ne.mpr z2, Bool.and_false]
          · refine ⟨k2, ⟨_, _, rfl⟩, rfl, ?_⟩
            rw [← tail_no hjn]
            · exact ht2
            unfold okM
            have z : lot.testBit j = true := by
              cases hq : lot.testBit j with
              | true => rfl
              | false => rw [hq] at hb; cases hb
            rw [z]
            rfl
        · obtain ⟨k2, _, _, ht2⟩ := p5
          rw [Int.toNat_natCast, tail_end] at ht2
          cases ht2
      · have hpn' : p.length = n := by
          have z := of_decide_eq_false hlt
          rw [List.length_map] at z
          omega
        have e0 : n - p.length = 0 := by omega
        rw [e0] at hc
        have ept : p = tgt ∧ True := by
          have z : ([p] : List (List Nat))[k']? = some tgt := hc
          cases k' with
          | zero => exact ⟨Option.some.inj z, trivial⟩
          | succ k => cases z
        refine ⟨_, rfl, F, _, rfl, .inl ⟨SqL.of hFp, fun r hr => ?_⟩⟩
        refine g3 r p k _ ((((e1.trans e2).trans e3).trans e4).trans (Ex.new hr)) rfl ?_ (SqT.of upd_same)
        rw [ept.1]
        exact htgt
    · rw [cntM_zero] at hwi
      exact g1 hn hwi H2 (e1.trans e2)
end
end K3
set_option Elab.async false
set_option linter.all false
set_option maxRecDepth 100000
set_option maxHeartbeats 4000000
/-! Promises of defs that are called with no guard standing (repr of nested things asks for it). -/
namespace K3
open PySem PySem.Spec PyProof.Rows L2
open Evl (Ex)
/-- a promise that holds where no guard stands -/
structure FnG (P : Program) (w : World) (K : PySem.W.Frag) (mg : Str → Option Value) (base : Heap) (k : Nat) (f : Addr) (fd : FuncData) (ps : List Str) (sp : Sp) : Prop where
  len : ∀ vs H Q E, sp vs H Q E → vs.length = ps.length
  run : ∀ (A : Around) (outer : List Env) (s : Shared) (H : Hp) (args : Args) (us : List Value) (vs : List V) (Q : VK) (E : XK), Room k A → A.guards = some [] → Env0 P w K mg base A outer s H → BindsTo s fd args (ps.zip us) → Vals vs us → sp vs H Q E →
    codeAny (model P w) A (.call (.ref f) args) (CR CX0 outer P w H s Q E) s
section
variable {P : Program} {w : World} {K : PySem.W.Frag} {mg : Str → Option Value} {base : Heap}
theorem FnG.of {k : Nat} {f : Addr} {fd : FuncData} {ps : List Str} {sp : Sp} (F : FnOk P w K mg base CX0 k f fd ps sp) : FnG P w K mg base k f fd ps sp :=
  ⟨F.len, fun A outer s H args us vs Q E hr _ e0 hb hv hs => F.run A outer s H args us vs Q E hr e0 hb hv hs⟩
/-- a def by its body, no guard standing -/
theorem okG {x qual : Str} {st : Stmt} {f : Addr} {fd : FuncData} {N ps : List Str} {k : Nat} {sp : Sp} (F : Fun K x qual st f fd) (S : FnScope N ps (defScope st)) (len : ∀ vs H Q E, sp vs H Q E → vs.length = ps.length)
    (hbody : ∀ (cdv : Value) (A : Around) (outer : List Env) (s : Shared) (H : Hp) (vs : List V) (Q : VK) (E : XK), Room k (A.deeper (envOfC qual (defScope st) s.heap.objs.size f cdv)) → (A.deeper (envOfC qual (defScope st) s.heap.objs.size f cdv)).guards = some [] → sp vs H Q E →
      ∃ t, PSs (cxOf CX0 P w K mg base N qual (defScope st) f cdv A outer s H E).nox (defBody st) t ∧ t { nx := fun _ H' => Q .non H', rt := Q } (L2.start N vs) H) : FnG P w K mg base (k + 1) f fd ps sp := by
  obtain ⟨oc, od, kV, doc, pm, an, cdv, ct, osl, rfl, lk, hcd⟩ := F.ex
  refine ⟨len, fun A outer s H args us vs Q E hr hgu e0 hb r hsp => ?_⟩
  have hl := len _ _ _ _ hsp
  have KX : K.In s.heap := e0.mod.kin.keeps fun b o e => (e0.bs b o e).1
  have lim : s.heap.NoLimit := e0.mod.nolimit.keeps fun b o e => (e0.bs b o e).1
  have hkind : ∀ y ∈ ps.zip us, (defScope st).names.lookup y.1 = some .local ∨ ((defScope st).names.lookup y.1 = some .cell ∧ ((cellsFrom (s.heap.objs.size + 1) (defScope st).names []).lookup y.1).isSome = true) := fun ⟨n, v⟩ hy => by
    rcases S.par n (List.of_mem_zip hy).1 with q | q
    · exact .inl q
    · exact .inr ⟨q, PySem.W.cellsFrom_some _ _ _ (.inl q)⟩
  refine codeAny_call_function hr.depth (KX _ _ lk) rfl S.co S.gen rfl (PySem.W.codeRec_of KX hcd) (hb _ _ _ _ ?_)
  refine wpAny_newFunctionEnv_cells S.kind hkind fun env he s1 y => ?_
  subst he
  refine ⟨lim.keeps y.toInCall.keep, codeAny_func ?_⟩
  obtain ⟨t, ht0, hq⟩ := hbody cdv A outer s H vs Q E (hr.deeper _) hgu hsp
  have ht := ht0.nox
  have I : Inv (cxOf CX0 P w K mg base N qual (defScope st) f cdv A outer s H E) [] (L2.start N vs) H s1 := inv_start S hr.hd e0 hl r y
  refine wpAny_mono (ht.run [] s1 (L2.start N vs) H _ I hq) (fun fl s' hs => ?_) fun e s' hs => hs
  have fin : ∀ {σ' : L2.St} {H' : Hp} {v : V} {u : Value}, Inv (cxOf CX0 P w K mg base N qual (defScope st) f cdv A outer s H E) [] σ' H' s' → RelV v u → Q v H' → CE outer P w H s Q u s' :=
    fun {σ' H' v u} J rv q => ⟨v, H', J.os, J.bare, J.base, J.hok, rv, q⟩
  cases fl with
  | ret u =>
    obtain ⟨v, σ', H', J, rv, q⟩ := hs
    exact fin J rv q
  | next =>
    obtain ⟨σ', H', J, q⟩ := hs
    exact fin (v := V.non) (u := Value.none) J rfl q
  | brk =>
    obtain ⟨_, _, _, q⟩ := hs
    exact False.elim q
  | cont =>
    obtain ⟨_, _, _, q⟩ := hs
    exact False.elim q
end
section
variable {X : Cx} {k : Nat} {f : Addr} {fd : FuncData} {ps : List Str} {sp : Sp} {E : XK} {x : Str} {p pos : Pos} {e : Expr} {es : List Expr} {ta : TE} {t : TA}
theorem run_fnG {pins : List (Addr × Obj)} {σ : L2.St} {H : Hp} {s : Shared} {Q : VK} {us : List Value} {vs : List V} (F : FnG X.prog X.w X.K X.mg X.base k f fd ps sp) (hr : Room k X.A) (hgu : X.A.guards = some []) (hb : Binds X.K fd ps [])
    (I : Inv X pins σ H s) (r : Vals vs us) (h : sp vs H Q E) : wpAny (model X.prog X.w) X.A (call (.ref f) us) (EP X pins σ Q) X.xe s := by
  have hl : us.length = ps.length := by rw [← r.length]; exact F.len _ _ _ _ h
  refine wpAny_call (codeAny_mono (F.run X.A X.stack s H ⟨us, []⟩ us vs Q E hr hgu I.env0 (by have z := hb s us I.kIn (by simpa using hl); simpa using z) r h) fun r s' hq => ?_)
  cases r with
  | error e => exact hq.elim
  | ok fl =>
    cases fl with
    | ret u => exact I.after hq
    | next => exact False.elim hq
    | brk => exact False.elim hq
    | cont => exact False.elim hq
theorem pe_callG (F : FnG X.prog X.w X.K X.mg X.base k f fd ps sp) (hr : Room k X.A) (hgu : X.A.guards = some []) (hg : Gl X x) (hm : X.mg x = some (.ref f)) (hk : PySem.W.keepIn X.K (.ref f) = true) (hb : Binds X.K fd ps [])
    (ha : PA X (e :: es) t) (hdb : (x == ("__debug__" : Str)) = false := by decide) (he : starEach (e :: es) X.env = (false, eval e X.env) :: starEach es X.env := by rfl) (hpl : (backTo pos (starEach es X.env)).any (·.1) = false := by rfl) :
    PE X (.Call (.Name x p) (e :: es) [] pos) (fun σ H Q => t σ H fun vs H1 => sp vs H1 Q fun _ _ _ => False) := by
  refine ⟨fun pins s σ H Q I h => ?_⟩
  refine wpAny_Call_Name_kw (ld_glob I hg hm ?_ hdb)
  refine PySem.W.callWith_K (h₀ := X.base) I.ok.mod.kin hk (thn (ha.run pos pins s σ H _ I h) fun us s1 ⟨vs, H1, I1, r, q⟩ => ⟨I1.kIn, ?_⟩) he hpl
  exact run_fnG F hr hgu hb I1 r q
def rRepr (K : PySem.W.Frag) : List V → Hp → VK → Prop := fun vs H Q => ∃ a d, vs = [.ref a] ∧ Dp K H (.ref a) d ∧ d.showable = true ∧ d.hasDict = false ∧ d.depth ≤ 60 ∧ d.shown.length ≤ sizeLine ∧ Q (.str d.shown) H
theorem cr_repr (hgu : X.A.guards = some []) (hu : X.A.units + 65 < cLine) : CallR X (.builtin "repr") (rRepr X.K) := by
  intro pins s σ H vs us Q I r h
  obtain ⟨a, d, rfl, hd, h1, h2, h3, h4, q⟩ := h
  rw [Vals.ref1 r]
  obtain ⟨as, rd⟩ := Dp.reads I d (.ref a) (.ref a) hd rfl
  refine PySem.repr_of_reads' rd h1 (fun z => by rw [h2] at z; cases z) hgu (by omega) (fun b o e => e) (fun h' u tk hk => ?_) h4
  exact ⟨.str _, H, I.kept (t' := tk) hk, ⟨_, rfl⟩, q⟩
end
section
variable {P : Program} {w : World} {K : PySem.W.Frag} {mg : Str → Option Value} {base : Heap} (T : Txt K mg)
-- _law_is: 0 _law_told  1 _law_due_here
theorem sc_law_is : FnScope ["_law_told", "_law_due_here"] ["_law_told", "_law_due_here"] (defScope (topS 36)) := ⟨rfl, rfl, rfl, by decide +kernel, rfl, by decide +kernel, by decide +kernel⟩
/-- both the same data -/
def spIs (K : PySem.W.Frag) : Sp := fun vs H Q _ => ∃ a b d, vs = [.ref a, .ref b] ∧ Dp K H (.ref a) d ∧ Dp K H (.ref b) d ∧ d.showable = true ∧ d.hasDict = false ∧ d.depth ≤ 60 ∧ d.shown.length ≤ sizeLine ∧ Q (.bl true) H
theorem ok_law_is : FnG P w K mg base 1 T.law_is.f T.law_is.fd ["_law_told", "_law_due_here"] (spIs K) := by
  refine okG T.law_is.F sc_law_is (fun vs H Q E h => ?_) (fun cdv A outer s H vs Q E hr hgu h => ?_)
  · obtain ⟨a, b, d, rfl, _⟩ := h
    rfl
  · obtain ⟨a, b, d, rfl, h1, h2, k1, k2, k3, k4, q⟩ := h
    refine ⟨_, (pss_one (ps_ret (pe_cmpR op_eq (pe_callB (cr_repr hgu (hu65 hr)) (by rfl) T.m_repr boot_repr (pa_cons (pv 0) pa_nil)) (pe_callB (cr_repr hgu (hu65 hr)) (by rfl) T.m_repr boot_repr (pa_cons (pv 1) pa_nil)) (nomark _)))), ?_⟩
    refine ⟨_, rfl, a, d, rfl, h1, k1, k2, k3, k4, _, rfl, b, d, rfl, h2, k1, k2, k3, k4, rfl, ?_⟩
    have e : decide (V.str d.shown = V.str d.shown) = true := decide_eq_true rfl
    rw [e]
    exact q
end
end K3
set_option Elab.async false
set_option linter.all false
set_option maxRecDepth 100000
set_option maxHeartbeats 4000000
/-! The law's draws. -/
namespace K3
open PySem PySem.Spec PyProof.Rows L2
open Evl (Ex)
/-- a pool of draws at p, its cells at c -/
structure PoolAt (H : Hp) (p c : Addr) : Prop where
  ne : p ≠ c
  at_ : ∃ (s n : Int) (cells : List Int), H p = some (.lst [.int s, .int n, .ref c]) ∧ H c = some (.lst (cells.map V.int)) ∧ cells.length ≤ 64
theorem PoolAt.ex {H H' : Hp} {p c : Addr} (e : Ex H H') (h : PoolAt H p c) : PoolAt H' p c := by
  obtain ⟨s, n, cells, h1, h2, h3⟩ := h.at_
  exact ⟨h.ne, s, n, cells, e _ _ h1, e _ _ h2, h3⟩
/-- without the pool -/
def cut (p c : Addr) (H : Hp) : Hp := fun b => if b = p ∨ b = c then none else H b
theorem cut_le {p c : Addr} {H : Hp} : Ex (cut p c H) H := fun b o h => by
  unfold cut at h
  by_cases e : b = p ∨ b = c
  · rw [if_pos e] at h
    cases h
  · rw [if_neg e] at h
    exact h
theorem cut_at {p c b : Addr} {H : Hp} {o : HO} (h : H b = some o) (h1 : b ≠ p) (h2 : b ≠ c) : cut p c H b = some o := by
  unfold cut
  rw [if_neg (fun z => by rcases z with z | z; exact h1 z; exact h2 z)]
  exact h
theorem cut_ex {p c : Addr} {H H' : Hp} (e : Ex H H') : Ex (cut p c H) (cut p c H') := fun b o h => by
  unfold cut at h ⊢
  by_cases q : b = p ∨ b = c
  · rw [if_pos q] at h
    cases h
  · rw [if_neg q] at h ⊢
    exact e b o h
theorem cut_up {p c a : Addr} {H : Hp} {o : HO} (h : a = p ∨ a = c) : cut p c (upd H a o) = cut p c H := by
  funext b
  unfold cut
  by_cases q : b = p ∨ b = c
  · rw [if_pos q, if_pos q]
  · rw [if_neg q, if_neg q, upd_ne (fun z => q (by rw [z]; exact h))]
theorem cut_ints (ns : List Int) (lo hi : Option Int) : ∃ ns' : List Int, cutV (ns.map V.int) lo hi = ns'.map V.int ∧ ns'.length ≤ ns.length := by
  refine ⟨(ns.drop (HT.sIx (ns.map V.int).length 0 lo)).take (HT.sIx (ns.map V.int).length (ns.map V.int).length hi - HT.sIx (ns.map V.int).length 0 lo), ?_, ?_⟩
  · unfold cutV
    rw [List.map_take, List.map_drop]
  · rw [List.length_take, List.length_drop]
    omega
theorem int_at {ns : List Int} {i : Nat} {x : V} (h : (ns.map V.int)[i]? = some x) : ∃ k, x = .int k := by
  rw [List.getElem?_map] at h
  cases e : ns[i]? with
  | none => rw [e] at h; cases h
  | some k => rw [e] at h; exact ⟨k, (Option.some.inj h).symm⟩
theorem upd_upd {H : Hp} {a : Addr} {o o2 : HO} : upd (upd H a o) a o2 = upd H a o2 := by
  funext b
  by_cases e : b = a
  · rw [e, upd_same, upd_same]
  · rw [upd_ne e, upd_ne e, upd_ne e]
theorem SqL_ne {K : PySem.W.Frag} {H : Hp} {a b : Addr} {o : HO} {xs : List V} (h : a ≠ b) : SqL K (upd H b o) a xs = SqL K H a xs := by
  unfold SqL Rd
  rw [upd_ne h]
section
variable {P : Program} {w : World} {K : PySem.W.Frag} {mg : Str → Option Value} {base : Heap} (T : Txt K mg)
-- _law_pool: 0 _law_script  1 _law_seed  2 _law_cell
theorem sc_law_pool : FnScope ["_law_script", "_law_seed", "_law_cell"] ["_law_script"] (defScope (topS 32)) := ⟨rfl, rfl, rfl, by decide +kernel, rfl, by decide +kernel, by decide +kernel⟩
def spPool (K : PySem.W.Frag) : Sp := fun vs H Q _ => ∃ (a : Addr) (ns : List Int), vs = [.ref a] ∧ SqL K H a (ns.map V.int) ∧ ns.length ≤ 63 ∧ ∀ p c H', Ex H H' → H p = none → H c = none → PoolAt H' p c → Q (.ref p) H'
theorem ok_law_pool : FnOk P w K mg base CX0 1 T.law_pool.f T.law_pool.fd ["_law_script"] (spPool K) := by
  refine T.law_pool.F.ok sc_law_pool (fun vs H Q E h => ?_) (fun cdv A outer s H vs Q E hr h => ?_)
  · obtain ⟨a, ns, rfl, _⟩ := h
    rfl
  · obtain ⟨a, ns, rfl, hs, hl, q⟩ := h
    refine ⟨_, (pss_cons (ps_set (i := 1) sc_law_pool.nd rfl (.inl rfl) (pe_op op_add (pe_op op_add (pe_op op_mod (pe_callTy call_int1 (by rfl) T.m_int boot_int (pa_cons (pe_callB (cr_sum rfl) (by rfl) T.m_sum boot_sum (pa_cons (pe_slice sl_list (pv 0) po_none (po_some pe_int)) pa_nil)) pa_nil)) pe_int) (pe_callB call_len_seq (by rfl) T.m_len PySem.boot_len (pa_cons (pv 0) pa_nil))) pe_int))
    (pss_cons (ps_for PassesOwn.never rfl (pi_list (pe_slice sl_list (pv 0) po_none (po_some pe_int))) (pg_name (i := 2) sc_law_pool.nd rfl (.inl rfl)) (pss_one (ps_set (i := 1) sc_law_pool.nd rfl (.inl rfl) (pe_op op_mod (pe_callTy call_int1 (by rfl) T.m_int boot_int (pa_cons (pe_op op_add (pe_op op_add (pe_op op_mul (pv 1) pe_int) (pe_op op_mod (pe_callTy call_int1 (by rfl) T.m_int boot_int (pa_cons (pv 2) pa_nil)) pe_int)) pe_int) pa_nil)) pe_int))))
    (pss_one (ps_ret (pe_lst (pa_cons (pv 1) (pa_cons pe_int (pa_cons (pe_lc (own := [("_law_cell", 2)]) rfl sc_law_pool.nd (pi_list (pe_slice sl_list (pv 0) po_none (po_some pe_int))) (blkOk_by (own := [("_law_cell", 2)]) (N := ["_law_script", "_law_seed", "_law_cell"]) (sc := defScope (topS 32)) (by decide +kernel)) (fun _ _ _ _ _ => (pg_name (i := 2) sc_law_pool.nd rfl (.inl rfl))) (fun _ _ _ _ _ => pts_one (pt_cmpR op_ge (pe_callB call_abs (by rfl) T.m_abs boot_abs (pa_cons (pv 2) pa_nil)) (pe_op op_pow pe_int pe_int) (nomark _))) (fun _ _ _ _ _ => (pe_callB call_abs (by rfl) T.m_abs boot_abs (pa_cons (pv 2) pa_nil)))) pa_nil)))))))), ?_⟩
    obtain ⟨n1, c1, l1⟩ := cut_ints ns none (some 1)
    obtain ⟨n2, c2, l2⟩ := cut_ints ns none (some 63)
    refine ⟨_, rfl, 1, rfl, a, _, rfl, hs, fun p1 hp1 => ?_⟩
    rw [c1]
    refine ⟨p1, n1, rfl, SqL.of upd_same, .inl ⟨_, rfl, _, _, rfl, rfl, (by decide : (0 : Int) < 1000003), _, rfl, a, _, rfl, .inl (Evl.ex_l (Ex.new hp1) hs), _, _, rfl, rfl, _, _, rfl, rfl, ?_⟩⟩
    have e1 : Ex H (upd H p1 (.lst (n1.map V.int))) := Ex.new hp1
    refine ⟨_, rfl, 63, rfl, a, _, rfl, Evl.ex_l e1 hs, fun p2 hp2 => ?_⟩
    rw [c2]
    have e2 := e1.trans (Ex.new (o := .lst (n2.map V.int)) hp2)
    refine ⟨p2, rfl, ⟨_, SqL.of upd_same⟩, for_list (xs := n2.map V.int) (fun i σ H2 => (∃ s y2, σ = [some (.ref a), some (.int s), y2]) ∧ H2 = upd (upd H p1 (.lst (n1.map V.int))) p2 (.lst (n2.map V.int)))
      ⟨⟨_, _, rfl⟩, rfl⟩ (fun i σ H2 _ p => ?_) (fun i x σ H2 hx p => ?_) (fun σ H2 p => ?_)⟩
    · rw [p.2]
      exact SqL.of upd_same
    · obtain ⟨⟨s1, y2, rfl⟩, rfl⟩ := p
      obtain ⟨k, rfl⟩ := int_at hx
      exact ⟨_, rfl, _, _, rfl, rfl, .inr ⟨by decide, by decide⟩, _, rfl, .inl ⟨_, rfl, _, _, rfl, rfl, (by decide : (0 : Int) < 2147483629), _, _, rfl, rfl, _, _, rfl, rfl, .inl ⟨_, rfl, _, _, rfl, rfl, (by decide : (0 : Int) < 2147483647), ⟨_, _, rfl⟩, rfl⟩⟩⟩
    · obtain ⟨⟨s1, y2, rfl⟩, rfl⟩ := p
      refine ⟨_, rfl, _, rfl, 63, rfl, a, _, rfl, Evl.ex_l e2 hs, fun p3 hp3 => ?_⟩
      rw [c2]
      have e3 := e2.trans (Ex.new (o := .lst (n2.map V.int)) hp3)
      refine ⟨p3, rfl, ⟨_, SqL.of upd_same⟩, fun D hD => ?_⟩
      have hD0 : H D = none := Evl.fresh_back e3 hD
      refine lc_list (xs := n2.map V.int) (fun i H3 => ∃ cs : List Int, cs.length ≤ i ∧ H3 = upd (upd (upd (upd H p1 (.lst (n1.map V.int))) p2 (.lst (n2.map V.int))) p3 (.lst (n2.map V.int))) D (.lst (cs.map V.int))) ⟨[], Nat.le_refl _, rfl⟩ (fun i H3 _ p => ?_) (fun i x H3 hx p => ?_) (fun H3 p => ?_)
      · obtain ⟨cs, _, rfl⟩ := p
        rw [SqL_ne (ne_of_fresh hD upd_same).symm]
        exact SqL.of upd_same
      · obtain ⟨cs, hcs, rfl⟩ := p
        obtain ⟨k, rfl⟩ := int_at hx
        have hi : i < n2.length := by
          have z := (List.getElem?_eq_some_iff.mp hx).1
          rw [List.length_map] at z
          exact z
        refine ⟨rfl, _, rfl, k, rfl, _, _, rfl, rfl, ⟨by decide, by decide, by decide⟩, _, _, rfl, rfl, _, rfl, bran (fun hb => ?_) (fun hb => ?_)⟩
        · refine ⟨_, rfl, k, rfl, _, upd_same, ?_, cs ++ [if k < 0 then -k else k], ?_, ?_⟩
          · rw [List.length_map, sizeLine_eq]
            omega
          · rw [List.length_append, List.length_singleton]
            omega
          · rw [upd_upd, List.map_append]
            rfl
        · exact ⟨cs, by omega, rfl⟩
      · obtain ⟨cs, hcs, rfl⟩ := p
        rw [List.length_map] at hcs
        refine ⟨by simp [sizeLine_eq], fun p hp => ?_⟩
        have hpD : D ≠ p := Ne.symm (ne_of_fresh hp upd_same)
        refine q p D _ ((e3.trans (Ex.new hD)).trans (Ex.new hp)) (Evl.fresh_back (e3.trans (Ex.new hD)) hp) hD0 ⟨hpD.symm, s1, 0, cs, upd_same, ?_, by omega⟩
        rw [upd_ne hpD]
        exact upd_same
-- _law_draw: 0 _law_pool_here  1 _law_many  2 _law_cells  3 _law_digit  4 _law_mixed
theorem sc_law_draw : FnScope ["_law_pool_here", "_law_many", "_law_cells", "_law_digit", "_law_mixed"] ["_law_pool_here", "_law_many"] (defScope (topS 33)) := ⟨rfl, rfl, rfl, by decide +kernel, rfl, by decide +kernel, by decide +kernel⟩
def spDraw : Sp := fun vs H Q _ => ∃ (p c : Addr) (many : Nat), vs = [.ref p, iV many] ∧ PoolAt H p c ∧ 1 ≤ many ∧ many ≤ 1000000 ∧ ∀ (d : Nat) (H' : Hp), d < many → PoolAt H' p c → Ex (cut p c H) (cut p c H') → Q (iV d) H'
theorem ok_law_draw : FnOk P w K mg base CX0 1 T.law_draw.f T.law_draw.fd ["_law_pool_here", "_law_many"] spDraw := by
  refine T.law_draw.F.ok sc_law_draw (fun vs H Q E h => ?_) (fun cdv A outer s H vs Q E hr h => ?_)
  · obtain ⟨p, c, many, rfl, _⟩ := h
    rfl
  · obtain ⟨p, c, many, rfl, hp, h1, h2, q⟩ := h
    obtain ⟨s0, n, cells, g1, g2, g3⟩ := hp.at_
    have hne := hp.ne
    refine ⟨_, (pss_cons (ps_asg (pe_op op_add (pe_ix ix_list (pv 0) pe_int (fun _ _ => rfl)) pe_int) (pg_sub (pv 0) pe_int set_list))
    (pss_cons (ps_set (i := 2) sc_law_draw.nd rfl (.inl rfl) (pe_ix ix_list (pv 0) pe_int (fun _ _ => rfl)))
    (pss_cons (ps_if (pt_cmpR op_gt (pe_callB call_len_seq (by rfl) T.m_len PySem.boot_len (pa_cons (pv 2) pa_nil)) pe_int (nomark _)) (pss_cons (ps_set (i := 3) sc_law_draw.nd rfl (.inl rfl) (pe_op op_mod (pe_callTy call_int1 (by rfl) T.m_int boot_int (pa_cons (pe_ix ix_list (pv 2) pe_int (fun _ _ => rfl)) pa_nil)) (pv 1)))
    (pss_cons (ps_asg (pe_op op_fdiv (pe_callTy call_int1 (by rfl) T.m_int boot_int (pa_cons (pe_ix ix_list (pv 2) pe_int (fun _ _ => rfl)) pa_nil)) (pv 1)) (pg_sub (pv 2) pe_int set_list))
    (pss_cons (ps_if (pt_cmpR op_eq (pe_ix ix_list (pv 2) pe_int (fun _ _ => rfl)) pe_int (nomark _)) (pss_one (ps_expr (pe_bm PySem.F.plainAttrs_list PySem.F.slot_list_pop PySem.F.type_list_pop mt_popAt (pv 2) (pa_cons pe_int pa_nil)))) pss_nil)
    (pss_one (ps_ret (pv 3)))))) pss_nil)
    (pss_cons (ps_set (i := 4) sc_law_draw.nd rfl (.inl rfl) (pe_op op_mod (pe_callTy call_int1 (by rfl) T.m_int boot_int (pa_cons (pe_op op_mul (pe_op op_add (pe_ix ix_list (pv 0) pe_int (fun _ _ => rfl)) (pe_op op_mul pe_int (pe_ix ix_list (pv 0) pe_int (fun _ _ => rfl)))) pe_int) pa_nil)) pe_int))
    (pss_cons (ps_set (i := 4) sc_law_draw.nd rfl (.inl rfl) (pe_op op_mod (pe_callTy call_int1 (by rfl) T.m_int boot_int (pa_cons (pe_op op_mul (pv 4) (pe_op op_add (pe_op op_fdiv (pv 4) pe_int) pe_int)) pa_nil)) pe_int))
    (pss_cons (ps_set (i := 4) sc_law_draw.nd rfl (.inl rfl) (pe_op op_mod (pe_callTy call_int1 (by rfl) T.m_int boot_int (pa_cons (pe_op op_mul (pv 4) (pe_op op_add (pe_op op_fdiv (pv 4) pe_int) pe_int)) pa_nil)) pe_int))
    (pss_one (ps_ret (pe_op op_mod (pe_callTy call_int1 (by rfl) T.m_int boot_int (pa_cons (pe_op op_fdiv (pv 4) pe_int) pa_nil)) (pv 1)))))))))), ?_⟩
    have at1 : ∀ {a b c : V}, atI [a, b, c] 1 = some b := rfl
    have at2 : ∀ {a b c : V}, atI [a, b, c] 2 = some c := rfl
    have at0 : ∀ {a b c : V}, atI [a, b, c] 0 = some a := rfl
    refine ⟨_, rfl, p, _, 1, _, rfl, rfl, SqL.of g1, at1, _, _, rfl, rfl, _, rfl, p, _, 1, 1, rfl, rfl, g1, rfl, ?_⟩
    have g1' : (upd H p (.lst [.int s0, .int (n + 1), .ref c])) p = some (.lst [.int s0, .int (n + 1), .ref c]) := upd_same
    have g2' : (upd H p (.lst [.int s0, .int (n + 1), .ref c])) c = some (.lst (cells.map V.int)) := by
      rw [upd_ne (Ne.symm hne)]
      exact g2
    have fin : ∀ (v : V) (d : Nat) (H' : Hp) (cs : List Int), v = iV d → d < many → cs.length ≤ 64 → H' = upd (upd H p (.lst [.int s0, .int (n + 1), .ref c])) c (.lst (cs.map V.int)) → Q v H' := fun v d H' cs hv hd hcs e => by
      subst e
      subst hv
      refine q d _ hd ⟨hne, s0, n + 1, cs, ?_, upd_same, hcs⟩ ?_
      · rw [upd_ne hne]
        exact g1'
      · rw [cut_up (.inr rfl), cut_up (.inl rfl)]
        exact Ex.refl _
    refine ⟨_, rfl, p, _, 2, _, rfl, rfl, SqL.of g1', at2, ?_⟩
    refine ⟨_, rfl, c, _, rfl, .inl (SqL.of g2'), _, _, rfl, rfl, _, rfl, bran (fun hc => ?_) (fun hc => ?_)⟩
    · cases cells with
      | nil => cases hc
      | cons k ks =>
        have atk : ∀ {a : V} {l : List V}, atI (a :: l) 0 = some a := fun {a l} => atI_nat (j := 0) rfl
        have hm0 : (0 : Int) < (many : Int) := by omega
        refine ⟨_, rfl, c, _, 0, _, rfl, rfl, SqL.of g2', atk, .inl ⟨k, rfl, _, rfl, _, _, rfl, rfl, hm0, ?_⟩⟩
        refine ⟨_, rfl, c, _, 0, _, rfl, rfl, SqL.of g2', atk, .inl ⟨k, rfl, _, rfl, _, _, rfl, rfl, ⟨hm0, by omega⟩, ?_⟩⟩
        refine ⟨_, rfl, c, _, 0, 0, rfl, rfl, g2', ixN_nat (j := 0) (Nat.succ_pos _), ?_⟩
        have hd : ∃ d : Nat, k % (many : Int) = (d : Int) ∧ d < many := ⟨(k % (many : Int)).toNat, by
          have z := Int.emod_nonneg k (by omega : (many : Int) ≠ 0)
          omega, by
          have z := Int.emod_lt_of_pos k hm0
          have z2 := Int.emod_nonneg k (by omega : (many : Int) ≠ 0)
          omega⟩
        obtain ⟨d, hd1, hd2⟩ := hd
        have hv : V.int (k % (many : Int)) = iV d := by
          rw [hd1]
          rfl
        have g3' : ks.length + 1 ≤ 64 := g3
        have g2'' : (upd (upd H p (.lst [.int s0, .int (n + 1), .ref c])) c (.lst ((V.int (k / (many : Int)) :: ks.map V.int)))) c = some (.lst (V.int (k / (many : Int)) :: ks.map V.int)) := upd_same
        refine ⟨_, rfl, c, _, 0, _, rfl, rfl, SqL.of g2'', atk, rfl, _, rfl, bran (fun hz => ?_) (fun hz => ?_)⟩
        · refine ⟨_, rfl, .inl ⟨rfl, _, SqL.of g2''⟩, c, _, 0, 0, _, rfl, rfl, g2'', by decide, by decide, seqIndex_of (by decide) (by rw [List.length_cons]; omega), rfl, ?_⟩
          refine ⟨_, rfl, fin _ d _ ks hv hd2 (by omega) ?_⟩
          rw [upd_upd]
          rfl
        · refine ⟨_, rfl, fin _ d _ ((k / (many : Int)) :: ks) hv hd2 g3' rfl⟩
    · have hc0 : cells = [] := by
        have z := of_decide_eq_false hc
        rw [List.length_map] at z
        exact List.length_eq_zero_iff.mp (by omega)
      subst hc0
      obtain ⟨m1, hm1⟩ : ∃ m1, m1 = ((s0 + 7919 * (n + 1)) * 48271) % 2147483647 := ⟨_, rfl⟩
      have b1 : 0 ≤ m1 ∧ m1 < 2147483647 := by
        rw [hm1]
        exact ⟨Int.emod_nonneg _ (by decide), Int.emod_lt_of_pos _ (by decide)⟩
      obtain ⟨m2, hm2⟩ : ∃ m2, m2 = (m1 * (m1 / 1009 + 69621)) % 2147483647 := ⟨_, rfl⟩
      have b2 : 0 ≤ m2 ∧ m2 < 2147483647 := by
        rw [hm2]
        exact ⟨Int.emod_nonneg _ (by decide), Int.emod_lt_of_pos _ (by decide)⟩
      obtain ⟨m3, hm3⟩ : ∃ m3, m3 = (m2 * (m2 / 2003 + 40692)) % 2147483399 := ⟨_, rfl⟩
      have hm0 : (0 : Int) < (many : Int) := by omega
      refine ⟨_, rfl, p, _, 0, _, rfl, rfl, SqL.of g1', at0, _, rfl, p, _, 1, _, rfl, rfl, SqL.of g1', at1, _, _, rfl, rfl, .inl ⟨by decide, by decide⟩, _, _, rfl, rfl, _, _, rfl, rfl, .inr ⟨by decide, by decide⟩, .inl ⟨_, rfl, _, _, rfl, rfl, (by decide : (0 : Int) < 2147483647), ?_⟩⟩
      refine ⟨_, rfl, _, rfl, _, _, rfl, rfl, ⟨by decide, by decide⟩, _, _, rfl, rfl, _, _, rfl, rfl, .inl ?_, .inl ⟨_, rfl, _, _, rfl, rfl, (by decide : (0 : Int) < 2147483647), ?_⟩⟩
      · rw [← hm1]
        omega
      refine ⟨_, rfl, _, rfl, _, _, rfl, rfl, ⟨by decide, by decide⟩, _, _, rfl, rfl, _, _, rfl, rfl, .inl ?_, .inl ⟨_, rfl, _, _, rfl, rfl, (by decide : (0 : Int) < 2147483399), ?_⟩⟩
      · rw [← hm1, ← hm2]
        omega
      refine ⟨_, rfl, _, _, rfl, rfl, ⟨by decide, by decide⟩, .inl ⟨_, rfl, _, rfl, _, _, rfl, rfl, hm0, ?_⟩⟩
      rw [← hm1, ← hm2, ← hm3]
      have hd : ∃ d : Nat, m3 / 16 % (many : Int) = (d : Int) ∧ d < many := ⟨(m3 / 16 % (many : Int)).toNat, by
        have z := Int.emod_nonneg (m3 / 16) (by omega : (many : Int) ≠ 0)
        omega, by
        have z := Int.emod_lt_of_pos (m3 / 16) hm0
        have z2 := Int.emod_nonneg (m3 / 16) (by omega : (many : Int) ≠ 0)
        omega⟩
      obtain ⟨d, hd1, hd2⟩ := hd
      refine fin _ d _ [] ?_ hd2 (by simp) ?_
      · show V.int (m3 / 16 % (many : Int)) = iV d
        rw [hd1]
        rfl
      · funext b
        by_cases e : b = c
        · rw [e, upd_same, upd_ne (Ne.symm hne)]
          exact g2
        · rw [upd_ne (a := c) e]
          rfl
-- _law_deep: 0 _law_thing  1 _law_turn
theorem sc_law_deep : FnScope ["_law_thing", "_law_turn"] [] (defScope (topS 34)) := ⟨rfl, rfl, rfl, by decide +kernel, rfl, by decide +kernel, by decide +kernel⟩
def deepD : Nat → PyData
  | 0 => .list [.none]
  | n + 1 => .list [deepD n]
def spDeep (K : PySem.W.Frag) : Sp := fun vs H Q _ => vs = [] ∧ ∀ (a : Addr) (H' : Hp), Ex H H' → Dp K H' (.ref a) (deepD 35) → Q (.ref a) H'
theorem ok_law_deep : FnOk P w K mg base CX0 1 T.law_deep.f T.law_deep.fd [] (spDeep K) := by
  refine T.law_deep.F.ok sc_law_deep (fun vs H Q E h => ?_) (fun cdv A outer s H vs Q E hr h => ?_)
  · obtain ⟨rfl, _⟩ := h
    rfl
  · obtain ⟨rfl, q⟩ := h
    refine ⟨_, (pss_cons (ps_set (i := 0) sc_law_deep.nd rfl (.inl rfl) (pe_lst (pa_cons pe_non pa_nil)))
    (pss_cons (ps_for PassesOwn.never rfl (pi_range1 (by rfl) T.m_range (pa_cons pe_int pa_nil)) (pg_name (i := 1) sc_law_deep.nd rfl (.inl rfl)) (pss_one (ps_set (i := 0) sc_law_deep.nd rfl (.inl rfl) (pe_lst (pa_cons (pv 0) pa_nil)))))
    (pss_one (ps_ret (pv 0))))), ?_⟩
    refine ⟨by simp [sizeLine_eq], fun D hD => ?_⟩
    refine ⟨35, rfl, by decide, by decide, ?_⟩
    refine for_range (lo := 0) (n := 35) (fun i σ H2 => ∃ a, (∃ y1, σ = [some (.ref a), y1]) ∧ Ex H H2 ∧ Dp K H2 (.ref a) (deepD i)) ⟨D, ⟨_, rfl⟩, Ex.new hD, .lst (SqL.of upd_same) (.cons .non .nil)⟩ (fun i σ H2 hi p => ?_) (fun σ H2 p => ?_)
    · obtain ⟨a, ⟨y1, rfl⟩, e1, h1⟩ := p
      refine ⟨_, rfl, by simp [sizeLine_eq], fun D2 hD2 => ⟨D2, ⟨_, rfl⟩, e1.trans (Ex.new hD2), .lst (SqL.of upd_same) (.cons (dp_ex (Ex.new hD2) _ _ h1) .nil)⟩⟩
    · obtain ⟨a, ⟨y1, rfl⟩, e1, h1⟩ := p
      exact ⟨_, rfl, q a H2 e1 h1⟩
-- _law_flag: 0 _law_thing  1 _law_due_here
theorem sc_law_flag : FnScope ["_law_thing", "_law_due_here"] ["_law_thing", "_law_due_here"] (defScope (topS 35)) := ⟨rfl, rfl, rfl, by decide +kernel, rfl, by decide +kernel, by decide +kernel⟩
def spFlag : Sp := fun vs H Q _ => ∃ b c : Bool, vs = [.bl b, .bl c] ∧ Q (.bl (b == c)) H
theorem ok_law_flag : FnOk P w K mg base CX0 1 T.law_flag.f T.law_flag.fd ["_law_thing", "_law_due_here"] spFlag := by
  refine T.law_flag.F.ok sc_law_flag (fun vs H Q E h => ?_) (fun cdv A outer s H vs Q E hr h => ?_)
  · obtain ⟨b, c, rfl, _⟩ := h
    rfl
  · obtain ⟨b, c, rfl, q⟩ := h
    refine ⟨_, (pss_one (ps_ret (pe_and (pe_callB call_isi (by rfl) T.m_isinstance boot_isinstance (pa_cons (pv 0) (pa_cons (pe_bltn (v := .ty "bool") (by rfl) T.m_bool boot_bool rfl) pa_nil))) (pe_one (pe_cmpR op_eq (pv 0) (pv 1) (nomark _)))))), ?_⟩
    have hd : Dx K H (.bl b) (.bool b) := .inl (.bl b)
    refine ⟨_, rfl, _, .ty "bool", _, _, _, rfl, .ty "bool", hd.ty, kit_bool (.bool b), _, rfl, iteT ?_⟩
    refine ⟨_, rfl, _, rfl, rfl, ?_⟩
    rw [dec_bl]
    exact q
-- _law_is_int: 0 _law_thing  1 _law_least  2 _law_most
theorem sc_law_is_int : FnScope ["_law_thing", "_law_least", "_law_most"] ["_law_thing", "_law_least", "_law_most"] (defScope (topS 37)) := ⟨rfl, rfl, rfl, by decide +kernel, rfl, by decide +kernel, by decide +kernel⟩
theorem ok_law_is_int : FnOk P w K mg base CX0 1 T.law_is_int.f T.law_is_int.fd ["_law_thing", "_law_least", "_law_most"] (spWithin K) := by
  refine T.law_is_int.F.ok sc_law_is_int (fun vs H Q E h => ?_) (fun cdv A outer s H vs Q E hr h => ?_)
  · obtain ⟨v, d, lo, hi, rfl, _⟩ := h
    rfl
  · obtain ⟨v, d, lo, hi, rfl, hd, q⟩ := h
    refine ⟨_, (pss_one (ps_ret (pe_and (pe_callB call_isi (by rfl) T.m_isinstance boot_isinstance (pa_cons (pv 0) (pa_cons (pe_bltn (v := .ty "int") (by rfl) T.m_int boot_int rfl) pa_nil))) (pe_and (pe_not (pe_callB call_isi (by rfl) T.m_isinstance boot_isinstance (pa_cons (pv 0) (pa_cons (pe_bltn (v := .ty "bool") (by rfl) T.m_bool boot_bool rfl) pa_nil)))) (pe_one (pe_chain op_le op_le (pv 1) (pv 0) (pv 2))))))), ?_⟩
    refine ⟨_, rfl, v, .ty "int", _, _, _, rfl, .ty "int", hd.ty, kit_int d, _, rfl, ?_⟩
    cases d with
    | int i =>
      have e := dx_int hd
      subst e
      refine iteT ⟨_, rfl, _, .ty "bool", _, _, _, rfl, .ty "bool", hd.ty, kit_bool (.int i), _, rfl, true, rfl, iteT ?_⟩
      refine ⟨_, rfl, _, rfl, _, _, rfl, rfl, _, rfl, ?_⟩
      have q' : Q (.bl (decide (lo ≤ i) && decide (i ≤ hi))) H := q
      by_cases h : lo ≤ i
      · rw [decide_eq_true h] at q' ⊢
        exact iteT ⟨_, rfl, _, _, rfl, rfl, q'⟩
      · rw [decide_eq_false h] at q' ⊢
        exact iteF q'
    | bool b => exact iteT ⟨_, rfl, _, .ty "bool", _, _, _, rfl, .ty "bool", hd.ty, kit_bool (.bool b), _, rfl, false, rfl, iteF q⟩
    | _ => exact iteF q
end
end K3
set_option Elab.async false
set_option linter.all false
set_option maxRecDepth 100000
set_option maxHeartbeats 4000000
/-! _law_has_ring, _law_due, _law_is_ring. -/
namespace K3
open PySem PySem.Spec PyProof.Rows L2
open Evl (Ex)
def rLenK (K : PySem.W.Frag) : List V → Hp → VK → Prop := fun xs H Q => ∃ p ys, xs = [.ref p] ∧ (SqL K H p ys ∨ SqT K H p ys) ∧ Q (.int ((ys.length : Nat) : Int)) H
theorem call_lenK {X : Cx} : CallR X (.builtin "len") (rLenK X.K) := call_len_seq
def lcSc : Expr → Scope
  | .ListComp _ _ sc _ => sc
  | _ => { kind := .function, names := [], isGenerator := false, isCoroutine := false }
def asgE : Stmt → Expr
  | .Assign _ e _ => e
  | _ => .Constant .none 0 ⟨0, 0, 0, 0⟩
def forB : Stmt → List Stmt
  | .For _ _ b _ _ => b
  | _ => []
def nthS (l : List Stmt) (i : Nat) : Stmt := l.getD i (.Pass ⟨0, 0, 0, 0⟩)
/-- a comprehension's names as its inner ones see them -/
def celled (sc : Scope) : Scope := { sc with names := sc.names.map fun y => match y.2 with
  | .free => (y.1, .cell)
  | _ => y }
def hrSc : Scope := celled (lcSc (asgE (nthS (forB (nthS (defBody (topS 38)) 1)) 0)))
def hasF (E : Edges) (l : List Nat) (v : Nat) : Bool := E.any fun p => p.2 == v && l.contains p.1
theorem filter_zero {E : Edges} {l : List Nat} {v : Nat} : (E.filter fun p => p.2 == v && l.contains p.1).length = 0 ↔ hasF E l v = false := by
  unfold hasF
  rw [List.length_eq_zero_iff, List.filter_eq_nil_iff, List.any_eq_false]
theorem peels_len {E : Edges} {n : Nat} : ∀ (k : Nat) (l : List Nat), l.length ≤ n → (peels E k l).length ≤ n
  | 0, _, h => h
  | k + 1, l, h => peels_len k (peel E l) (Nat.le_trans peel_len h)
theorem filter_snoc {α : Type} (p : α → Bool) (l : List α) (x : α) : (l ++ [x]).filter p = l.filter p ++ (if p x = true then [x] else []) := by
  rw [List.filter_append]
  congr 1
  by_cases h : p x = true
  · rw [if_pos h, List.filter_cons_of_pos h]
    rfl
  · rw [if_neg h, List.filter_cons_of_neg h]
    rfl
theorem contains_no {l : List Nat} {x : Nat} (h : x ∉ l) : l.contains x = false := by
  cases e : l.contains x with
  | false => rfl
  | true => exact absurd (List.contains_iff_mem.mp e) h
theorem flat_nat : ∀ {l : List Nat}, (l.map iV).all flatV = true
  | [] => rfl
  | _ :: l => by
    rw [List.map_cons, List.all_cons, flat_nat (l := l)]
    rfl
theorem inV_nat {x : Nat} : ∀ {l : List Nat}, inV (iV x) (l.map iV) = l.contains x
  | [] => rfl
  | a :: l => by
    have ih := inV_nat (x := x) (l := l)
    unfold inV at ih ⊢
    rw [List.map_cons, List.any_cons, ih, List.contains_cons]
    congr 1
    show ((a : Int) == (x : Int)) = (x == a)
    rw [Bool.eq_iff_iff, beq_iff_eq, beq_iff_eq]
    omega
section
variable {P : Program} {w : World} {K : PySem.W.Frag} {mg : Str → Option Value} {base : Heap} (T : Txt K mg)
-- _law_has_ring: 0 _law_many  1 _law_pairs_here  2 _law_left  3 _law_turn  4 _law_firsts  5 _law_one  6 _law_pair
theorem sc_law_has_ring : FnScope ["_law_many", "_law_pairs_here", "_law_left", "_law_turn", "_law_firsts", "_law_one", "_law_pair"] ["_law_many", "_law_pairs_here"] (defScope (topS 38)) := ⟨rfl, rfl, rfl, by decide +kernel, rfl, by decide +kernel, by decide +kernel⟩
def spHasRing (K : PySem.W.Frag) : Sp := fun vs H Q _ => ∃ (n : Nat) (E : Edges) (v : V), vs = [iV n, v] ∧ Dx K H v (.tuple (E.map pD)) ∧ n ≤ 1000 ∧ E.length ≤ 1000 ∧ ∀ H', Ex H H' → Q (.bl (decide (0 < (peels E n (List.range n)).length))) H'
theorem ok_law_has_ring : FnOk P w K mg base CX0 1 T.law_has_ring.f T.law_has_ring.fd ["_law_many", "_law_pairs_here"] (spHasRing K) := by
  refine T.law_has_ring.F.ok sc_law_has_ring (fun vs H Q E h => ?_) (fun cdv A outer s H vs Q E hr h => ?_)
  · obtain ⟨n, B, v, rfl, _⟩ := h
    rfl
  · obtain ⟨n, B, v, rfl, hd, hn, hl, q⟩ := h
    obtain ⟨a, xs, rfl, hs, ha⟩ := dx_tup hd
    refine ⟨_, (pss_cons (ps_set (i := 2) sc_law_has_ring.nd rfl (.inr rfl) (pe_listRg rfl (by rfl) T.m_list (prg_1 (by rfl) T.m_range (pv 0))))
    (pss_cons (ps_for PassesOwn.never rfl (pi_range1 (by rfl) T.m_range (pa_cons (pv 0) pa_nil)) (pg_name (i := 3) sc_law_has_ring.nd rfl (.inl rfl)) (pss_cons (ps_set (i := 4) sc_law_has_ring.nd rfl (.inr rfl) (pe_lc (own := [("_law_one", 5)]) rfl sc_law_has_ring.nd (pi_list (pv 2)) (blkOk_by (own := [("_law_one", 5)]) (N := ["_law_many", "_law_pairs_here", "_law_left", "_law_turn", "_law_firsts", "_law_one", "_law_pair"]) (sc := defScope (topS 38)) (by decide +kernel)) (fun _ _ _ _ _ => (pg_name (i := 5) sc_law_has_ring.nd rfl (.inr rfl))) (fun _ _ _ _ _ => pts_one (pt_cmpR op_eq (pe_callB (r := rLenK K) call_lenK (by rfl) T.m_len PySem.boot_len (pa_cons (pe_lc (wi := iTup K _) (own := [("_law_pair", 6)]) rfl sc_law_has_ring.nd (pi_tup (pv 1)) (blkOk_by (own := [("_law_pair", 6)]) (N := ["_law_many", "_law_pairs_here", "_law_left", "_law_turn", "_law_firsts", "_law_one", "_law_pair"]) (sc := hrSc) (by decide +kernel)) (fun _ _ _ _ _ => (pg_name (i := 6) sc_law_has_ring.nd rfl (.inl rfl))) (fun _ _ _ _ _ => pts_one (PW.pt (pw_and (pt_cmpR op_eq (pe_ix (r := rIxT K) ix_tup (pv 6) pe_int (fun _ _ => rfl)) (pv 5) (nomark _)) (pw_and1 (pt_cmpR (r := rIn K false) op_in_seq (pe_ix (r := rIxT K) ix_tup (pv 6) pe_int (fun _ _ => rfl)) (pv 2) (by rfl)))))) (fun _ _ _ _ _ => (pv 6))) pa_nil)) pe_int (nomark _))) (fun _ _ _ _ _ => (pv 5))))
    (pss_one (ps_set (i := 2) sc_law_has_ring.nd rfl (.inr rfl) (pe_lc (own := [("_law_one", 5)]) rfl sc_law_has_ring.nd (pi_list (pv 2)) (blkOk_by (own := [("_law_one", 5)]) (N := ["_law_many", "_law_pairs_here", "_law_left", "_law_turn", "_law_firsts", "_law_one", "_law_pair"]) (sc := defScope (topS 38)) (by decide +kernel)) (fun _ _ _ _ _ => (pg_name (i := 5) sc_law_has_ring.nd rfl (.inl rfl))) (fun _ _ _ _ _ => pts_one (pt_cmpR (r := rIn K true) op_notIn_seq (pv 5) (pv 4) (by rfl))) (fun _ _ _ _ _ => (pv 5)))))))
    (pss_one (ps_ret (pe_cmpR op_gt (pe_callB call_len_seq (by rfl) T.m_len PySem.boot_len (pa_cons (pv 2) pa_nil)) pe_int (nomark _)))))), ?_⟩
    have hnn : (n : Int).toNat = n := by omega
    refine ⟨_, rfl, _, rfl, .of_le (by omega) (by omega) (by omega) (by omega), fun L0 hL0 => ?_⟩
    have erg : rgV 0 (n : Int) = (List.range n).map iV := by
      unfold rgV
      rw [Int.sub_zero, hnn]
      refine List.map_congr_left fun m _ => ?_
      rw [Int.zero_add]
      rfl
    rw [erg]
    refine ⟨_, rfl, (n : Int), rfl, by omega, by omega, ?_⟩
    refine for_range (lo := 0) (n := (n : Int).toNat) (fun i σ H2 => ∃ L, (∃ y3 y4 y5 y6, σ = [some (iV n), some (.ref a), some (.ref L), y3, y4, y5, y6]) ∧ Ex H H2 ∧ SqL K H2 L ((peels B i (List.range n)).map iV))
      ⟨L0, ⟨_, _, _, _, rfl⟩, Ex.new hL0, SqL.of upd_same⟩ (fun i σ H2 hi p => ?_) (fun σ H2 p => ?_)
    · obtain ⟨L, ⟨y3, y4, y5, y6, rfl⟩, e1, hL⟩ := p
      obtain ⟨l, hl0⟩ : ∃ l, l = peels B i (List.range n) := ⟨_, rfl⟩
      rw [← hl0] at hL
      have hll : l.length ≤ n := by
        rw [hl0]
        exact peels_len i (List.range n) (by rw [List.length_range]; exact Nat.le_refl _)
      refine ⟨_, rfl, L, rfl, ⟨_, hL⟩, fun D hD => ?_⟩
      refine lc_list (xs := l.map iV) (fun j H3 => Ex H2 H3 ∧ H3 D = some (.lst (((l.take j).filter fun v => !hasF B l v).map iV))) ⟨Ex.new hD, upd_same⟩ (fun j H3 _ p => Evl.ex_l p.1 hL) (fun j x H3 hx p => ?_) (fun H3 p => ?_)
      · obtain ⟨e3, hacc⟩ := p
        obtain ⟨v, hv, rfl⟩ : ∃ v, l[j]? = some v ∧ iV v = x := by
          rw [List.getElem?_map] at hx
          cases e : l[j]? with
          | none => rw [e] at hx; cases hx
          | some o => rw [e] at hx; exact ⟨o, rfl, Option.some.inj hx⟩
        have hs3 := Evl.ex_t (e1.trans e3) hs
        refine ⟨rfl, _, rfl, a, rfl, ⟨xs, hs3⟩, fun D2 hD2 => ?_⟩
        have hDD : D ≠ D2 := Ne.symm (ne_of_fresh hD2 hacc)
        refine lc_tup (xs := xs) (fun k H4 => Ex H3 H4 ∧ ∃ acc, H4 D2 = some (.lst acc) ∧ acc.length = ((B.take k).filter fun p => p.2 == v && l.contains p.1).length) ⟨Ex.new hD2, [], upd_same, rfl⟩ (fun k H4 _ p => Evl.ex_t p.1 hs3) (fun k x H4 hx p => ?_) (fun H4 p => ?_)
        · obtain ⟨e4, acc, hac, hacl⟩ := p
          obtain ⟨pr, hp, t, rfl, ht⟩ := dpAll_pairs ha hx
          have ht4 := Evl.ex_t ((e1.trans e3).trans e4) ht
          have at0 : atI [iV pr.1, iV pr.2] 0 = some (iV pr.1) := rfl
          have at1 : atI [iV pr.1, iV pr.2] 1 = some (iV pr.2) := rfl
          have hfil : ((B.take (k + 1)).filter fun p => p.2 == v && l.contains p.1).length = acc.length + if (pr.2 == v && l.contains pr.1) = true then 1 else 0 := by
            rw [take_snoc hp, filter_snoc, List.length_append, hacl]
            congr 1
            show (if (pr.2 == v && l.contains pr.1) = true then [pr] else []).length = _
            cases (pr.2 == v && l.contains pr.1) <;> rfl
          have hkb : k < B.length := (List.getElem?_eq_some_iff.mp hp).1
          have hfl : acc.length ≤ 1000 := by
            rw [hacl]
            refine Nat.le_trans (List.length_filter_le ..) ?_
            rw [List.length_take]
            omega
          refine ⟨rfl, _, rfl, t, _, 1, _, rfl, rfl, ht4, at1, _, rfl, rfl, _, rfl, bran (fun hb => ?_) (fun hb => ?_)⟩
          · have hv2 : pr.2 = v := by
              have z := V.int.inj (of_decide_eq_true hb)
              omega
            refine ⟨_, rfl, t, _, 0, _, rfl, rfl, ht4, at0, _, rfl, L, _, rfl, .inl (Evl.ex_l (e3.trans e4) hL), rfl, flat_nat, _, rfl, ?_⟩
            have ein : (if false = true then !inV (iV pr.1) (l.map iV) else inV (iV pr.1) (l.map iV)) = l.contains pr.1 := by
              rw [if_neg Bool.false_ne_true, inV_nat]
            have ebe : (pr.2 == v) = true := by simpa using hv2
            rw [ebe, Bool.true_and] at hfil
            refine bran (fun hc => ?_) (fun hc => ?_)
            · rw [ein] at hc
              rw [if_pos hc] at hfil
              refine ⟨_, rfl, acc, hac, by rw [sizeLine_eq]; omega, Ex.mut e4 hD2, _, upd_same, ?_⟩
              rw [List.length_append, List.length_singleton]
              omega
            · rw [ein] at hc
              rw [if_neg (by rw [hc]; exact Bool.false_ne_true)] at hfil
              exact ⟨e4, acc, hac, by omega⟩
          · have hv2 : (pr.2 == v) = false := by
              have z : ¬ iV pr.2 = iV v := of_decide_eq_false hb
              have z2 : pr.2 ≠ v := fun e => z (by rw [e])
              simpa using z2
            rw [hv2, Bool.false_and, if_neg Bool.false_ne_true] at hfil
            exact ⟨e4, acc, hac, by omega⟩
        · obtain ⟨e4, acc, hac, hacl⟩ := p
          have hxl : xs.length = B.length := by rw [dpAll_len ha, List.length_map]
          rw [hxl, List.take_length] at hacl
          have hac3 : H4 D = some (.lst (((l.take j).filter fun v => !hasF B l v).map iV)) := e4 _ _ hacc
          have hfil : ((l.take (j + 1)).filter fun v => !hasF B l v) = ((l.take j).filter fun v => !hasF B l v) ++ if hasF B l v = true then [] else [v] := by
            rw [take_snoc hv, List.filter_append]
            cases hc : hasF B l v with
            | true =>
              rw [List.filter_cons_of_neg (by rw [hc]; exact Bool.false_ne_true), if_pos rfl]
              rfl
            | false =>
              rw [List.filter_cons_of_pos (by rw [hc]; rfl), if_neg Bool.false_ne_true]
              rfl
          have hj : j < l.length := (List.getElem?_eq_some_iff.mp hv).1
          refine ⟨D2, acc, rfl, .inl (SqL.of hac), rfl, _, rfl, bran (fun hz => ?_) (fun hz => ?_)⟩
          · have z := V.int.inj (of_decide_eq_true hz)
            have hno : hasF B l v = false := (filter_zero.mp (by rw [← hacl]; omega))
            refine ⟨_, rfl, _, hac3, ?_, Ex.mut (e3.trans e4) hD, ?_⟩
            · rw [List.length_map, sizeLine_eq]
              have z2 := List.length_filter_le (fun v => !hasF B l v) (l.take j)
              rw [List.length_take] at z2
              omega
            · rw [upd_same, hfil, hno, if_neg Bool.false_ne_true, List.map_append]
              rfl
          · have z : ¬ V.int ((acc.length : Nat) : Int) = V.int 0 := of_decide_eq_false hz
            have hyes : hasF B l v = true := by
              cases hc : hasF B l v with
              | true => rfl
              | false =>
                refine absurd ?_ z
                have z2 := filter_zero.mpr hc
                rw [← hacl] at z2
                rw [z2]
                rfl
            refine ⟨e3.trans e4, ?_⟩
            rw [hfil, hyes, if_pos rfl, List.append_nil]
            exact hac3
      · obtain ⟨e3, hacc⟩ := p
        rw [List.length_map, List.take_length] at hacc
        refine ⟨_, rfl, L, rfl, ⟨_, Evl.ex_l e3 hL⟩, fun D3 hD3 => ?_⟩
        have hDD : D ≠ D3 := Ne.symm (ne_of_fresh hD3 hacc)
        refine lc_list (xs := l.map iV) (fun j H4 => Ex H3 H4 ∧ H4 D3 = some (.lst (((l.take j).filter (hasF B l)).map iV))) ⟨Ex.new hD3, upd_same⟩ (fun j H4 _ p => Evl.ex_l (e3.trans p.1) hL) (fun j x H4 hx p => ?_) (fun H4 p => ?_)
        · obtain ⟨e4, hac⟩ := p
          obtain ⟨v, hv, rfl⟩ : ∃ v, l[j]? = some v ∧ iV v = x := by
            rw [List.getElem?_map] at hx
            cases e : l[j]? with
            | none => rw [e] at hx; cases hx
            | some o => rw [e] at hx; exact ⟨o, rfl, Option.some.inj hx⟩
          have hvl : v ∈ l := List.mem_of_getElem? hv
          have hj : j < l.length := (List.getElem?_eq_some_iff.mp hv).1
          refine ⟨rfl, _, rfl, _, rfl, D, _, rfl, .inl (SqL.of (e4 _ _ hacc)), rfl, flat_nat, _, rfl, ?_⟩
          have ein : (if true = true then !inV (iV v) ((l.filter fun v => !hasF B l v).map iV) else inV (iV v) ((l.filter fun v => !hasF B l v).map iV)) = hasF B l v := by
            rw [if_pos rfl, inV_nat]
            cases hc : hasF B l v with
            | true =>
              have z : v ∉ l.filter fun v => !hasF B l v := fun z => by
                have z2 := (List.mem_filter.mp z).2
                rw [hc] at z2
                cases z2
              rw [contains_no z]
              rfl
            | false =>
              have z : v ∈ l.filter fun v => !hasF B l v := List.mem_filter.mpr ⟨hvl, by rw [hc]; rfl⟩
              rw [List.contains_iff_mem.mpr z]
              rfl
          refine bran (fun hc => ?_) (fun hc => ?_)
          · rw [ein] at hc
            refine ⟨_, rfl, _, hac, ?_, Ex.mut e4 hD3, ?_⟩
            · rw [List.length_map, sizeLine_eq]
              have z2 := List.length_filter_le (hasF B l) (l.take j)
              rw [List.length_take] at z2
              omega
            · rw [upd_same, take_snoc hv, List.filter_append, List.filter_cons_of_pos hc, List.map_append]
              rfl
          · rw [ein] at hc
            refine ⟨e4, ?_⟩
            rw [take_snoc hv, List.filter_append, List.filter_cons_of_neg (by rw [hc]; exact Bool.false_ne_true)]
            simpa using hac
        · obtain ⟨e4, hac⟩ := p
          rw [List.length_map, List.take_length] at hac
          refine ⟨D3, ⟨_, _, _, _, rfl⟩, e1.trans (e3.trans e4), SqL.of ?_⟩
          rw [peels_succ, ← hl0]
          exact hac
    · obtain ⟨L, ⟨y3, y4, y5, y6, rfl⟩, e1, hL⟩ := p
      rw [hnn] at hL
      refine ⟨_, rfl, L, _, rfl, .inl hL, _, _, rfl, rfl, ?_⟩
      have z := q H2 e1
      have e : decide ((0 : Int) < ((((peels B n (List.range n)).map iV).length : Nat) : Int)) = decide (0 < (peels B n (List.range n)).length) := by
        rw [List.length_map]
        exact decide_eq_decide.mpr (by omega)
      rw [← e] at z
      exact z
end
end K3
set_option Elab.async false
set_option linter.all false
set_option maxRecDepth 100000
set_option maxHeartbeats 4000000
/-! _law_is_ring, _law_due. -/
namespace K3
open PySem PySem.Spec PyProof.Rows L2
open Evl (Ex)
section
variable {P : Program} {w : World} {K : PySem.W.Frag} {mg : Str → Option Value} {base : Heap} (T : Txt K mg)
-- _law_is_ring: 0 _law_many  1 _law_pairs_here  2 _law_thing  3 _law_one  4 _law_at
theorem sc_law_is_ring : FnScope ["_law_many", "_law_pairs_here", "_law_thing", "_law_one", "_law_at"] ["_law_many", "_law_pairs_here", "_law_thing"] (defScope (topS 43)) := ⟨rfl, rfl, rfl, by decide +kernel, rfl, by decide +kernel, by decide +kernel⟩
theorem ok_law_is_ring : FnOk P w K mg base CX0 2 T.law_is_ring.f T.law_is_ring.fd ["_law_many", "_law_pairs_here", "_law_thing"] (spIsRingOf K) := by
  have G_law_is_int : FnOk P w K mg base CX0 1 T.law_is_int.f T.law_is_int.fd ["_law_thing", "_law_least", "_law_most"] (spWithin K) := ok_law_is_int T
  refine T.law_is_ring.F.ok sc_law_is_ring (fun vs H Q E h => ?_) (fun cdv A outer s H vs Q E hr h => ?_)
  · obtain ⟨n, B, v, x, dx, rfl, _⟩ := h
    rfl
  · obtain ⟨n, B, v, x, dx, rfl, hv, hx, hl, q⟩ := h
    refine ⟨_, (pss_cons (ps_if (PW.pt (pw_or (pt_not (pt_val (pe_callB call_isi (by rfl) T.m_isinstance boot_isinstance (pa_cons (pv 2) (pa_cons (pe_bltn (v := .ty "tuple") (by rfl) T.m_tuple boot_tuple rfl) pa_nil))))) (pw_or (pt_cmpR op_lt (pe_callB call_len_seq (by rfl) T.m_len PySem.boot_len (pa_cons (pv 2) pa_nil)) pe_int (nomark _)) (pw_or1 (pt_not (pt_val (pe_callB (cr_all rfl) (by rfl) T.m_all boot_all (pa_cons (pe_lc (own := [("_law_one", 3)]) rfl sc_law_is_ring.nd (pi_tup (pv 2)) (blkOk_by (own := [("_law_one", 3)]) (N := ["_law_many", "_law_pairs_here", "_law_thing", "_law_one", "_law_at"]) (sc := defScope (topS 43)) (by decide +kernel)) (fun _ _ _ _ _ => (pg_name (i := 3) sc_law_is_ring.nd rfl (.inl rfl))) (fun _ _ _ _ _ => pts_nil) (fun _ _ _ _ _ => (pe_call G_law_is_int (hr.mono (by decide)) (by rfl) T.law_is_int.g T.law_is_int.F.kp T.law_is_int.b .nil pass0 (pa_cons (pv 3) (pa_cons pe_int (pa_cons (pe_op op_sub (pv 0) pe_int) pa_nil)))))) pa_nil)))))))) (pss_one (ps_ret pe_bl)) pss_nil)
    (pss_cons (ps_if (PW.pt (pw_or (pt_cmpR op_ne (pe_lenSetT rfl (by rfl) T.m_len (by rfl) T.m_set (pv 2)) (pe_callB call_len_seq (by rfl) T.m_len PySem.boot_len (pa_cons (pv 2) pa_nil)) (nomark _)) (pw_or1 (pt_cmpR op_ne (pe_ix ix_tup (pv 2) pe_int (fun _ _ => rfl)) (pe_callB (cr_minT rfl) (by rfl) T.m_min boot_min (pa_cons (pv 2) pa_nil)) (nomark _))))) (pss_one (ps_ret pe_bl)) pss_nil)
    (pss_one (ps_ret (pe_callB (cr_all rfl) (by rfl) T.m_all boot_all (pa_cons (pe_lc (own := [("_law_at", 4)]) rfl sc_law_is_ring.nd (pi_range1 (by rfl) T.m_range (pa_cons (pe_callB call_len_seq (by rfl) T.m_len PySem.boot_len (pa_cons (pv 2) pa_nil)) pa_nil)) (blkOk_by (own := [("_law_at", 4)]) (N := ["_law_many", "_law_pairs_here", "_law_thing", "_law_one", "_law_at"]) (sc := defScope (topS 43)) (by decide +kernel)) (fun _ _ _ _ _ => (pg_name (i := 4) sc_law_is_ring.nd rfl (.inl rfl))) (fun _ _ _ _ _ => pts_nil) (fun _ _ _ _ _ => (pe_cmpR (r := rInDT K) (op_inDT (hu65 hr)) (pe_tup (pa_cons (pe_ix (r := rIxT K) ix_tup (pv 2) (pe_op op_sub (pv 4) pe_int) (fun _ _ => rfl)) (pa_cons (pe_ix (r := rIxT K) ix_tup (pv 2) (pv 4) (fun _ _ => rfl)) pa_nil))) (pv 1) (by rfl)))) pa_nil)))))), ?_⟩
    refine ⟨_, rfl, x, .ty "tuple", _, _, _, rfl, .ty "tuple", hx.ty, kit_tup dx, _, rfl, ?_⟩
    cases dx with
    | tuple ds =>
      obtain ⟨a, xs, rfl, hs, ha⟩ := dx_tup hx
      have hlen := dpAll_len ha
      have hl' : ds.length ≤ 1000 := hl
      refine iteF ⟨_, rfl, a, xs, rfl, .inr hs, ?_⟩
      refine ⟨_, _, rfl, rfl, _, rfl, bran (fun hc => ?_) (fun hc => ?_)⟩
      · have h2 : xs.length < 2 := by
          have z := of_decide_eq_true hc
          omega
        refine iteT ?_
        have z := q H (Ex.refl H)
        have e : isRingD n B (.tuple ds) = false := by
          show (decide (2 ≤ ds.length) && ds.all (isBelowD n) && isRingN B (ds.map iD)) = false
          rw [decide_eq_false (by omega)]
          rfl
        rw [e] at z
        exact z
      · have h2 : 2 ≤ ds.length := by
          have z := of_decide_eq_false hc
          omega
        refine ⟨_, rfl, a, rfl, ⟨xs, hs⟩, fun D hD => ?_⟩
        refine lc_tup (xs := xs) (fun i H' => Ex H H' ∧ H' D = some (.lst (((ds.take i).map (isBelowD n)).map V.bl))) ⟨Ex.new hD, upd_same⟩ (fun i H' _ p => Evl.ex_t p.1 hs) (fun i y H' hy p => ?_) (fun H' p => ?_)
        · obtain ⟨e1, h3⟩ := p
          have hid : i < ds.length := by
            have z := (List.getElem?_eq_some_iff.mp hy).1
            omega
          obtain ⟨y', hy', hdy⟩ := dpAll_get ha (List.getElem?_eq_getElem hid)
          rw [hy] at hy'
          cases hy'
          refine ⟨rfl, yes_go ⟨_, rfl, _, rfl, _, _, rfl, rfl, y, ds[i], 0, (n : Int) - 1, rfl, .of (dp_ex e1 _ _ hdy), _, h3, ?_, Ex.mut e1 hD, ?_⟩⟩
          · rw [List.length_map, List.length_map, List.length_take, sizeLine_eq]
            omega
          · rw [upd_same, take_snoc (List.getElem?_eq_getElem hid), List.map_append, List.map_append]
            rfl
        · obtain ⟨e1, h3⟩ := p
          rw [hlen, List.take_length] at h3
          have no : ∀ c, (decide (2 ≤ ds.length) && ds.all (isBelowD n) && isRingN B (ds.map iD)) = c → ∀ H', Ex H H' → Q (.bl c) H' := fun c e H' ex => by
            rw [← e]
            exact q H' ex
          refine ⟨D, _, rfl, SqL.of h3, _, rfl, ?_⟩
          cases hb : ds.all (isBelowD n) with
          | false =>
            have e : (((ds.map (isBelowD n)).all id)) = false := by
              rw [List.all_map, ← hb]
              rfl
            rw [e]
            refine iteT ?_
            refine no false ?_ H' e1
            rw [hb, Bool.and_false]
            rfl
          | true =>
            have e : (((ds.map (isBelowD n)).all id)) = true := by
              rw [List.all_map, ← hb]
              rfl
            rw [e]
            refine iteF ?_
            obtain ⟨eds, hin⟩ := below_ints hb
            rw [eds] at ha
            have exs := dpAll_ints ha
            have hs1 : SqT K H' a ((ds.map iD).map V.int) := by
              rw [← exs]
              exact Evl.ex_t e1 hs
            have hnl : (ds.map iD).length = ds.length := List.length_map ..
            refine ⟨_, rfl, a, ds.map iD, rfl, hs1, by omega, fun us hus hmem => ?_⟩
            refine ⟨_, rfl, a, _, rfl, .inr hs1, rfl, _, rfl, ?_⟩
            rw [List.length_map]
            have ring : ∀ c, isRingN B (ds.map iD) = c → ∀ H', Ex H H' → Q (.bl c) H' := fun c e H' ex => by
              refine no c ?_ H' ex
              rw [hb, decide_eq_true h2, e]
              rfl
            by_cases hnd : (ds.map iD).Nodup
            · have e2 : (!decide (V.int ((us.length : Nat) : Int) = V.int (((ds.map iD).length : Nat) : Int))) = false := by
                rw [decide_eq_true (by rw [(set_len hus hmem).mpr hnd])]
                rfl
              rw [e2]
              refine iteF ?_
              obtain ⟨h0, rest, en⟩ : ∃ h0 rest, ds.map iD = h0 :: rest := by
                cases ez : ds.map iD with
                | nil =>
                  rw [ez] at hnl
                  simp at hnl
                  omega
                | cons x r => exact ⟨x, r, rfl⟩
              have hat0 : atI ((ds.map iD).map V.int) ((0 : Nat) : Int) = some (.int h0) := atI_nat (by rw [en]; rfl)
              refine ⟨_, rfl, a, _, 0, _, rfl, rfl, hs1, hat0, _, rfl, a, ds.map iD, rfl, hs1, by omega, fun m hm hle => ⟨rfl, _, rfl, ?_⟩⟩
              by_cases hmin : h0 = m
              · have e3 : (!decide (V.int h0 = V.int m)) = false := by
                  rw [decide_eq_true (by rw [hmin])]
                  rfl
                rw [e3]
                refine iteF ?_
                have hall : ((ds.map iD).all fun y => decide ((ds.map iD).headD 0 ≤ y)) = true := by
                  refine List.all_eq_true.mpr fun y hy => decide_eq_true ?_
                  have z := hle y hy
                  rw [en]
                  show h0 ≤ y
                  omega
                refine ⟨_, rfl, a, _, rfl, .inr hs1, _, rfl, by omega, by rw [List.length_map]; omega, fun D2 hD2 => ?_⟩
                have hD20 : H D2 = none := Evl.fresh_back e1 hD2
                have hcnt : ((((ds.map iD).map V.int).length : Nat) : Int).toNat = (ds.map iD).length := by
                  rw [List.length_map]
                  omega
                rw [hcnt]
                refine lc_range (lo := 0) (n := (ds.map iD).length) (fun i H2 => Ex H' H2 ∧ H2 D2 = some (.lst (((List.range i).map (cycN B (ds.map iD))).map V.bl))) ⟨Ex.new hD2, upd_same⟩ (fun i H2 hi p => ?_) (fun H2 p => ?_)
                · obtain ⟨e4, h4⟩ := p
                  have hcur : atI ((ds.map iD).map V.int) ((i : Nat) : Int) = some (.int ((ds.map iD).getD i 0)) := by
                    refine atI_nat ?_
                    rw [List.getElem?_map, List.getElem?_eq_getElem hi, List.getD_eq_getElem?_getD, List.getElem?_eq_getElem hi]
                    rfl
                  have hpr : atI ((ds.map iD).map V.int) (((i : Nat) : Int) - 1) = some (.int (prv (ds.map iD) i)) := by
                    unfold prv
                    by_cases i0 : i = 0
                    · subst i0
                      rw [if_pos rfl]
                      have hne : ds.map iD ≠ [] := by
                        rw [en]
                        exact List.cons_ne_nil _ _
                      have el : ds.map iD = (ds.map iD).dropLast ++ [(ds.map iD).getLastD 0] := by
                        rw [List.getLastD_eq_getLast?, List.getLast?_eq_some_getLast hne, Option.getD_some]
                        exact (List.dropLast_concat_getLast hne).symm
                      have g : ∀ l : List Int, l = l.dropLast ++ [l.getLastD 0] → atI (l.map V.int) (((0 : Nat) : Int) - 1) = some (.int (l.getLastD 0)) := fun l el => by
                        conv => lhs; rw [el]
                        rw [List.map_append]
                        exact L2.atI_last _ _
                      exact g _ el
                    · rw [if_neg i0]
                      refine at_of (j := i - 1) (by omega) ?_
                      rw [List.getElem?_map, List.getElem?_eq_getElem (by omega), List.getD_eq_getElem?_getD, List.getElem?_eq_getElem (by omega)]
                      rfl
                  have z0 : V.int (0 + (i : Int)) = V.int ((i : Nat) : Int) := by rw [Int.zero_add]
                  rw [z0]
                  refine ⟨rfl, yes_go ?_⟩
                  refine ⟨_, rfl, _, rfl, _, _, rfl, rfl, a, _, _, _, rfl, rfl, Evl.ex_t e4 hs1, hpr, _, rfl, _, rfl, a, _, _, _, rfl, rfl, Evl.ex_t e4 hs1, hcur, ?_⟩
                  refine ⟨by simp [sizeLine_eq], fun p hp => ?_⟩
                  have e7 := Ex.new (o := .tup [.int (prv (ds.map iD) i), .int ((ds.map iD).getD i 0)]) hp
                  refine ⟨_, rfl, .tuple [.int (prv (ds.map iD) i), .int ((ds.map iD).getD i 0)], B.map pD, .tup (SqT.of upd_same) (.cons (.int _) (.cons (.int _) .nil)), dp_ex ((e1.trans e4).trans e7) _ _ (dx_dp hv), shaped_two, lay_pD B, _, e7 _ _ h4, ?_, Ex.mut (e4.trans e7) hD2, ?_⟩
                  · rw [List.length_map, List.length_map, List.length_range, sizeLine_eq]
                    omega
                  · rw [upd_same, any_pD, List.range_succ, List.map_append, List.map_append]
                    rfl
                · obtain ⟨e4, h4⟩ := p
                  refine ⟨D2, _, rfl, SqL.of h4, ?_⟩
                  refine ring _ ?_ H2 (e1.trans e4)
                  unfold isRingN
                  rw [hall, decide_eq_true hnd, List.all_map, Bool.true_and, Bool.true_and]
                  rfl
              · have e3 : (!decide (V.int h0 = V.int m)) = true := by
                  rw [decide_eq_false (fun z => hmin (V.int.inj z))]
                  rfl
                rw [e3]
                refine iteT ?_
                refine ring false ?_ H' e1
                have hall : ((ds.map iD).all fun y => decide ((ds.map iD).headD 0 ≤ y)) = false := by
                  refine List.all_eq_false.mpr ⟨m, hm, ?_⟩
                  have z := hle h0 (by rw [en]; exact List.mem_cons_self)
                  rw [en]
                  show ¬ decide (h0 ≤ m) = true
                  rw [decide_eq_false (by omega)]
                  exact Bool.false_ne_true
                unfold isRingN
                rw [hall, Bool.and_false]
                rfl
            · have e2 : (!decide (V.int ((us.length : Nat) : Int) = V.int (((ds.map iD).length : Nat) : Int))) = true := by
                rw [decide_eq_false (fun z => hnd ((set_len hus hmem).mp (by have z2 := V.int.inj z; omega)))]
                rfl
              rw [e2]
              refine iteT (iteT ?_)
              refine ring false ?_ H' e1
              unfold isRingN
              rw [decide_eq_false hnd]
              rfl
    | _ =>
      refine iteT (iteT ?_)
      exact q H (Ex.refl H)
-- _law_due: 0 _law_many  1 _law_thing  2 _law_index  3 _law_item  4 _law_right  5 _law_one
theorem sc_law_due : FnScope ["_law_many", "_law_thing", "_law_index", "_law_item", "_law_right", "_law_one"] ["_law_many", "_law_thing"] (defScope (topS 40)) := ⟨rfl, rfl, rfl, by decide +kernel, rfl, by decide +kernel, by decide +kernel⟩
def dueD (dm dt : PyData) : PyData := match isWithinD 1 40 dm, dm with
  | true, .int n => (match firstWrong n dt with
    | some k => .tuple [.str "book", .int k]
    | none => .str "let")
  | _, _ => .str "number"
def rightD (n : Int) : PyData → Bool
  | .tuple ds => decide (ds.length = 2) && ds.all (isWithinD 0 (n - 1))
  | _ => false
theorem right_pair {n : Int} {d : PyData} (h : rightD n d = true) : ∃ a b, d = .tuple [.int a, .int b] ∧ isEntryD n d = !decide (a = b) := by
  unfold rightD at h
  split at h
  · rename_i ds
    rw [Bool.and_eq_true, decide_eq_true_iff] at h
    obtain ⟨h1, h2⟩ := h
    match ds, h1 with
    | [x, y], _ =>
      rw [List.all_cons, List.all_cons, List.all_nil, Bool.and_true, Bool.and_eq_true] at h2
      obtain ⟨a, rfl, a1, a2⟩ := within_int h2.1
      obtain ⟨b, rfl, b1, b2⟩ := within_int h2.2
      refine ⟨a, b, rfl, ?_⟩
      show (decide (0 ≤ a) && decide (a ≤ n - 1) && (decide (0 ≤ b) && decide (b ≤ n - 1)) && !decide (a = b)) = _
      rw [decide_eq_true a1, decide_eq_true a2, decide_eq_true b1, decide_eq_true b2]
      rfl
  · cases h
theorem right_not {n : Int} {d : PyData} (h : rightD n d = false) : isEntryD n d = false := by
  cases he : isEntryD n d with
  | false => rfl
  | true =>
    obtain ⟨a, b, rfl, a1, a2, b1, b2, _⟩ := entry_of he
    have z : rightD n (.tuple [.int a, .int b]) = true := by
      show (decide (2 = 2) && ((decide (0 ≤ a) && decide (a ≤ n - 1)) && ((decide (0 ≤ b) && decide (b ≤ n - 1)) && true))) = true
      rw [decide_eq_true a1, decide_eq_true a2, decide_eq_true b1, decide_eq_true b2]
      rfl
    rw [z] at h
    cases h
def spDue (K : PySem.W.Frag) : Sp := fun vs H Q _ => ∃ vm dm vt dt, vs = [vm, vt] ∧ Dx K H vm dm ∧ Dx K H vt dt ∧ lenD dt ≤ 1000 ∧ ∀ (v : V) (H' : Hp), Ex H H' → Dp K H' v (dueD dm dt) → Q v H'
theorem ok_law_due : FnOk P w K mg base CX0 2 T.law_due.f T.law_due.fd ["_law_many", "_law_thing"] (spDue K) := by
  have G_law_is_int : FnOk P w K mg base CX0 1 T.law_is_int.f T.law_is_int.fd ["_law_thing", "_law_least", "_law_most"] (spWithin K) := ok_law_is_int T
  refine T.law_due.F.ok sc_law_due (fun vs H Q E h => ?_) (fun cdv A outer s H vs Q E hr h => ?_)
  · obtain ⟨vm, dm, vt, dt, rfl, _⟩ := h
    rfl
  · obtain ⟨vm, dm, v, d, rfl, hm, hd, hld, q⟩ := h
    refine ⟨_, (pss_cons (ps_if (pt_not (pt_val (pe_call G_law_is_int (hr.mono (by decide)) (by rfl) T.law_is_int.g T.law_is_int.F.kp T.law_is_int.b .nil pass0 (pa_cons (pv 0) (pa_cons pe_int (pa_cons pe_int pa_nil)))))) (pss_one (ps_ret pe_str)) pss_nil)
    (pss_cons (ps_if (pt_not (pt_val (pe_callB call_isi (by rfl) T.m_isinstance boot_isinstance (pa_cons (pv 1) (pa_cons (pe_bltn (v := .ty "tuple") (by rfl) T.m_tuple boot_tuple rfl) pa_nil))))) (pss_one (ps_ret (pe_tup (pa_cons pe_str (pa_cons (pe_un un_neg pe_int) pa_nil))))) pss_nil)
    (pss_cons (ps_for PassesOwn.never rfl (pi_enumT (by rfl) T.m_enumerate (pa_cons (pv 1) pa_nil)) (pg_tup rfl (pgs_cons (pg_name (i := 2) sc_law_due.nd rfl (.inl rfl)) (pgs_cons (pg_name (i := 3) sc_law_due.nd rfl (.inl rfl)) pgs_nil))) (pss_cons (ps_set (i := 4) sc_law_due.nd rfl (.inl rfl) (pe_and (pe_callB call_isi (by rfl) T.m_isinstance boot_isinstance (pa_cons (pv 3) (pa_cons (pe_bltn (v := .ty "tuple") (by rfl) T.m_tuple boot_tuple rfl) pa_nil))) (pe_and (pe_cmpR op_eq (pe_callB call_len_seq (by rfl) T.m_len PySem.boot_len (pa_cons (pv 3) pa_nil)) pe_int (nomark _)) (pe_one (pe_callB (cr_all rfl) (by rfl) T.m_all boot_all (pa_cons (pe_lc (own := [("_law_one", 5)]) rfl sc_law_due.nd (pi_tup (pv 3)) (blkOk_by (own := [("_law_one", 5)]) (N := ["_law_many", "_law_thing", "_law_index", "_law_item", "_law_right", "_law_one"]) (sc := defScope (topS 40)) (by decide +kernel)) (fun _ _ _ _ _ => (pg_name (i := 5) sc_law_due.nd rfl (.inl rfl))) (fun _ _ _ _ _ => pts_nil) (fun _ _ _ _ _ => (pe_call G_law_is_int (hr.mono (by decide)) (by rfl) T.law_is_int.g T.law_is_int.F.kp T.law_is_int.b .nil pass0 (pa_cons (pv 5) (pa_cons pe_int (pa_cons (pe_op op_sub (pv 0) pe_int) pa_nil)))))) pa_nil))))))
    (pss_one (ps_if (PW.pt (pw_or (pt_not (pt_val (pv 4))) (pw_or (pt_cmpR op_eq (pe_ix ix_tup (pv 3) pe_int (fun _ _ => rfl)) (pe_ix ix_tup (pv 3) pe_int (fun _ _ => rfl)) (nomark _)) (pw_or1 (PW.pt (pw_and (pt_cmpR op_gt (pv 2) pe_int (nomark _)) (pw_and1 (pt_not (pt_cmpR (op_ltT hr.units0) (pe_ix ix_tup (pv 1) (pe_op op_sub (pv 2) pe_int) (fun _ _ => rfl)) (pv 3) (nomark _)))))))))) (pss_one (ps_ret (pe_tup (pa_cons pe_str (pa_cons (pv 2) pa_nil))))) pss_nil))))
    (pss_one (ps_ret pe_str))))), ?_⟩
    refine ⟨_, rfl, vm, dm, 1, 40, rfl, hm, _, rfl, bran (fun hw => ?_) (fun hw => ?_)⟩
    · have hw' : isWithinD 1 40 dm = false := by
        cases e : isWithinD 1 40 dm with
        | false => rfl
        | true => rw [e] at hw; cases hw
      refine q _ H (Ex.refl H) ?_
      have e : dueD dm d = .str "number" := by
        unfold dueD
        rw [hw']
      rw [e]
      exact .str _
    · have hw' : isWithinD 1 40 dm = true := by
        cases e : isWithinD 1 40 dm with
        | true => rfl
        | false => rw [e] at hw; cases hw
      obtain ⟨n, rfl, n1, n2⟩ := within_int hw'
      have em := dx_int hm
      subst em
      have edue : dueD (.int n) d = (match firstWrong n d with
        | some k => .tuple [.str "book", .int k]
        | none => .str "let") := by
        unfold dueD
        rw [hw']
      refine ⟨_, rfl, v, .ty "tuple", _, _, _, rfl, .ty "tuple", hd.ty, kit_tup d, _, rfl, ?_⟩
      cases d with
      | tuple ds =>
        obtain ⟨a, xs, rfl, hs, ha⟩ := dx_tup hd
        have hlen := dpAll_len ha
        have hld' : ds.length ≤ 1000 := hld
        refine iteF ⟨_, rfl, a, xs, rfl, hs, for_enumT (xs := xs) (fun i σ H' => (∃ y2 y3 y4 y5, σ = [some (.int n), some (.ref a), y2, y3, y4, y5]) ∧ Ex H H' ∧ ∀ j, j < i → wrongAt n ds j = false) ⟨⟨_, _, _, _, rfl⟩, Evl.Ex.refl H, fun j hj => absurd hj (Nat.not_lt_zero j)⟩ (fun i σ H' _ p => Evl.ex_t p.2.1 hs) (fun i x Ta σ H' hx p hT => ?_) (fun σ H' p => ?_)⟩
        · obtain ⟨⟨y2, y3, y4, y5, rfl⟩, e1, hno⟩ := p
          have hi : i < xs.length := (List.getElem?_eq_some_iff.mp hx).1
          have hid : i < ds.length := by omega
          have hdi : ds[i]? = some (ds.getD i .none) := by rw [List.getD_eq_getElem?_getD, List.getElem?_eq_getElem hid]; rfl
          obtain ⟨x', hx', hdx⟩ := dpAll_get ha hdi
          rw [hx] at hx'
          cases hx'
          have e2 : Ex H (upd H' Ta (.tup [.int (i : Nat), x])) := e1.trans (Evl.Ex.new hT)
          refine ⟨Ta, [.int (i : Nat), x], rfl, .inl (.inl upd_same), rfl, _, _, rfl, _, _, rfl, rfl, ?_⟩
          have ret : wrongAt n ds i = true → ∀ H2, Ex H H2 → ∀ r, H2 r = none → Q (.ref r) (upd H2 r (.tup [.str "book", .int (i : Nat)])) := fun hw H2 ex r hr => by
            have e : firstWrong n (.tuple ds) = some ((i : Nat) : Int) := by
              show ((List.range ds.length).find? (wrongAt n ds)).map (fun i => (i : Int)) = _
              rw [find_at hid hno hw]
              rfl
            refine q _ _ (ex.trans (Ex.new hr)) ?_
            rw [edue, e]
            exact .tup (SqT.of upd_same) (.cons (.str _) (.cons (.int _) .nil))
          have notw : rightD n (ds.getD i .none) = false → wrongAt n ds i = true := fun h => by
            unfold wrongAt
            rw [right_not h]
            rfl
          have hdx2 := dp_ex e2 _ _ hdx
          have hdxx : Dx K (upd H' Ta (.tup [.int (i : Nat), x])) x (ds.getD i .none) := .of hdx2
          refine ⟨_, rfl, x, .ty "tuple", _, _, _, rfl, .ty "tuple", hdxx.ty, kit_tup _, _, rfl, bran (fun ht => ?_) (fun ht => ?_)⟩
          · obtain ⟨es, hes⟩ : ∃ es, ds.getD i .none = .tuple es := by
              cases hz : ds.getD i .none with
              | tuple es => exact ⟨es, rfl⟩
              | _ => rw [hz] at ht; cases ht
            rw [hes] at hdxx notw
            obtain ⟨a2, ys, rfl, hs2, ha2⟩ := dx_tup hdxx
            have hlen2 := dpAll_len ha2
            refine ⟨_, rfl, a2, ys, rfl, .inr hs2, rfl, _, rfl, bran (fun h2 => ?_) (fun h2 => ?_)⟩
            · have hl2 : es.length = 2 := by
                have z := V.int.inj (of_decide_eq_true h2)
                omega
              refine ⟨_, rfl, a2, rfl, ⟨ys, hs2⟩, fun D hD => ?_⟩
              have hD0 : H D = none := Evl.fresh_back e2 hD
              refine lc_tup (xs := ys) (fun j H3 => Ex (upd H' Ta (.tup [.int (i : Nat), .ref a2])) H3 ∧ H3 D = some (.lst (((es.take j).map (isWithinD 0 (n - 1))).map V.bl))) ⟨Ex.new hD, upd_same⟩ (fun j H3 _ p => Evl.ex_t p.1 hs2) (fun j y H3 hy p => ?_) (fun H3 p => ?_)
              · obtain ⟨e3, h3⟩ := p
                have hjd : j < es.length := by
                  have z := (List.getElem?_eq_some_iff.mp hy).1
                  omega
                obtain ⟨y', hy', hdy⟩ := dpAll_get ha2 (List.getElem?_eq_getElem hjd)
                rw [hy] at hy'
                cases hy'
                refine ⟨rfl, yes_go ⟨_, rfl, _, rfl, _, _, rfl, rfl, y, es[j], 0, n - 1, rfl, .of (dp_ex e3 _ _ hdy), _, h3, ?_, Ex.mut e3 hD, ?_⟩⟩
                · rw [List.length_map, List.length_map, List.length_take, sizeLine_eq]
                  omega
                · rw [upd_same, take_snoc (List.getElem?_eq_getElem hjd), List.map_append, List.map_append]
                  rfl
              · obtain ⟨e3, h3⟩ := p
                rw [hlen2, List.take_length] at h3
                have e4 := e2.trans e3
                refine ⟨D, _, rfl, SqL.of h3, ?_⟩
                have hall : (es.map (isWithinD 0 (n - 1))).all id = rightD n (.tuple es) := by
                  show _ = (decide (es.length = 2) && es.all (isWithinD 0 (n - 1)))
                  rw [decide_eq_true hl2, Bool.true_and, List.all_map]
                  rfl
                rw [hall]
                refine ⟨_, rfl, _, rfl, bran (fun hr0 => ?_) (fun hr0 => ?_)⟩
                · have hrf : rightD n (.tuple es) = false := by
                    cases e : rightD n (.tuple es) with
                    | false => rfl
                    | true => rw [e] at hr0; cases hr0
                  exact ⟨_, rfl, by simp [sizeLine_eq], fun r hr => ret (notw hrf) H3 e4 r hr⟩
                · have hrt : rightD n (.tuple es) = true := by
                    cases e : rightD n (.tuple es) with
                    | true => rfl
                    | false => rw [e] at hr0; cases hr0
                  obtain ⟨p1, p2, ep, hen⟩ := right_pair hrt
                  have ees : es = [.int p1, .int p2] := by
                    injection ep
                  have exs := dpAll_ints (ns := [p1, p2]) (by rw [ees] at ha2; exact ha2)
                  have hs3 : SqT K H3 a2 [.int p1, .int p2] := by
                    rw [exs] at hs2
                    exact Evl.ex_t e3 hs2
                  have at0 : ∀ {a b : V}, atI [a, b] 0 = some a := rfl
                  have at1 : ∀ {a b : V}, atI [a, b] 1 = some b := rfl
                  refine ⟨_, rfl, a2, _, 0, _, rfl, rfl, hs3, at0, _, rfl, a2, _, 1, _, rfl, rfl, hs3, at1, rfl, _, rfl, bran (fun hq => ?_) (fun hq => ?_)⟩
                  · have hpp : p1 = p2 := V.int.inj (of_decide_eq_true hq)
                    refine ⟨_, rfl, by simp [sizeLine_eq], fun r hr => ret ?_ H3 e4 r hr⟩
                    unfold wrongAt
                    rw [hes, hen, decide_eq_true hpp]
                    rfl
                  · have hpp : ¬ p1 = p2 := fun z => (of_decide_eq_false hq) (by rw [z])
                    have hen' : isEntryD n (ds.getD i .none) = true := by
                      rw [hes, hen, decide_eq_false hpp]
                      rfl
                    have go : wrongAt n ds i = false → ∀ j, j < i + 1 → wrongAt n ds j = false := fun hw j hj => by
                      by_cases hji : j = i
                      · rw [hji]
                        exact hw
                      · exact hno j (by omega)
                    refine ⟨_, rfl, _, _, rfl, rfl, _, rfl, ?_⟩
                    by_cases h0 : 0 < i
                    · have hdec : decide ((0 : Int) < ((i : Nat) : Int)) = true := decide_eq_true (by omega)
                      rw [hdec]
                      have hprev : isEntryD n (ds.getD (i - 1) .none) = true := by
                        have z := hno (i - 1) (by omega)
                        unfold wrongAt at z
                        cases hb : isEntryD n (ds.getD (i - 1) .none) with
                        | true => rfl
                        | false =>
                          rw [hb] at z
                          cases z
                      obtain ⟨o1, o2, eo, _⟩ := entry_of hprev
                      have hdi1 : ds[i - 1]? = some (ds.getD (i - 1) .none) := by rw [List.getD_eq_getElem?_getD, List.getElem?_eq_getElem (by omega)]; rfl
                      obtain ⟨x1, hx1, hdx1⟩ := dpAll_get ha hdi1
                      rw [eo] at hdx1
                      obtain ⟨t1, rfl, s1⟩ := dp_pair hdx1
                      have hat : atI xs (((i : Nat) : Int) - 1) = some (.ref t1) := at_of (j := i - 1) (by omega) hx1
                      have hs3' : SqT K H3 a2 (([p1, p2] : List Int).map V.int) := hs3
                      refine iteT ⟨_, rfl, _, rfl, _, _, rfl, rfl, a, xs, _, _, rfl, rfl, Evl.ex_t e4 hs, hat, _, rfl, t1, a2, _, _, rfl, rfl, Evl.ex_t e4 s1, hs3', _, rfl, ?_⟩
                      have hlt : ltD (ds.getD (i - 1) .none) (ds.getD i .none) = HT.lexLt [o1, o2] [p1, p2] := by rw [eo, hes, ees]; rfl
                      cases hb : HT.lexLt [o1, o2] [p1, p2] with
                      | true =>
                        refine iteF ⟨⟨_, _, _, _, rfl⟩, e4, go ?_⟩
                        unfold wrongAt
                        rw [hen', hlt, hb]
                        simp
                      | false =>
                        refine iteT ⟨_, rfl, by simp [sizeLine_eq], fun r hr => ret ?_ H3 e4 r hr⟩
                        unfold wrongAt
                        rw [hen', hlt, hb, decide_eq_true h0]
                        rfl
                    · have hdec : decide ((0 : Int) < ((i : Nat) : Int)) = false := decide_eq_false (by omega)
                      rw [hdec]
                      refine iteF (iteF ⟨⟨_, _, _, _, rfl⟩, e4, go ?_⟩)
                      unfold wrongAt
                      rw [hen', decide_eq_false h0]
                      rfl
            · have hl2 : ¬ es.length = 2 := fun z => (of_decide_eq_false h2) (by rw [hlen2, z]; rfl)
              refine ⟨_, rfl, _, rfl, iteT ⟨_, rfl, by simp [sizeLine_eq], fun r hr => ret (notw ?_) _ e2 r hr⟩⟩
              show (decide (es.length = 2) && es.all (isWithinD 0 (n - 1))) = false
              rw [decide_eq_false hl2]
              rfl
          · refine ⟨_, rfl, _, rfl, iteT ⟨_, rfl, by simp [sizeLine_eq], fun r hr => ret (notw ?_) _ e2 r hr⟩⟩
            cases hz : ds.getD i .none with
            | tuple es => rw [hz] at ht; cases ht
            | _ => rfl
        · obtain ⟨_, e1, hno⟩ := p
          refine q _ H' e1 ?_
          have e : firstWrong n (.tuple ds) = none := by
            show ((List.range ds.length).find? (wrongAt n ds)).map (fun i => (i : Int)) = _
            rw [find_none fun j hj => hno j (by omega)]
            rfl
          rw [edue, e]
          exact .str _
      | _ =>
        refine iteT ⟨_, rfl, by simp [sizeLine_eq], fun r hr => q _ _ (Ex.new hr) ?_⟩
        rw [edue]
        exact .tup (SqT.of upd_same) (.cons (.str _) (.cons (.int _) .nil))
end
end K3
set_option Elab.async false
set_option linter.all false
set_option maxRecDepth 100000
set_option maxHeartbeats 4000000
/-! _law_pairs. -/
namespace K3
open PySem PySem.Spec PyProof.Rows L2
open Evl (Ex)
theorem cut_upd {p c D : Addr} {H : Hp} {o : HO} (h1 : D ≠ p) (h2 : D ≠ c) : cut p c (upd H D o) = upd (cut p c H) D o := by
  funext b
  unfold cut
  by_cases q : b = p ∨ b = c
  · rw [if_pos q]
    have hb : b ≠ D := fun z => by
      rcases q with q | q
      · exact h1 (z ▸ q)
      · exact h2 (z ▸ q)
    rw [upd_ne hb, if_pos q]
  · rw [if_neg q]
    by_cases e : b = D
    · rw [e, upd_same, upd_same]
    · rw [upd_ne e, upd_ne e, if_neg q]
theorem PoolAt.upd {H : Hp} {p c D : Addr} {o : HO} (h : PoolAt H p c) (h1 : D ≠ p) (h2 : D ≠ c) : PoolAt (L2.upd H D o) p c := by
  obtain ⟨s, n, cells, g1, g2, g3⟩ := h.at_
  exact ⟨h.ne, s, n, cells, by rw [upd_ne (Ne.symm h1)]; exact g1, by rw [upd_ne (Ne.symm h2)]; exact g2, g3⟩
theorem PoolAt.p1 {H : Hp} {p c D : Addr} (h : PoolAt H p c) (hD : H D = none) : D ≠ p ∧ D ≠ c := by
  obtain ⟨s, n, cells, g1, g2, g3⟩ := h.at_
  exact ⟨ne_of_fresh hD g1, ne_of_fresh hD g2⟩
theorem cut_get {p c b : Addr} {H : Hp} {o : HO} (h : cut p c H b = some o) : H b = some o := cut_le b o h
theorem ex_cut_get {p c b : Addr} {H H' : Hp} {o : HO} (e : Ex (cut p c H) (cut p c H')) (h : H b = some o) (h1 : b ≠ p) (h2 : b ≠ c) : H' b = some o := cut_get (e b o (cut_at h h1 h2))
/-- draws leave tuples as they are -/
theorem PoolAt.tx {H H' : Hp} {p c : Addr} (h : PoolAt H p c) (e : Ex (cut p c H) (cut p c H')) : Tx H H' := fun a xs q => by
  obtain ⟨s, n, cells, g1, g2, g3⟩ := h.at_
  rcases q with q | ⟨o, q⟩
  · have n1 : a ≠ p := fun z => by rw [z, g1] at q; cases q
    have n2 : a ≠ c := fun z => by rw [z, g2] at q; cases q
    exact .inl (ex_cut_get e q n1 n2)
  · have n1 : a ≠ p := fun z => by rw [z, g1] at q; cases q
    have n2 : a ≠ c := fun z => by rw [z, g2] at q; cases q
    exact .inr ⟨o, ex_cut_get e q n1 n2⟩
theorem PoolAt.cutTx {H : Hp} {p c : Addr} (h : PoolAt H p c) : Tx H (cut p c H) := fun a xs q => by
  obtain ⟨s, n, cells, g1, g2, g3⟩ := h.at_
  rcases q with q | ⟨o, q⟩
  · have n1 : a ≠ p := fun z => by rw [z, g1] at q; cases q
    have n2 : a ≠ c := fun z => by rw [z, g2] at q; cases q
    exact .inl (cut_at q n1 n2)
  · have n1 : a ≠ p := fun z => by rw [z, g1] at q; cases q
    have n2 : a ≠ c := fun z => by rw [z, g2] at q; cases q
    exact .inr ⟨o, cut_at q n1 n2⟩
/-- the parts of a list of pairs -/
theorem parts {K : PySem.W.Frag} {H : Hp} : ∀ {l : Edges} {xs : List V}, DpAll K H xs (l.map pD) → ∃ ks : List (Addr × List Int), (ks.map fun p => V.ref p.1) = xs ∧ (ks.map (·.2)) = l.map (fun e => [(e.1 : Int), (e.2 : Int)]) ∧ ∀ p ∈ ks, SqT K H p.1 (p.2.map V.int)
  | [], _, h => by
    cases h
    exact ⟨[], rfl, rfl, fun p hp => by cases hp⟩
  | e :: l, _, h => by
    cases h with
    | cons h1 h2 =>
      obtain ⟨ks, k1, k2, k3⟩ := parts h2
      obtain ⟨t, rfl, hs⟩ := dp_pair h1
      refine ⟨(t, [(e.1 : Int), (e.2 : Int)]) :: ks, by rw [List.map_cons, k1], by rw [List.map_cons, k2, List.map_cons], fun p hp => ?_⟩
      rcases List.mem_cons.mp hp with z | z
      · rw [z]
        exact hs
      · exact k3 p z
def eOf : List Int → Nat × Nat
  | [a, b] => (a.toNat, b.toNat)
  | _ => (0, 0)
theorem eOf_nat {e : Nat × Nat} : eOf [(e.1 : Int), (e.2 : Int)] = e := by
  show ((e.1 : Int).toNat, (e.2 : Int).toNat) = e
  rw [Int.toNat_natCast, Int.toNat_natCast]
theorem unparts {K : PySem.W.Frag} {H : Hp} : ∀ {ks : List (Addr × List Int)}, (∀ p ∈ ks, ∃ e : Nat × Nat, p.2 = [(e.1 : Int), (e.2 : Int)] ∧ SqT K H p.1 (p.2.map V.int)) → DpAll K H (ks.map fun q => V.ref q.1) ((ks.map fun q => eOf q.2).map pD)
  | [], _ => .nil
  | k :: ks, h => by
    obtain ⟨e, he, hs⟩ := h k List.mem_cons_self
    have ih := unparts (ks := ks) fun p hp => h p (List.mem_cons_of_mem _ hp)
    rw [List.map_cons, List.map_cons, List.map_cons]
    refine .cons ?_ ih
    rw [he] at hs ⊢
    rw [eOf_nat]
    exact .tup hs (.cons (.int _) (.cons (.int _) .nil))
theorem nodup_lenI {α : Type} [DecidableEq α] : ∀ (l r : List α), l.Nodup → (∀ x ∈ l, x ∈ r) → l.length ≤ r.length
  | [], _, _, _ => Nat.zero_le _
  | x :: l, r, hn, hs => by
    have hx : x ∈ r := hs x List.mem_cons_self
    obtain ⟨h1, h2⟩ := List.nodup_cons.mp hn
    have ih := nodup_lenI l (r.erase x) h2 fun y hy => by
      have hne : y ≠ x := fun e => h1 (e ▸ hy)
      exact (List.mem_erase_of_ne hne).mpr (hs y (List.mem_cons_of_mem _ hy))
    have e := List.length_erase_of_mem hx
    have pos : 0 < r.length := List.length_pos_of_mem hx
    show l.length + 1 ≤ r.length
    omega
section
variable {P : Program} {w : World} {K : PySem.W.Frag} {mg : Str → Option Value} {base : Heap} (T : Txt K mg)
-- _law_pairs: 0 _law_pool_here  1 _law_many  2 _law_most  3 _law_found  4 _law_turn  5 _law_pair
theorem sc_law_pairs : FnScope ["_law_pool_here", "_law_many", "_law_most", "_law_found", "_law_turn", "_law_pair"] ["_law_pool_here", "_law_many", "_law_most"] (defScope (topS 39)) := ⟨rfl, rfl, rfl, by decide +kernel, rfl, by decide +kernel, by decide +kernel⟩
def spPairs (K : PySem.W.Frag) : Sp := fun vs H Q _ => ∃ (p c : Addr) (many most : Nat), vs = [.ref p, iV many, iV most] ∧ PoolAt H p c ∧ 1 ≤ many ∧ many ≤ 40 ∧ most ≤ 40 ∧
  ∀ (r : Addr) (E : Edges) (H' : Hp), PoolAt H' p c → Ex (cut p c H) (cut p c H') → Dp K (cut p c H') (.ref r) (.tuple (E.map pD)) → Bk many E → E.length ≤ most → Q (.ref r) H'
theorem ok_law_pairs : FnOk P w K mg base CX0 2 T.law_pairs.f T.law_pairs.fd ["_law_pool_here", "_law_many", "_law_most"] (spPairs K) := by
  have G_law_draw : FnOk P w K mg base CX0 1 T.law_draw.f T.law_draw.fd ["_law_pool_here", "_law_many"] spDraw := ok_law_draw T
  refine T.law_pairs.F.ok sc_law_pairs (fun vs H Q E h => ?_) (fun cdv A outer s H vs Q E hr h => ?_)
  · obtain ⟨p, c, many, most, rfl, _⟩ := h
    rfl
  · obtain ⟨p, c, many, most, rfl, hp, m1, m2, mm, q⟩ := h
    refine ⟨_, (pss_cons (ps_setLc (i := 3) (own := [("_law_turn", 4)]) rfl sc_law_pairs.nd rfl rfl (sw_true rfl rfl rfl (by decide +kernel)) (pi_range1 (by rfl) T.m_range (pa_cons (pe_call G_law_draw (hr.mono (by decide)) (by rfl) T.law_draw.g T.law_draw.F.kp T.law_draw.b .nil pass0 (pa_cons (pv 0) (pa_cons (pe_op op_add (pv 2) pe_int) pa_nil))) pa_nil)) (blkOk_by (own := [("_law_turn", 4)]) (N := ["_law_pool_here", "_law_many", "_law_most", "_law_found", "_law_turn", "_law_pair"]) (sc := defScope (topS 39)) (by decide +kernel)) (fun _ _ _ _ _ => (pg_name (i := 4) sc_law_pairs.nd rfl (.inl rfl))) (fun _ _ _ _ _ => pts_nil) (fun _ _ _ _ _ => (pe_tup (pa_cons (pe_call G_law_draw (hr.mono (by decide)) (by rfl) T.law_draw.g T.law_draw.F.kp T.law_draw.b .nil pass0 (pa_cons (pv 0) (pa_cons (pv 1) pa_nil))) (pa_cons (pe_call G_law_draw (hr.mono (by decide)) (by rfl) T.law_draw.g T.law_draw.F.kp T.law_draw.b .nil pass0 (pa_cons (pv 0) (pa_cons (pv 1) pa_nil))) pa_nil)))))
    (pss_cons (ps_if (pt_cmpR op_eq (pe_call G_law_draw (hr.mono (by decide)) (by rfl) T.law_draw.g T.law_draw.F.kp T.law_draw.b .nil pass0 (pa_cons (pv 0) (pa_cons pe_int pa_nil))) pe_int (nomark _)) (pss_one (ps_setLc (i := 3) (own := [("_law_pair", 5)]) rfl sc_law_pairs.nd rfl rfl (sw_true rfl rfl rfl (by decide +kernel)) (pi_list (pv 3)) (blkOk_by (own := [("_law_pair", 5)]) (N := ["_law_pool_here", "_law_many", "_law_most", "_law_found", "_law_turn", "_law_pair"]) (sc := defScope (topS 39)) (by decide +kernel)) (fun _ _ _ _ _ => (pg_name (i := 5) sc_law_pairs.nd rfl (.inl rfl))) (fun _ _ _ _ _ => pts_nil) (fun _ _ _ _ _ => (pe_tup (pa_cons (pe_callB (r := rMinT K) (cr_minT rfl) (by rfl) T.m_min boot_min (pa_cons (pv 5) pa_nil)) (pa_cons (pe_callB (r := rMaxT K) (cr_maxT rfl) (by rfl) T.m_max boot_max (pa_cons (pv 5) pa_nil)) pa_nil)))))) pss_nil)
    (pss_one (ps_ret (pe_callTy call_tuple_of (by rfl) T.m_tuple boot_tuple (pa_cons (pe_callB (cr_sortedT rfl) (by rfl) T.m_sorted boot_sorted (pa_cons (pe_callTy (cr_setOfT rfl hr.units) (by rfl) T.m_set boot_set (pa_cons (pe_lc (own := [("_law_pair", 5)]) rfl sc_law_pairs.nd (pi_list (pv 3)) (blkOk_by (own := [("_law_pair", 5)]) (N := ["_law_pool_here", "_law_many", "_law_most", "_law_found", "_law_turn", "_law_pair"]) (sc := defScope (topS 39)) (by decide +kernel)) (fun _ _ _ _ _ => (pg_name (i := 5) sc_law_pairs.nd rfl (.inl rfl))) (fun _ _ _ _ _ => pts_one (pt_cmpR op_ne (pe_ix (r := rIxT K) ix_tup (pv 5) pe_int (fun _ _ => rfl)) (pe_ix (r := rIxT K) ix_tup (pv 5) pe_int (fun _ _ => rfl)) (nomark _))) (fun _ _ _ _ _ => (pv 5))) pa_nil)) pa_nil)) pa_nil)))))), ?_⟩
    refine ⟨_, rfl, _, rfl, _, _, rfl, rfl, p, c, most + 1, rfl, hp, by omega, by omega, fun n0 H1 hn0 hp1 e1 => ?_⟩
    refine ⟨_, rfl, by omega, by omega, fun D hD => ?_⟩
    have nD := hp1.p1 hD
    have hD0 : cut p c H D = none := Evl.fresh_back e1 (by unfold cut; rw [if_neg (fun z => by rcases z with z | z; exact nD.1 z; exact nD.2 z)]; exact hD)
    refine lc_range (lo := 0) (n := (n0 : Int).toNat) (fun i H2 => PoolAt H2 p c ∧ Ex (cut p c H) (cut p c H2) ∧ ∃ (l : Edges) (xs : List V), H2 D = some (.lst xs) ∧ DpAll K H2 xs (l.map pD) ∧ l.length = i ∧ ∀ e ∈ l, e.1 < many ∧ e.2 < many)
      ⟨hp1.upd nD.1 nD.2, ?_, [], [], upd_same, .nil, rfl, fun e he => by cases he⟩ (fun i H2 hi pp => ?_) (fun H2 pp => ?_)
    · rw [cut_upd nD.1 nD.2]
      exact Ex.mut e1 hD0
    · obtain ⟨hp2, e2, l, xs, hx, hda, hl, hb⟩ := pp
      refine ⟨rfl, yes_go ⟨_, rfl, _, rfl, p, c, many, rfl, hp2, m1, by omega, fun d1 H3 hd1 hp3 e3 => ⟨_, rfl, _, rfl, p, c, many, rfl, hp3, m1, by omega, fun d2 H4 hd2 hp4 e4 => ?_⟩⟩⟩
      refine ⟨by simp [sizeLine_eq], fun t ht => ?_⟩
      have hx4 : H4 D = some (.lst xs) := ex_cut_get e4 (ex_cut_get e3 hx nD.1 nD.2) nD.1 nD.2
      have nt := hp4.p1 ht
      have hDt : D ≠ t := Ne.symm (ne_of_fresh ht hx4)
      have hxl : xs.length = l.length := by rw [dpAll_len hda, List.length_map]
      have hx5 : (upd H4 t (.tup [iV d1, iV d2])) D = some (.lst xs) := by
        rw [upd_ne hDt]
        exact hx4
      refine ⟨xs, hx5, by rw [sizeLine_eq]; omega, (hp4.upd nt.1 nt.2).upd nD.1 nD.2, ?_, l ++ [(d1, d2)], xs ++ [.ref t], upd_same, ?_, by rw [List.length_append, hl]; rfl, fun e he => ?_⟩
      · rw [cut_upd nD.1 nD.2, cut_upd nt.1 nt.2]
        refine Ex.mut (((e2.trans e3).trans e4).trans (Ex.new ?_)) hD0
        unfold cut
        rw [if_neg (fun z => by rcases z with z | z; exact nt.1 z; exact nt.2 z)]
        exact ht
      · have tx1 : Tx (upd H4 t (.tup [iV d1, iV d2])) (upd (upd H4 t (.tup [iV d1, iV d2])) D (.lst (xs ++ [.ref t]))) := Tx.mut hx5
        have hti : SqT K (upd H4 t (.tup [iV d1, iV d2])) t [iV d1, iV d2] := SqT.of upd_same
        rw [List.map_append]
        refine dpAll_snoc (dpAll_pD_tx ((((hp2.tx e3).trans (hp3.tx e4)).trans (Tx.of (Ex.new ht))).trans tx1) hda) (dp_pD_tx (p := (d1, d2)) tx1 (.tup hti (.cons (.int _) (.cons (.int _) .nil))))
      · rcases List.mem_append.mp he with z | z
        · exact hb e z
        · rw [List.mem_singleton.mp z]
          exact ⟨hd1, hd2⟩
    · obtain ⟨hp2, e2, l, xs, hx, hda, hl, hb⟩ := pp
      have hll : l.length ≤ most := by omega
      refine ⟨_, rfl, p, c, 2, rfl, hp2, by omega, by omega, fun d0 H2' hd0 hp2' e2' => ?_⟩
      have hx2' : H2' D = some (.lst xs) := ex_cut_get e2' hx nD.1 nD.2
      have hda2' := dpAll_pD_tx (hp2.tx e2') hda
      refine ⟨rfl, _, rfl, bran (fun _ => ?_) (fun _ => ?_)⟩
      · refine ⟨_, rfl, D, rfl, ⟨_, SqL.of hx2'⟩, fun M hM => ?_⟩
        have nM := hp2'.p1 hM
        refine lc_list (xs := xs) (fun j H4 => Ex H2' H4 ∧ ∃ (lm : Edges) (acc : List V), H4 M = some (.lst acc) ∧ DpAll K H4 acc (lm.map pD) ∧ lm.length = j ∧ ∀ e ∈ lm, e.1 < many ∧ e.2 < many) ⟨Ex.new hM, [], [], upd_same, .nil, rfl, fun e he => (by cases he)⟩ (fun j H4 _ pp => Evl.ex_l pp.1 (SqL.of hx2')) (fun j x H4 hxj pp => ?_) (fun H4 pp => ?_)
        · obtain ⟨e4, lm, acc, hac, hA, hlm, hbm⟩ := pp
          obtain ⟨pr, hpr, t, rfl, ht⟩ := dpAll_pairs hda2' hxj
          have ht4 := Evl.ex_t e4 ht
          have ht4' : SqT K H4 t (([(pr.1 : Int), (pr.2 : Int)] : List Int).map V.int) := ht4
          have hjl : j < l.length := (List.getElem?_eq_some_iff.mp hpr).1
          have hprb := hb pr (List.mem_of_getElem? hpr)
          refine ⟨rfl, yes_go ⟨_, rfl, t, _, rfl, ht4', by simp, fun mi hmi _ => ⟨_, rfl, t, _, rfl, ht4', by simp, fun ma hma _ => ⟨by simp [sizeLine_eq], fun u hu => ?_⟩⟩⟩⟩
          have two : ∀ m : Int, m ∈ [(pr.1 : Int), (pr.2 : Int)] → ∃ k : Nat, m = (k : Int) ∧ k < many := fun m hm => by
            simp only [List.mem_cons, List.not_mem_nil, or_false] at hm
            rcases hm with z | z
            · exact ⟨pr.1, z, hprb.1⟩
            · exact ⟨pr.2, z, hprb.2⟩
          obtain ⟨k1, rfl, hk1⟩ := two mi hmi
          obtain ⟨k2, rfl, hk2⟩ := two ma hma
          have hMu : M ≠ u := Ne.symm (ne_of_fresh hu hac)
          have hac5 : (upd H4 u (.tup [iV k1, iV k2])) M = some (.lst acc) := by
            rw [upd_ne hMu]
            exact hac
          have hal : acc.length = lm.length := by rw [dpAll_len hA, List.length_map]
          refine ⟨acc, hac5, by rw [sizeLine_eq]; omega, Ex.mut (e4.trans (Ex.new hu)) hM, lm ++ [(k1, k2)], acc ++ [.ref u], upd_same, ?_, by rw [List.length_append, hlm]; rfl, fun e he => ?_⟩
          · have tx1 : Tx (upd H4 u (.tup [iV k1, iV k2])) (upd (upd H4 u (.tup [iV k1, iV k2])) M (.lst (acc ++ [.ref u]))) := Tx.mut hac5
            have hti : SqT K (upd H4 u (.tup [iV k1, iV k2])) u [iV k1, iV k2] := SqT.of upd_same
            rw [List.map_append]
            refine dpAll_snoc (dpAll_pD_tx ((Tx.of (Ex.new hu)).trans tx1) hA) (dp_pD_tx (p := (k1, k2)) tx1 (.tup hti (.cons (.int _) (.cons (.int _) .nil))))
          · rcases List.mem_append.mp he with z | z
            · exact hbm e z
            · rw [List.mem_singleton.mp z]
              exact ⟨hk1, hk2⟩
        · obtain ⟨e4, l3, xs3, hx3, hda3, hlm, hb3⟩ := pp
          have hxl : xs.length = l.length := by rw [dpAll_len hda, List.length_map]
          have hl3 : l3.length ≤ most := by omega
          have hp3 := hp2'.ex e4
          have e3 : Ex (cut p c H) (cut p c H4) := (e2.trans e2').trans (cut_ex e4)
          obtain ⟨H3, rfl⟩ : ∃ H3, H3 = H4 := ⟨_, rfl⟩
          obtain ⟨Dl, rfl⟩ : ∃ Dl, Dl = M := ⟨_, rfl⟩
          refine ⟨_, rfl, Dl, rfl, ⟨_, SqL.of hx3⟩, fun F hF => ?_⟩
          have nF := hp3.p1 hF
          refine lc_list (xs := xs3) (fun j H4 => Ex H3 H4 ∧ ∃ acc, H4 F = some (.lst acc) ∧ DpAll K H4 acc (((l3.take j).filter fun e => decide (e.1 ≠ e.2)).map pD)) ⟨Ex.new hF, [], upd_same, .nil⟩ (fun j H4 _ pp => Evl.ex_l pp.1 (SqL.of hx3)) (fun j x H4 hxj pp => ?_) (fun H4 pp => ?_)
          · obtain ⟨e4, acc, hac, hA⟩ := pp
            obtain ⟨pr, hpr, t, rfl, ht⟩ := dpAll_pairs hda3 hxj
            have ht4 := Evl.ex_t e4 ht
            have at0 : ∀ {a b : V}, atI [a, b] 0 = some a := rfl
            have at1 : ∀ {a b : V}, atI [a, b] 1 = some b := rfl
            have hjl : j < l3.length := (List.getElem?_eq_some_iff.mp hpr).1
            have hal : acc.length ≤ 40 := by
              rw [dpAll_len hA, List.length_map]
              refine Nat.le_trans (List.length_filter_le ..) ?_
              rw [List.length_take]
              omega
            have hpd : Dp K H4 (.ref t) (pD pr) := .tup ht4 (.cons (.int _) (.cons (.int _) .nil))
            refine ⟨rfl, _, rfl, t, _, 0, _, rfl, rfl, ht4, at0, _, rfl, t, _, 1, _, rfl, rfl, ht4, at1, rfl, _, rfl, bran (fun hc => ?_) (fun hc => ?_)⟩
            · have hne : pr.1 ≠ pr.2 := fun z => by
                have q2 : decide (iV pr.1 = iV pr.2) = true := decide_eq_true (by rw [z])
                rw [q2] at hc
                cases hc
              refine ⟨_, rfl, acc, hac, by rw [sizeLine_eq]; omega, Ex.mut e4 hF, acc ++ [.ref t], upd_same, ?_⟩
              have tx : Tx H4 (upd H4 F (.lst (acc ++ [.ref t]))) := Tx.mut hac
              rw [take_snoc hpr, filter_snoc, if_pos (by simpa using hne), List.map_append]
              exact dpAll_snoc (dpAll_pD_tx tx hA) (dp_pD_tx tx hpd)
            · have heq : pr.1 = pr.2 := Classical.byContradiction fun z => by
                have q2 : decide (iV pr.1 = iV pr.2) = false := decide_eq_false fun e => z (by have e2 := V.int.inj e; omega)
                rw [q2] at hc
                cases hc
              refine ⟨e4, acc, hac, ?_⟩
              rw [take_snoc hpr, filter_snoc, if_neg (by simpa using heq), List.append_nil]
              exact hA
          · obtain ⟨e4, acc, hac, hA⟩ := pp
            have hxl3 : xs3.length = l3.length := by rw [dpAll_len hda3, List.length_map]
            rw [hxl3, List.take_length] at hA
            obtain ⟨ks, k1, k2, k3⟩ := parts hA
            have hkl : ks.length ≤ most := by
              have z := congrArg List.length k2
              rw [List.length_map, List.length_map] at z
              rw [z]
              exact Nat.le_trans (List.length_filter_le ..) hl3
            have hkm : ∀ k ∈ ks, ∃ e : Nat × Nat, k.2 = [(e.1 : Int), (e.2 : Int)] ∧ e.1 < many ∧ e.2 < many ∧ e.1 ≠ e.2 := fun k hk => by
              have z : k.2 ∈ ks.map (·.2) := List.mem_map.mpr ⟨k, hk, rfl⟩
              rw [k2] at z
              obtain ⟨e, he, ee⟩ := List.mem_map.mp z
              obtain ⟨h1, h2⟩ := List.mem_filter.mp he
              exact ⟨e, ee.symm, (hb3 e h1).1, (hb3 e h1).2, by simpa using h2⟩
            refine ⟨F, ks, rfl, by rw [k1]; exact SqL.of hac, k3, by omega, fun S L hS hL1 hL2 => ?_⟩
            have nS := (hp3.ex e4).p1 hS
            have hLm : ∀ k ∈ L, ∃ e : Nat × Nat, k.2 = [(e.1 : Int), (e.2 : Int)] ∧ e.1 < many ∧ e.2 < many ∧ e.1 ≠ e.2 := fun k hk => hkm k (hL1 k hk)
            have hLs : ∀ k ∈ L, SqT K (upd H4 S (SetTO P w S L)) k.1 (k.2.map V.int) := fun k hk => Evl.ex_t (Ex.new hS) (k3 k (hL1 k hk))
            refine ⟨S, L, 2, 64, rfl, upd_same, hLs, by decide, fun k hk => ?_, fun L' G pm nd few pw hG => ?_⟩
            · obtain ⟨e, he, e1', e2', _⟩ := hLm k hk
              rw [he]
              refine ⟨rfl, fun m hm => ?_⟩
              simp only [List.mem_cons, List.not_mem_nil, or_false] at hm
              rcases hm with z | z <;> rw [z] <;> omega
            have hL'm : ∀ k ∈ L', ∃ e : Nat × Nat, k.2 = [(e.1 : Int), (e.2 : Int)] ∧ e.1 < many ∧ e.2 < many ∧ e.1 ≠ e.2 := fun k hk => hLm k (pm.mem_iff.mp hk)
            have e5 : Ex H3 (upd (upd H4 S (SetTO P w S L)) G (.lst (L'.map fun q => V.ref q.1))) := (e4.trans (Ex.new hS)).trans (Ex.new hG)
            have nG := ((hp3.ex e4).ex (Ex.new hS)).p1 hG
            refine ⟨G, _, rfl, .inl ⟨SqL.of upd_same, fun r hr => ?_⟩⟩
            have nr := (hp3.ex e5).p1 hr
            have e6 := e5.trans (Ex.new (o := .tup (L'.map fun q => V.ref q.1)) hr)
            have hp6 := hp3.ex e6
            have hdd : DpAll K (upd (upd (upd H4 S (SetTO P w S L)) G (.lst (L'.map fun q => V.ref q.1))) r (.tup (L'.map fun q => V.ref q.1))) (L'.map fun q => V.ref q.1) ((L'.map fun q => eOf q.2).map pD) := unparts fun k hk => by
              obtain ⟨e, he, _⟩ := hL'm k hk
              exact ⟨e, he, Evl.ex_t ((Ex.new hG).trans (Ex.new hr)) (hLs k (pm.mem_iff.mp hk))⟩
            refine q r (L'.map fun q => eOf q.2) _ hp6 (e3.trans (cut_ex e6)) (.tup (SqT.of (cut_at upd_same nr.1 nr.2)) (dpAll_pD_tx hp6.cutTx hdd)) ⟨fun e he => ?_, ?_⟩ ?_
            · obtain ⟨k, hk, rfl⟩ := List.mem_map.mp he
              obtain ⟨e, he, h1, h2, h3⟩ := hL'm k hk
              rw [he, eOf_nat]
              exact ⟨h1, h2, h3⟩
            · refine List.pairwise_map.mpr ?_
              have nd2 : L'.Pairwise fun a b => a.2 ≠ b.2 := List.pairwise_map.mp nd
              refine List.Pairwise.imp_of_mem ?_ (List.Pairwise.and pw nd2)
              intro k1 k2 hk1 hk2 hh
              obtain ⟨ea, he1, a1, a2, _⟩ := hL'm k1 hk1
              obtain ⟨eb, he2, b1, b2, _⟩ := hL'm k2 hk2
              have h1 := hh.1
              have h2 := hh.2
              rw [he1, he2] at h1 h2
              rw [he1, he2, eOf_nat, eOf_nat]
              have z := pair_lt h1 h2 (by omega) (by omega) (by omega) (by omega)
              omega
            · rw [List.length_map]
              have z := nodup_lenI (L'.map (·.2)) (ks.map (·.2)) nd fun v hv => by
                obtain ⟨k, hk, rfl⟩ := List.mem_map.mp hv
                exact List.mem_map.mpr ⟨k, hL1 k (pm.mem_iff.mp hk), rfl⟩
              rw [List.length_map, List.length_map] at z
              omega
      · have hx3 := hx2'
        have hda3 := hda2'
        have hl3 := hll
        have hb3 := hb
        have hp3 := hp2'
        have e3 : Ex (cut p c H) (cut p c H2') := e2.trans e2'
        obtain ⟨H3, rfl⟩ : ∃ H3, H3 = H2' := ⟨_, rfl⟩
        obtain ⟨Dl, rfl⟩ : ∃ Dl, Dl = D := ⟨_, rfl⟩
        obtain ⟨l3, rfl⟩ : ∃ l3, l3 = l := ⟨_, rfl⟩
        obtain ⟨xs3, rfl⟩ : ∃ xs3, xs3 = xs := ⟨_, rfl⟩
        refine ⟨_, rfl, Dl, rfl, ⟨_, SqL.of hx3⟩, fun F hF => ?_⟩
        have nF := hp3.p1 hF
        refine lc_list (xs := xs3) (fun j H4 => Ex H3 H4 ∧ ∃ acc, H4 F = some (.lst acc) ∧ DpAll K H4 acc (((l3.take j).filter fun e => decide (e.1 ≠ e.2)).map pD)) ⟨Ex.new hF, [], upd_same, .nil⟩ (fun j H4 _ pp => Evl.ex_l pp.1 (SqL.of hx3)) (fun j x H4 hxj pp => ?_) (fun H4 pp => ?_)
        · obtain ⟨e4, acc, hac, hA⟩ := pp
          obtain ⟨pr, hpr, t, rfl, ht⟩ := dpAll_pairs hda3 hxj
          have ht4 := Evl.ex_t e4 ht
          have at0 : ∀ {a b : V}, atI [a, b] 0 = some a := rfl
          have at1 : ∀ {a b : V}, atI [a, b] 1 = some b := rfl
          have hjl : j < l3.length := (List.getElem?_eq_some_iff.mp hpr).1
          have hal : acc.length ≤ 40 := by
            rw [dpAll_len hA, List.length_map]
            refine Nat.le_trans (List.length_filter_le ..) ?_
            rw [List.length_take]
            omega
          have hpd : Dp K H4 (.ref t) (pD pr) := .tup ht4 (.cons (.int _) (.cons (.int _) .nil))
          refine ⟨rfl, _, rfl, t, _, 0, _, rfl, rfl, ht4, at0, _, rfl, t, _, 1, _, rfl, rfl, ht4, at1, rfl, _, rfl, bran (fun hc => ?_) (fun hc => ?_)⟩
          · have hne : pr.1 ≠ pr.2 := fun z => by
              have q2 : decide (iV pr.1 = iV pr.2) = true := decide_eq_true (by rw [z])
              rw [q2] at hc
              cases hc
            refine ⟨_, rfl, acc, hac, by rw [sizeLine_eq]; omega, Ex.mut e4 hF, acc ++ [.ref t], upd_same, ?_⟩
            have tx : Tx H4 (upd H4 F (.lst (acc ++ [.ref t]))) := Tx.mut hac
            rw [take_snoc hpr, filter_snoc, if_pos (by simpa using hne), List.map_append]
            exact dpAll_snoc (dpAll_pD_tx tx hA) (dp_pD_tx tx hpd)
          · have heq : pr.1 = pr.2 := Classical.byContradiction fun z => by
              have q2 : decide (iV pr.1 = iV pr.2) = false := decide_eq_false fun e => z (by have e2 := V.int.inj e; omega)
              rw [q2] at hc
              cases hc
            refine ⟨e4, acc, hac, ?_⟩
            rw [take_snoc hpr, filter_snoc, if_neg (by simpa using heq), List.append_nil]
            exact hA
        · obtain ⟨e4, acc, hac, hA⟩ := pp
          have hxl3 : xs3.length = l3.length := by rw [dpAll_len hda3, List.length_map]
          rw [hxl3, List.take_length] at hA
          obtain ⟨ks, k1, k2, k3⟩ := parts hA
          have hkl : ks.length ≤ most := by
            have z := congrArg List.length k2
            rw [List.length_map, List.length_map] at z
            rw [z]
            exact Nat.le_trans (List.length_filter_le ..) hl3
          have hkm : ∀ k ∈ ks, ∃ e : Nat × Nat, k.2 = [(e.1 : Int), (e.2 : Int)] ∧ e.1 < many ∧ e.2 < many ∧ e.1 ≠ e.2 := fun k hk => by
            have z : k.2 ∈ ks.map (·.2) := List.mem_map.mpr ⟨k, hk, rfl⟩
            rw [k2] at z
            obtain ⟨e, he, ee⟩ := List.mem_map.mp z
            obtain ⟨h1, h2⟩ := List.mem_filter.mp he
            exact ⟨e, ee.symm, (hb3 e h1).1, (hb3 e h1).2, by simpa using h2⟩
          refine ⟨F, ks, rfl, by rw [k1]; exact SqL.of hac, k3, by omega, fun S L hS hL1 hL2 => ?_⟩
          have nS := (hp3.ex e4).p1 hS
          have hLm : ∀ k ∈ L, ∃ e : Nat × Nat, k.2 = [(e.1 : Int), (e.2 : Int)] ∧ e.1 < many ∧ e.2 < many ∧ e.1 ≠ e.2 := fun k hk => hkm k (hL1 k hk)
          have hLs : ∀ k ∈ L, SqT K (upd H4 S (SetTO P w S L)) k.1 (k.2.map V.int) := fun k hk => Evl.ex_t (Ex.new hS) (k3 k (hL1 k hk))
          refine ⟨S, L, 2, 64, rfl, upd_same, hLs, by decide, fun k hk => ?_, fun L' G pm nd few pw hG => ?_⟩
          · obtain ⟨e, he, e1', e2', _⟩ := hLm k hk
            rw [he]
            refine ⟨rfl, fun m hm => ?_⟩
            simp only [List.mem_cons, List.not_mem_nil, or_false] at hm
            rcases hm with z | z <;> rw [z] <;> omega
          have hL'm : ∀ k ∈ L', ∃ e : Nat × Nat, k.2 = [(e.1 : Int), (e.2 : Int)] ∧ e.1 < many ∧ e.2 < many ∧ e.1 ≠ e.2 := fun k hk => hLm k (pm.mem_iff.mp hk)
          have e5 : Ex H3 (upd (upd H4 S (SetTO P w S L)) G (.lst (L'.map fun q => V.ref q.1))) := (e4.trans (Ex.new hS)).trans (Ex.new hG)
          have nG := ((hp3.ex e4).ex (Ex.new hS)).p1 hG
          refine ⟨G, _, rfl, .inl ⟨SqL.of upd_same, fun r hr => ?_⟩⟩
          have nr := (hp3.ex e5).p1 hr
          have e6 := e5.trans (Ex.new (o := .tup (L'.map fun q => V.ref q.1)) hr)
          have hp6 := hp3.ex e6
          have hdd : DpAll K (upd (upd (upd H4 S (SetTO P w S L)) G (.lst (L'.map fun q => V.ref q.1))) r (.tup (L'.map fun q => V.ref q.1))) (L'.map fun q => V.ref q.1) ((L'.map fun q => eOf q.2).map pD) := unparts fun k hk => by
            obtain ⟨e, he, _⟩ := hL'm k hk
            exact ⟨e, he, Evl.ex_t ((Ex.new hG).trans (Ex.new hr)) (hLs k (pm.mem_iff.mp hk))⟩
          refine q r (L'.map fun q => eOf q.2) _ hp6 (e3.trans (cut_ex e6)) (.tup (SqT.of (cut_at upd_same nr.1 nr.2)) (dpAll_pD_tx hp6.cutTx hdd)) ⟨fun e he => ?_, ?_⟩ ?_
          · obtain ⟨k, hk, rfl⟩ := List.mem_map.mp he
            obtain ⟨e, he, h1, h2, h3⟩ := hL'm k hk
            rw [he, eOf_nat]
            exact ⟨h1, h2, h3⟩
          · refine List.pairwise_map.mpr ?_
            have nd2 : L'.Pairwise fun a b => a.2 ≠ b.2 := List.pairwise_map.mp nd
            refine List.Pairwise.imp_of_mem ?_ (List.Pairwise.and pw nd2)
            intro k1 k2 hk1 hk2 hh
            obtain ⟨ea, he1, a1, a2, _⟩ := hL'm k1 hk1
            obtain ⟨eb, he2, b1, b2, _⟩ := hL'm k2 hk2
            have h1 := hh.1
            have h2 := hh.2
            rw [he1, he2] at h1 h2
            rw [he1, he2, eOf_nat, eOf_nat]
            have z := pair_lt h1 h2 (by omega) (by omega) (by omega) (by omega)
            omega
          · rw [List.length_map]
            have z := nodup_lenI (L'.map (·.2)) (ks.map (·.2)) nd fun v hv => by
              obtain ⟨k, hk, rfl⟩ := List.mem_map.mp hv
              exact List.mem_map.mpr ⟨k, hL1 k (pm.mem_iff.mp hk), rfl⟩
            rw [List.length_map, List.length_map] at z
            omega
end
end K3
set_option Elab.async false
set_option linter.all false
set_option maxRecDepth 100000
set_option maxHeartbeats 4000000
/-! pairs sorted; _law_ways. -/
namespace K3
open PySem PySem.Spec PyProof.Rows L2
open Evl (Ex)
/-- sorted(xs), xs a list of unlike pairs -/
def rSortPairs (K : PySem.W.Frag) : List V → Hp → VK → Prop := fun vs H Q => ∃ (a : Addr) (xs : List V) (l : Edges), vs = [V.ref a] ∧ SqL K H a xs ∧ DpAll K H xs (l.map pD) ∧ l.Nodup ∧
  ∀ (ys : List V) (l' : Edges) (p : Addr), l'.Pairwise lt2 → l'.Perm l → DpAll K H ys (l'.map pD) → H p = none → Q (.ref p) (upd H p (.lst ys))
theorem dpAll_of {K : PySem.W.Frag} {H : Hp} {f : V → Nat × Nat} : ∀ {ys : List V}, (∀ y ∈ ys, Dp K H y (pD (f y))) → DpAll K H ys ((ys.map f).map pD)
  | [], _ => .nil
  | y :: ys, h => .cons (h y List.mem_cons_self) (dpAll_of fun z hz => h z (List.mem_cons_of_mem _ hz))
theorem dpAll_mem {K : PySem.W.Frag} {H : Hp} : ∀ {l : Edges} {xs : List V}, DpAll K H xs (l.map pD) → ∀ x ∈ xs, ∃ e : Nat × Nat, ∃ t, x = .ref t ∧ SqT K H t [iV e.1, iV e.2]
  | [], _, h, x, hx => by
    cases h
    cases hx
  | e :: l, _, h, x, hx => by
    cases h with
    | cons h1 h2 =>
      rcases List.mem_cons.mp hx with z | z
      · obtain ⟨t, rfl, hs⟩ := dp_pair h1
        exact ⟨e, t, z, hs⟩
      · exact dpAll_mem h2 x z
theorem dpAll_map {K : PySem.W.Frag} {H : Hp} {f : V → Nat × Nat} (hf : ∀ (e : Nat × Nat) (t : Addr), SqT K H t [iV e.1, iV e.2] → f (.ref t) = e) : ∀ {l : Edges} {xs : List V}, DpAll K H xs (l.map pD) → xs.map f = l
  | [], _, h => by
    cases h
    rfl
  | e :: l, _, h => by
    cases h with
    | cons h1 h2 =>
      obtain ⟨t, rfl, hs⟩ := dp_pair h1
      rw [List.map_cons, dpAll_map hf h2, hf e t hs]
theorem cr_sortPairs {X : Cx} : CallR X (.builtin "sorted") (rSortPairs X.K) := by
  intro pins s σ H vs us Q I r h
  obtain ⟨a, xs, l, rfl, hs, hd, hnd, q⟩ := h
  have hall := dpAll_mem hd
  obtain ⟨f, hf⟩ : ∃ f : V → Nat × Nat, ∀ (e : Nat × Nat) (t : Addr), SqT X.K H t [iV e.1, iV e.2] → f (.ref t) = e := by
    classical
    refine ⟨fun x => if h : ∃ e : Nat × Nat, ∃ t, x = .ref t ∧ SqT X.K H t [iV e.1, iV e.2] then h.choose else (0, 0), fun e t ht => ?_⟩
    have hex : ∃ e : Nat × Nat, ∃ t', V.ref t = .ref t' ∧ SqT X.K H t' [iV e.1, iV e.2] := ⟨e, t, rfl, ht⟩
    show (if h : ∃ e : Nat × Nat, ∃ t', V.ref t = .ref t' ∧ SqT X.K H t' [iV e.1, iV e.2] then h.choose else (0, 0)) = e
    rw [dif_pos hex]
    obtain ⟨t', et, ht'⟩ := hex.choose_spec
    cases et
    have z := I.tuple_inj ht' ht
    obtain ⟨c1, c2⟩ := List.cons.inj z
    have c3 := (List.cons.inj c2).1
    have d1 := V.int.inj c1
    have d2 := V.int.inj c3
    have e1 : hex.choose.1 = e.1 := by omega
    have e2 : hex.choose.2 = e.2 := by omega
    exact Prod.ext e1 e2
  obtain ⟨k, hk⟩ : ∃ k : V → Int × Int, k = fun x => (((f x).1 : Int), ((f x).2 : Int)) := ⟨_, rfl⟩
  obtain ⟨its, rv, hl, hz⟩ := I.list hs
  obtain ⟨u, rfl, ru⟩ := vals1 r
  obtain rfl : u = Value.ref a := ru
  obtain ⟨e1, e2⟩ := refs_back rv fun x m => by
    obtain ⟨_, t, e, _⟩ := hall x m
    exact ⟨t, e⟩
  refine SrtO.sorted_pairsO (k := fun u => k (backV u)) hl.isList (by rw [← rv.length]; exact hz) (fun v hv => ?_) fun h' d out h1 h2 kp hd' hn => ?_
  · obtain ⟨t, rfl⟩ := e2 v hv
    have hm : V.ref t ∈ xs := by rw [e1]; exact List.mem_map.mpr ⟨_, hv, rfl⟩
    obtain ⟨e, t', et, ht⟩ := hall _ hm
    cases et
    obtain ⟨its2, r2, ⟨o, ho, hc, n, hd2⟩, _⟩ := I.tuple ht
    obtain ⟨u1, u2, rfl, ri, rj⟩ := vals2 r2
    obtain ⟨t1, rfl⟩ := ri
    obtain ⟨t2, rfl⟩ := rj
    have ek : k (backV (.ref t)) = ((e.1 : Int), (e.2 : Int)) := by
      rw [hk]
      show (((f (.ref t)).1 : Int), ((f (.ref t)).2 : Int)) = _
      rw [hf e t ht]
    show ∃ t' o t1 t2 n, _
    rw [ek]
    exact ⟨t, o, t1, t2, n, rfl, ho, hc, hd2⟩
  · have h3 : ∀ u ∈ out, ∃ a, u = Value.ref a := fun u hu => e2 u (h2.perm.mem_iff.mp hu)
    obtain ⟨n, hn⟩ := hn
    have hb : SrtO.Stb (ltP k) (out.map backV) xs := by
      rw [e1]
      exact SrtO.Stb.map (ltP_swo k) backV h2
    have hsr : SrtO.Srtd (ltP k) (out.map backV) := SrtO.srtd_map h1
    have hxl := dpAll_map hf hd
    have hperm : ((out.map backV).map f).Perm l := by
      rw [← hxl]
      exact hb.perm.map f
    have hdd : DpAll X.K H (out.map backV) (((out.map backV).map f).map pD) := dpAll_of fun y hy => by
      obtain ⟨e, t, rfl, ht⟩ := hall y (hb.perm.mem_iff.mp hy)
      rw [hf e t ht]
      exact .tup ht (.cons (.int _) (.cons (.int _) .nil))
    have hnd2 := hperm.nodup_iff.mpr hnd
    have hpw : ((out.map backV).map f).Pairwise lt2 := by
      refine List.pairwise_map.mpr ?_
      have nd2 : (out.map backV).Pairwise fun a b => f a ≠ f b := List.pairwise_map.mp hnd2
      refine (List.Pairwise.and hsr nd2).imp fun {x y} hh => ?_
      have g1 := SrtO.lexB_no.mp hh.1
      have g2 := hh.2
      rw [hk] at g1
      have g1' : _ := g1
      have g3 : ¬ ((f x).1 = (f y).1 ∧ (f x).2 = (f y).2) := fun z => g2 (Prod.ext z.1 z.2)
      unfold lt2
      dsimp only at g1'
      omega
    refine ⟨.ref d, upd H d (.lst (out.map backV)), I.laid (t' := s.toks) kp hd' ⟨?_, out, n, vals_back h3, hn⟩, rfl, q _ _ d hpw hperm hdd (I.hok.fresh hd')⟩
    rw [hb.len]
    exact hz
theorem shaped_pD : ∀ {E : Edges}, SeqAt.shaped (.list (E.map pD)) = true := by
  intro E
  have dep : ∀ E : Edges, PyData.depthAll (E.map pD) ≤ 2 := by
    intro E
    induction E with
    | nil => simp [PyData.depthAll]
    | cons e E ih =>
      rw [List.map_cons]
      simp only [PyData.depthAll, pD, PyData.depth] at ih ⊢
      omega
  unfold SeqAt.shaped
  have h1 : PyData.canLay0 (.list (E.map pD)) = true := by
    simp only [PyData.canLay0]
    exact lay_pD E
  have h2 := dep E
  rw [h1, Bool.true_and]
  refine decide_eq_true ?_
  simp only [PyData.depth]
  omega
section
variable {P : Program} {w : World} {K : PySem.W.Frag} {mg : Str → Option Value} {base : Heap} (T : Txt K mg)
-- _law_ways: 0 _law_many  1 _law_pairs_here  2 _law_found  3 _law_step  4 _law_one  5 _law_other  6 _law_pair
theorem sc_law_ways : FnScope ["_law_many", "_law_pairs_here", "_law_found", "_law_step", "_law_one", "_law_other", "_law_pair"] ["_law_many", "_law_pairs_here"] (defScope (topS 41)) := ⟨rfl, rfl, rfl, by decide +kernel, rfl, by decide +kernel, by decide +kernel⟩
def spLawWays (K : PySem.W.Frag) : Sp := fun vs H Q _ => ∃ (n : Nat) (E : Edges) (v : V), vs = [iV n, v] ∧ Dx K H v (.tuple (E.map pD)) ∧ Bk n E ∧ n ≤ 40 ∧ E.length ≤ 1000 ∧
  ∀ (r : Addr) (W : Edges) (H' : Hp), Ex H H' → Dp K H' (.ref r) (.tuple (W.map pD)) → W.Pairwise lt2 → (∀ p, p ∈ W ↔ p.1 ≠ p.2 ∧ Way E p.1 p.2) → Q (.ref r) H'
/-- sound, closed up to k steps -/
structure WY (n : Nat) (E fl : Edges) : Prop where
  nd : fl.Nodup
  way : ∀ e ∈ fl, Way E e.1 e.2
theorem WY.len {n : Nat} {E fl : Edges} (hE : ∀ p ∈ E, p.1 < n ∧ p.2 < n ∧ p.1 ≠ p.2) (h : WY n E fl) : fl.length ≤ n * n := by
  have z := nodup_lenI fl ((List.range n).flatMap fun a => (List.range n).map fun b => (a, b)) h.nd fun e he => by
    have q := (h.way e he).lt hE
    exact List.mem_flatMap.mpr ⟨e.1, List.mem_range.mpr q.1, List.mem_map.mpr ⟨e.2, List.mem_range.mpr q.2, rfl⟩⟩
  rw [List.length_flatMap] at z
  have e : ((List.range n).map fun a => ((List.range n).map fun b => (a, b)).length).sum = n * n := by
    have q : ((List.range n).map fun a => ((List.range n).map fun b => (a, b)).length) = (List.range n).map fun _ => n := List.map_congr_left fun a _ => by rw [List.length_map, List.length_range]
    rw [q]
    have g := sum_const (c := n) (f := fun _ => n) (List.range n) fun _ _ => rfl
    rw [g, List.length_range]
  rw [e] at z
  exact z
theorem ok_law_ways : FnOk P w K mg base CX0 1 T.law_ways.f T.law_ways.fd ["_law_many", "_law_pairs_here"] (spLawWays K) := by
  refine T.law_ways.F.ok sc_law_ways (fun vs H Q E h => ?_) (fun cdv A outer s H vs Q E hr h => ?_)
  · obtain ⟨n, B, v, rfl, _⟩ := h
    rfl
  · obtain ⟨n, B, v, rfl, hd, hB, hn, hl, q⟩ := h
    obtain ⟨a, xs, rfl, hs, ha⟩ := dx_tup hd
    have hxl : xs.length = B.length := by rw [dpAll_len ha, List.length_map]
    refine ⟨_, (pss_cons (ps_set (i := 2) sc_law_ways.nd rfl (.inl rfl) (pe_callTy call_list_of (by rfl) T.m_list boot_list (pa_cons (pv 1) pa_nil)))
    (pss_cons (ps_for PassesOwn.never rfl (pi_range1 (by rfl) T.m_range (pa_cons (pv 0) pa_nil)) (pg_name (i := 3) sc_law_ways.nd rfl (.inl rfl)) (pss_one (ps_for PassesOwn.never rfl (pi_list (pe_callTy call_list_of (by rfl) T.m_list boot_list (pa_cons (pv 2) pa_nil))) (pg_tup rfl (pgs_cons (pg_name (i := 4) sc_law_ways.nd rfl (.inl rfl)) (pgs_cons (pg_name (i := 5) sc_law_ways.nd rfl (.inl rfl)) pgs_nil))) (pss_one (ps_for PassesOwn.never rfl (pi_tup (pv 1)) (pg_name (i := 6) sc_law_ways.nd rfl (.inl rfl)) (pss_one (ps_if (PW.pt (pw_and (pt_cmpR op_eq (pe_ix ix_tup (pv 6) pe_int (fun _ _ => rfl)) (pv 5) (nomark _)) (pw_and1 (pt_cmpR (op_notInD (hu65 hr)) (pe_tup (pa_cons (pv 4) (pa_cons (pe_ix ix_tup (pv 6) pe_int (fun _ _ => rfl)) pa_nil))) (pv 2) (by rfl))))) (pss_one (ps_expr (pe_bm PySem.F.plainAttrs_list PySem.F.slot_list_append PySem.F.type_list_append mt_append (pv 2) (pa_cons (pe_tup (pa_cons (pv 4) (pa_cons (pe_ix ix_tup (pv 6) pe_int (fun _ _ => rfl)) pa_nil))) pa_nil)))) pss_nil)))))))
    (pss_one (ps_ret (pe_callTy call_tuple_of (by rfl) T.m_tuple boot_tuple (pa_cons (pe_callB cr_sortPairs (by rfl) T.m_sorted boot_sorted (pa_cons (pe_lc (own := [("_law_pair", 6)]) rfl sc_law_ways.nd (pi_list (pv 2)) (blkOk_by (own := [("_law_pair", 6)]) (N := ["_law_many", "_law_pairs_here", "_law_found", "_law_step", "_law_one", "_law_other", "_law_pair"]) (sc := defScope (topS 41)) (by decide +kernel)) (fun _ _ _ _ _ => (pg_name (i := 6) sc_law_ways.nd rfl (.inl rfl))) (fun _ _ _ _ _ => pts_one (pt_cmpR op_ne (pe_ix (r := rIxT K) ix_tup (pv 6) pe_int (fun _ _ => rfl)) (pe_ix (r := rIxT K) ix_tup (pv 6) pe_int (fun _ _ => rfl)) (nomark _))) (fun _ _ _ _ _ => (pv 6))) pa_nil)) pa_nil)))))), ?_⟩
    refine ⟨_, rfl, a, xs, rfl, .inr hs, fun L hL => ?_⟩
    have hBnd : B.Nodup := hB.asc.imp fun {x y} hh e => by
      subst e
      omega
    have hE := hB.lt
    refine ⟨_, rfl, (n : Int), rfl, by omega, by omega, ?_⟩
    refine for_range (lo := 0) (n := (n : Int).toNat) (fun i σ H2 => (∃ y3 y4 y5 y6, σ = [some (iV n), some (.ref a), some (.ref L), y3, y4, y5, y6]) ∧ Ex H H2 ∧ ∃ (fl : Edges) (ys : List V), H2 L = some (.lst ys) ∧ DpAll K H2 ys (fl.map pD) ∧ WY n B fl ∧ ∀ x y, WayLe B (i + 1) x y → (x, y) ∈ fl)
      ⟨⟨_, _, _, _, rfl⟩, Ex.new hL, B, xs, upd_same, dpAll_ex (Ex.new hL) _ _ ha, ⟨hBnd, fun e he => .one he⟩, fun x y wl => ?_⟩ (fun i σ H2 hi pp => ?_) (fun σ H2 pp => ?_)
    · cases wl with
      | one e => exact e
      | more w _ => cases w
    · obtain ⟨⟨y3, y4, y5, y6, rfl⟩, e2, fl, ys, hy, hdf, g, cl⟩ := pp
      have hi' : i < n := by omega
      refine ⟨_, rfl, L, ys, rfl, .inl (SqL.of hy), fun C hC => ?_⟩
      have hLC : L ≠ C := Ne.symm (ne_of_fresh hC hy)
      have hC0 : H C = none := Evl.fresh_back e2 hC
      refine ⟨C, rfl, ⟨_, SqL.of upd_same⟩, for_list (xs := ys) (fun j σ H3 => (∃ y3 y4 y5 y6, σ = [some (iV n), some (.ref a), some (.ref L), y3, y4, y5, y6]) ∧ Ex H H3 ∧ H3 C = some (.lst ys) ∧ DpAll K H3 ys (fl.map pD) ∧ ∃ (gl : Edges) (zs : List V), H3 L = some (.lst zs) ∧ DpAll K H3 zs (gl.map pD) ∧ WY n B gl ∧ (∀ e ∈ fl, e ∈ gl) ∧ ∀ e ∈ fl.take j, ∀ y, (e.2, y) ∈ B → (e.1, y) ∈ gl)
        ⟨⟨_, _, _, _, rfl⟩, e2.trans (Ex.new hC), upd_same, dpAll_ex (Ex.new hC) _ _ hdf, fl, ys, ?_, dpAll_ex (Ex.new hC) _ _ hdf, g, fun e he => he, fun e he => by simp at he⟩ (fun j σ H3 _ pp => SqL.of pp.2.2.1) (fun j x σ H3 hx pp => ?_) (fun σ H3 pp => ?_)⟩
      · rw [upd_ne hLC]
        exact hy
      · obtain ⟨⟨y3, y4, y5, y6, rfl⟩, e3, hCC, hdf3, gl, zs, hz, hdg, g3, sub, cl3⟩ := pp
        obtain ⟨⟨one, other⟩, hpo, t, rfl, ht⟩ := dpAll_pairs hdf3 hx
        refine ⟨t, _, rfl, ht, rfl, _, _, rfl, _, _, rfl, rfl, ?_⟩
        have hs3 := Evl.ex_t e3 hs
        refine ⟨_, rfl, a, rfl, ⟨xs, hs3⟩, for_tup (K := K) (a := a) (xs := xs) (fun k σ H4 => (∃ y3 y6, σ = [some (iV n), some (.ref a), some (.ref L), y3, some (iV one), some (iV other), y6]) ∧ Ex H H4 ∧ H4 C = some (.lst ys) ∧ DpAll K H4 ys (fl.map pD) ∧ ∃ (gl' : Edges) (zs : List V), H4 L = some (.lst zs) ∧ DpAll K H4 zs (gl'.map pD) ∧ WY n B gl' ∧ (∀ e ∈ gl, e ∈ gl') ∧ ∀ e ∈ B.take k, e.1 = other → (one, e.2) ∈ gl')
          ⟨⟨_, _, rfl⟩, e3, hCC, hdf3, gl, zs, hz, hdg, g3, fun e he => he, fun e he => by simp at he⟩ (fun k σ H4 _ pp => Evl.ex_t pp.2.1 hs) (fun k x σ H4 hx4 pp => ?_) (fun σ H4 pp => ?_)⟩
        · obtain ⟨⟨y3, y6, rfl⟩, e4, hC4, hdf4, gl', zs', hz4, hdg4, g4, sub4, cl4⟩ := pp
          obtain ⟨⟨x1, y1⟩, hxy, t2, rfl, ht2⟩ := dpAll_pairs ha hx4
          have ht24 := Evl.ex_t e4 ht2
          have at0 : ∀ {a b : V}, atI [a, b] 0 = some a := rfl
          have at1 : ∀ {a b : V}, atI [a, b] 1 = some b := rfl
          have hmB : (x1, y1) ∈ B := List.mem_of_getElem? hxy
          refine ⟨_, rfl, t2, _, 0, _, rfl, rfl, ht24, at0, _, rfl, rfl, _, rfl, bran (fun hc => ?_) (fun hc => ?_)⟩
          · have hx1 : x1 = other := by
              have z := V.int.inj (of_decide_eq_true hc)
              omega
            subst hx1
            refine ⟨_, rfl, _, rfl, t2, _, 1, _, rfl, rfl, ht24, at1, by simp [sizeLine_eq], fun u hu => ?_⟩
            have hz5 : (upd H4 u (.tup [iV one, iV y1])) L = some (.lst zs') := (Ex.new hu) _ _ hz4
            have hdg5 := dpAll_ex (Ex.new (o := .tup [iV one, iV y1]) hu) _ _ hdg4
            have e5 := e4.trans (Ex.new (o := .tup [iV one, iV y1]) hu)
            refine ⟨_, rfl, .tuple [.int (one : Int), .int (y1 : Int)], gl'.map pD, .tup (SqT.of upd_same) (.cons (.int _) (.cons (.int _) .nil)), .lst (SqL.of hz5) hdg5, shaped_two, shaped_pD, ?_⟩
            rw [any_pD]
            refine ⟨_, rfl, bran (fun hin => ?_) (fun hin => ?_)⟩
            · have hno : (one, y1) ∉ gl' := fun z => by
                rw [inE_iff.mpr z] at hin
                cases hin
              have ht24' := Evl.ex_t (Ex.new (o := .tup [iV one, iV y1]) hu) ht24
              refine ⟨_, rfl, .inl ⟨rfl, _, SqL.of hz5⟩, _, rfl, _, rfl, t2, _, 1, _, rfl, rfl, ht24', at1, by simp [sizeLine_eq], fun u2 hu2 => ?_⟩
              have hz6 : (upd (upd H4 u (.tup [iV one, iV y1])) u2 (.tup [iV one, iV y1])) L = some (.lst zs') := (Ex.new hu2) _ _ hz5
              have tx : Tx (upd (upd H4 u (.tup [iV one, iV y1])) u2 (.tup [iV one, iV y1])) (upd (upd (upd H4 u (.tup [iV one, iV y1])) u2 (.tup [iV one, iV y1])) L (.lst (zs' ++ [.ref u2]))) := Tx.mut hz6
              have e6 := e5.trans (Ex.new (o := .tup [iV one, iV y1]) hu2)
              have h46 : Ex H4 (upd (upd H4 u (.tup [iV one, iV y1])) u2 (.tup [iV one, iV y1])) := (Ex.new hu).trans (Ex.new hu2)
              have hgl := g4.len hE
              have hnn : n * n ≤ 40 * 40 := Nat.mul_le_mul hn hn
              have hzl : zs'.length = gl'.length := by rw [dpAll_len hdg4, List.length_map]
              have hwo : Way B one x1 := by
                have z := (g.way (one, x1) (List.mem_of_getElem? hpo))
                exact z
              refine ⟨L, zs', _, rfl, rfl, hz6, by rw [sizeLine_eq]; omega, ⟨_, _, rfl⟩, Ex.mut e6 hL, ?_, dpAll_pD_tx ((Tx.of h46).trans tx) hdf4, gl' ++ [(one, y1)], zs' ++ [.ref u2], upd_same, ?_, ⟨?_, ?_⟩, fun e he => List.mem_append_left _ (sub4 e he), ?_⟩
              · rw [upd_ne (Ne.symm hLC)]
                exact h46 _ _ hC4
              · rw [List.map_append]
                have hti : SqT K (upd (upd H4 u (.tup [iV one, iV y1])) u2 (.tup [iV one, iV y1])) u2 [iV one, iV y1] := SqT.of upd_same
                exact dpAll_snoc (dpAll_pD_tx ((Tx.of h46).trans tx) hdg4) (dp_pD_tx (p := (one, y1)) tx (.tup hti (.cons (.int _) (.cons (.int _) .nil))))
              · refine List.nodup_append.mpr ⟨g4.nd, by simp, fun x hx y hy => ?_⟩
                rw [List.mem_singleton.mp hy]
                exact fun e => hno (e ▸ hx)
              · intro e he
                rcases List.mem_append.mp he with z | z
                · exact g4.way e z
                · rw [List.mem_singleton.mp z]
                  exact .more hwo hmB
              · intro e he hee
                rw [take_snoc hxy] at he
                rcases List.mem_append.mp he with z | z
                · exact List.mem_append_left _ (cl4 e z hee)
                · rw [List.mem_singleton.mp z]
                  exact List.mem_append_right _ (by simp)
            · have hyes : (one, y1) ∈ gl' := by
                cases hq : inE gl' (one : Int) (y1 : Int) with
                | true => exact inE_iff.mp hq
                | false => rw [hq] at hin; cases hin
              refine ⟨⟨_, _, rfl⟩, e5, (Ex.new hu) _ _ hC4, dpAll_ex (Ex.new hu) _ _ hdf4, gl', zs', hz5, hdg5, g4, sub4, fun e he hee => ?_⟩
              rw [take_snoc hxy] at he
              rcases List.mem_append.mp he with z | z
              · exact cl4 e z hee
              · rw [List.mem_singleton.mp z]
                exact hyes
          · have hne : ¬ x1 = other := fun z => by
              have q2 : decide (iV x1 = iV other) = true := decide_eq_true (by rw [z])
              rw [q2] at hc
              cases hc
            refine ⟨⟨_, _, rfl⟩, e4, hC4, hdf4, gl', zs', hz4, hdg4, g4, sub4, fun e he hee => ?_⟩
            rw [take_snoc hxy] at he
            rcases List.mem_append.mp he with z | z
            · exact cl4 e z hee
            · rw [List.mem_singleton.mp z] at hee
              exact absurd hee hne
        · obtain ⟨⟨y3, y6, rfl⟩, e4, hC4, hdf4, gl', zs', hz4, hdg4, g4, sub4, cl4⟩ := pp
          rw [hxl, List.take_length] at cl4
          refine ⟨⟨_, _, _, _, rfl⟩, e4, hC4, hdf4, gl', zs', hz4, hdg4, g4, fun e he => sub4 e (sub e he), fun e he y hey => ?_⟩
          rw [take_snoc hpo] at he
          rcases List.mem_append.mp he with z | z
          · exact sub4 _ (cl3 e z y hey)
          · rw [List.mem_singleton.mp z] at hey ⊢
            exact cl4 (other, y) hey rfl
      · obtain ⟨⟨y3, y4, y5, y6, rfl⟩, e3, hCC, hdf3, gl, zs, hz, hdg, g3, sub, cl3⟩ := pp
        have hyl : ys.length = fl.length := by rw [dpAll_len hdf, List.length_map]
        rw [hyl, List.take_length] at cl3
        refine ⟨⟨_, _, _, _, rfl⟩, e3, gl, zs, hz, hdg, g3, fun x y wl => ?_⟩
        cases wl with
        | one e => exact sub _ (cl _ _ (.one e))
        | more w e => exact cl3 _ (cl _ _ w) _ e
    · obtain ⟨⟨y3, y4, y5, y6, rfl⟩, e2, fl, ys, hy, hdf, g, cl⟩ := pp
      have hgl := g.len hE
      have hnn : n * n ≤ 40 * 40 := Nat.mul_le_mul hn hn
      have hyl : ys.length = fl.length := by rw [dpAll_len hdf, List.length_map]
      have hcl : ∀ x y, Way B x y → (x, y) ∈ fl := fun x y wxy => cl x y (((way_le hE wxy).mono (by omega)))
      refine ⟨_, rfl, L, rfl, ⟨_, SqL.of hy⟩, fun D hD => ?_⟩
      refine lc_list (xs := ys) (fun j H3 => Ex H2 H3 ∧ ∃ acc, H3 D = some (.lst acc) ∧ DpAll K H3 acc (((fl.take j).filter fun e => decide (e.1 ≠ e.2)).map pD)) ⟨Ex.new hD, [], upd_same, .nil⟩ (fun j H3 _ pp => Evl.ex_l pp.1 (SqL.of hy)) (fun j x H3 hxj pp => ?_) (fun H3 pp => ?_)
      · obtain ⟨e4, acc, hac, hA⟩ := pp
        obtain ⟨pr, hpr, t, rfl, ht⟩ := dpAll_pairs hdf hxj
        have ht4 := Evl.ex_t e4 ht
        have at0 : ∀ {a b : V}, atI [a, b] 0 = some a := rfl
        have at1 : ∀ {a b : V}, atI [a, b] 1 = some b := rfl
        have hal : acc.length ≤ 1600 := by
          rw [dpAll_len hA, List.length_map]
          refine Nat.le_trans (List.length_filter_le ..) ?_
          rw [List.length_take]
          omega
        have hpd : Dp K H3 (.ref t) (pD pr) := .tup ht4 (.cons (.int _) (.cons (.int _) .nil))
        refine ⟨rfl, _, rfl, t, _, 0, _, rfl, rfl, ht4, at0, _, rfl, t, _, 1, _, rfl, rfl, ht4, at1, rfl, _, rfl, bran (fun hc => ?_) (fun hc => ?_)⟩
        · have hne : pr.1 ≠ pr.2 := fun z => by
            have q2 : decide (iV pr.1 = iV pr.2) = true := decide_eq_true (by rw [z])
            rw [q2] at hc
            cases hc
          refine ⟨_, rfl, acc, hac, by rw [sizeLine_eq]; omega, Ex.mut e4 hD, acc ++ [.ref t], upd_same, ?_⟩
          have tx : Tx H3 (upd H3 D (.lst (acc ++ [.ref t]))) := Tx.mut hac
          rw [take_snoc hpr, filter_snoc, if_pos (by simpa using hne), List.map_append]
          exact dpAll_snoc (dpAll_pD_tx tx hA) (dp_pD_tx tx hpd)
        · have heq : pr.1 = pr.2 := Classical.byContradiction fun z => by
            have q2 : decide (iV pr.1 = iV pr.2) = false := decide_eq_false fun e => z (by have e2 := V.int.inj e; omega)
            rw [q2] at hc
            cases hc
          refine ⟨e4, acc, hac, ?_⟩
          rw [take_snoc hpr, filter_snoc, if_neg (by simpa using heq), List.append_nil]
          exact hA
      · obtain ⟨e4, acc, hac, hA⟩ := pp
        rw [hyl, List.take_length] at hA
        refine ⟨D, acc, _, rfl, SqL.of hac, hA, g.nd.sublist List.filter_sublist, fun us l' G pw pm hdd hG => ?_⟩
        refine ⟨G, us, rfl, .inl ⟨SqL.of upd_same, fun r hr => ?_⟩⟩
        refine q r l' _ (((e2.trans e4).trans (Ex.new hG)).trans (Ex.new hr)) (.tup (SqT.of upd_same) (dpAll_ex ((Ex.new hG).trans (Ex.new hr)) _ _ hdd)) pw fun p => ?_
        rw [pm.mem_iff, List.mem_filter, decide_eq_true_iff]
        constructor
        · exact fun z => ⟨z.2, g.way p z.1⟩
        · exact fun z => ⟨hcl p.1 p.2 z.2, z.1⟩
end
end K3
set_option Elab.async false
set_option linter.all false
set_option maxRecDepth 100000
set_option maxHeartbeats 4000000
/-! _law_orders. -/
namespace K3
open PySem PySem.Spec PyProof.Rows L2
open Evl (Ex)
def oD (p : List Nat) : PyData := .tuple (p.map fun (x : Nat) => PyData.int (x : Int))
theorem dpAll_nats {K : PySem.W.Frag} {H : Hp} : ∀ {p : List Nat} {xs : List V}, DpAll K H xs (p.map fun (x : Nat) => PyData.int (x : Int)) → xs = p.map iV
  | [], _, h => by
    cases h
    rfl
  | a :: p, _, h => by
    cases h with
    | cons h1 h2 =>
      cases h1
      rw [dpAll_nats h2]
      rfl
theorem nats_dpAll {K : PySem.W.Frag} {H : Hp} : ∀ {p : List Nat}, DpAll K H (p.map iV) (p.map fun (x : Nat) => PyData.int (x : Int))
  | [] => .nil
  | a :: p => .cons (.int _) nats_dpAll
theorem dp_oD {K : PySem.W.Frag} {H : Hp} {v : V} {p : List Nat} (h : Dp K H v (oD p)) : ∃ t, v = .ref t ∧ SqT K H t (p.map iV) := by
  cases h with
  | tup hs ha =>
    have e := dpAll_nats ha
    subst e
    exact ⟨_, rfl, hs⟩
theorem oD_dp {K : PySem.W.Frag} {H : Hp} {t : Addr} {p : List Nat} (h : SqT K H t (p.map iV)) : Dp K H (.ref t) (oD p) := .tup h nats_dpAll
theorem dp_oD_tx {K : PySem.W.Frag} {H H' : Hp} {v : V} {p : List Nat} (t : Tx H H') (h : Dp K H v (oD p)) : Dp K H' v (oD p) := by
  obtain ⟨a, rfl, hs⟩ := dp_oD h
  refine oD_dp ?_
  rcases hs with hs | hs
  · exact .inl (t _ _ hs)
  · exact .inr hs
theorem dpAll_oD_tx {K : PySem.W.Frag} {H H' : Hp} (t : Tx H H') : ∀ {ps : List (List Nat)} {xs : List V}, DpAll K H xs (ps.map oD) → DpAll K H' xs (ps.map oD)
  | [], _, h => by
    cases h
    exact .nil
  | p :: ps, _, h => by
    cases h with
    | cons h1 h2 => exact .cons (dp_oD_tx t h1) (dpAll_oD_tx t h2)
theorem dpAll_oD_at {K : PySem.W.Frag} {H : Hp} {ps : List (List Nat)} {xs : List V} (h : DpAll K H xs (ps.map oD)) {i : Nat} {x : V} (hx : xs[i]? = some x) : ∃ p, ps[i]? = some p ∧ ∃ t, x = .ref t ∧ SqT K H t (p.map iV) := by
  have hi := (List.getElem?_eq_some_iff.mp hx).1
  have hl := dpAll_len h
  rw [List.length_map] at hl
  have hiE : i < ps.length := by omega
  have hd : (ps.map oD)[i]? = some (oD ps[i]) := by rw [List.getElem?_map, List.getElem?_eq_getElem hiE]; rfl
  obtain ⟨v, hv, hdv⟩ := dpAll_get h hd
  rw [hx] at hv
  cases hv
  obtain ⟨t, rfl, hs⟩ := dp_oD hdv
  exact ⟨ps[i], List.getElem?_eq_getElem hiE, t, rfl, hs⟩
theorem filter_all {E : Edges} {c d : Nat × Nat → Bool} : ((E.filter c).map d).all id = E.all fun q => !c q || d q := by
  induction E with
  | nil => rfl
  | cons q E ih =>
    cases hc : c q with
    | true =>
      rw [List.filter_cons_of_pos hc, List.map_cons, List.all_cons, List.all_cons, ih, hc]
      rfl
    | false =>
      rw [List.filter_cons_of_neg (by rw [hc]; exact Bool.false_ne_true), ih, List.all_cons, hc]
      rfl
theorem flat_len {n : Nat} {E : Edges} : ∀ (l : List (List Nat)), (l.flatMap fun p => (nexts n E p).map fun t => p ++ [t]).length ≤ l.length * n
  | [] => Nat.zero_le _
  | p :: l => by
    rw [List.flatMap_cons, List.length_append, List.length_map, List.length_cons, Nat.succ_mul]
    have h1 := nexts_len (n := n) (E := E) (p := p)
    have h2 := flat_len (n := n) (E := E) l
    omega
section
variable {P : Program} {w : World} {K : PySem.W.Frag} {mg : Str → Option Value} {base : Heap} (T : Txt K mg)
-- _law_orders: 0 _law_many  1 _law_pairs_here  2 _law_found  3 _law_turn  4 _law_longer  5 _law_order  6 _law_thing  7 _law_one  8 _law_other
theorem sc_law_orders : FnScope ["_law_many", "_law_pairs_here", "_law_found", "_law_turn", "_law_longer", "_law_order", "_law_thing", "_law_one", "_law_other"] ["_law_many", "_law_pairs_here"] (defScope (topS 42)) := ⟨rfl, rfl, rfl, by decide +kernel, rfl, by decide +kernel, by decide +kernel⟩
def spOrders (K : PySem.W.Frag) : Sp := fun vs H Q _ => ∃ (n : Nat) (E : Edges) (v : V), vs = [iV n, v] ∧ Dx K H v (.tuple (E.map pD)) ∧ n ≤ 6 ∧ E.length ≤ 1000 ∧
  ∀ (r : Addr) (xs : List V) (H' : Hp), Ex H H' → H r = none → SqL K H' r xs → DpAll K H' xs ((lev n E n).map oD) → Q (.ref r) H'
theorem ok_law_orders : FnOk P w K mg base CX0 1 T.law_orders.f T.law_orders.fd ["_law_many", "_law_pairs_here"] (spOrders K) := by
  refine T.law_orders.F.ok sc_law_orders (fun vs H Q E h => ?_) (fun cdv A outer s H vs Q E hr h => ?_)
  · obtain ⟨n, B, v, rfl, _⟩ := h
    rfl
  · obtain ⟨n, B, v, rfl, hd, hn, hl, q⟩ := h
    obtain ⟨a, xs, rfl, hs, ha⟩ := dx_tup hd
    have hxl : xs.length = B.length := by rw [dpAll_len ha, List.length_map]
    refine ⟨_, (pss_cons (ps_set (i := 2) sc_law_orders.nd rfl (.inl rfl) (pe_lst (pa_cons (pe_tup pa_nil) pa_nil)))
    (pss_cons (ps_for PassesOwn.never rfl (pi_range1 (by rfl) T.m_range (pa_cons (pv 0) pa_nil)) (pg_name (i := 3) sc_law_orders.nd rfl (.inl rfl)) (pss_cons (ps_set (i := 4) sc_law_orders.nd rfl (.inl rfl) (pe_lst pa_nil))
    (pss_cons (ps_for PassesOwn.never rfl (pi_list (pv 2)) (pg_name (i := 5) sc_law_orders.nd rfl (.inr rfl)) (pss_one (ps_for PassesOwn.never rfl (pi_range1 (by rfl) T.m_range (pa_cons (pv 0) pa_nil)) (pg_name (i := 6) sc_law_orders.nd rfl (.inr rfl)) (pss_one (ps_if (PW.pt (pw_and (pt_cmpR op_notIn_seq (pv 6) (pv 5) (by rfl)) (pw_and1 (pt_val (pe_callB (cr_all rfl) (by rfl) T.m_all boot_all (pa_cons (pe_lc (g := gTup K 2 _) (own := [("_law_one", 7), ("_law_other", 8)]) rfl sc_law_orders.nd (pi_tup (pv 1)) (blkOk_by (own := [("_law_one", 7), ("_law_other", 8)]) (N := ["_law_many", "_law_pairs_here", "_law_found", "_law_turn", "_law_longer", "_law_order", "_law_thing", "_law_one", "_law_other"]) (sc := defScope (topS 42)) (by decide +kernel)) (fun _ _ _ _ _ => (pg_tup rfl (pgs_cons (pg_name (i := 7) sc_law_orders.nd rfl (.inl rfl)) (pgs_cons (pg_name (i := 8) sc_law_orders.nd rfl (.inl rfl)) pgs_nil)))) (fun _ _ _ _ _ => pts_one (pt_cmpR op_eq (pv 8) (pv 6) (nomark _))) (fun _ _ _ _ _ => (pe_cmpR (r := rIn K false) op_in_seq (pv 7) (pv 5) (by rfl)))) pa_nil)))))) (pss_one (ps_expr (pe_bm PySem.F.plainAttrs_list PySem.F.slot_list_append PySem.F.type_list_append mt_append (pv 4) (pa_cons (pe_op op_catA (pv 5) (pe_tup (pa_cons (pv 6) pa_nil))) pa_nil)))) pss_nil)))))
    (pss_one (ps_set (i := 2) sc_law_orders.nd rfl (.inl rfl) (pv 4))))))
    (pss_one (ps_ret (pv 2))))), ?_⟩
    refine ⟨by simp [sizeLine_eq], fun t0 ht0 => ⟨by simp [sizeLine_eq], fun F0 hF0 => ?_⟩⟩
    refine ⟨_, rfl, (n : Int), rfl, by omega, by omega, ?_⟩
    refine for_range (lo := 0) (n := (n : Int).toNat) (fun k σ H2 => ∃ F, (∃ y3 y4 y5 y6 y7 y8, σ = [some (iV n), some (.ref a), some (.ref F), y3, y4, y5, y6, y7, y8]) ∧ H F = none ∧ Ex H H2 ∧ ∃ ys, H2 F = some (.lst ys) ∧ DpAll K H2 ys ((lev n B k).map oD))
      ⟨F0, ⟨_, _, _, _, _, _, rfl⟩, Evl.fresh_back (Ex.new ht0) hF0, (Ex.new ht0).trans (Ex.new hF0), [.ref t0], upd_same, .cons (oD_dp (p := []) (SqT.of ((Ex.new hF0) _ _ upd_same))) .nil⟩ (fun k σ H2 hk pp => ?_) (fun σ H2 pp => ?_)
    · obtain ⟨F, ⟨y3, y4, y5, y6, y7, y8, rfl⟩, hFn, e2, ys, hy, hdy⟩ := pp
      have hk' : k < n := by omega
      have hyl : ys.length = (lev n B k).length := by rw [dpAll_len hdy, List.length_map]
      have hll : (lev n B k).length ≤ 7776 := by
        refine Nat.le_trans (lev_len k) ?_
        refine Nat.le_trans (Nat.pow_le_pow_left hn k) ?_
        exact Nat.le_trans (Nat.pow_le_pow_right (by decide) (show k ≤ 5 by omega)) (by decide)
      refine ⟨by simp, fun G hG => ?_⟩
      have hFG : F ≠ G := Ne.symm (ne_of_fresh hG hy)
      have hG0 : H G = none := Evl.fresh_back e2 hG
      refine ⟨_, rfl, F, rfl, ⟨_, SqL.of ((Ex.new hG) _ _ hy)⟩, for_list (xs := ys) (fun i σ H3 => (∃ y3 y5 y6 y7 y8, σ = [some (iV n), some (.ref a), some (.ref F), y3, some (.ref G), y5, y6, y7, y8]) ∧ Ex H H3 ∧ H3 F = some (.lst ys) ∧ DpAll K H3 ys ((lev n B k).map oD) ∧ ∃ zs, H3 G = some (.lst zs) ∧ DpAll K H3 zs ((((lev n B k).take i).flatMap fun p => (nexts n B p).map fun t => p ++ [t]).map oD))
        ⟨⟨_, _, _, _, _, rfl⟩, e2.trans (Ex.new hG), (Ex.new hG) _ _ hy, dpAll_ex (Ex.new hG) _ _ hdy, [], upd_same, .nil⟩ (fun i σ H3 _ pp => SqL.of pp.2.2.1) (fun i x σ H3 hx pp => ?_) (fun σ H3 pp => ?_)⟩
      · obtain ⟨⟨y3, y5, y6, y7, y8, rfl⟩, e3, hF3, hdy3, zs, hz, hdz⟩ := pp
        obtain ⟨p, hp, t, rfl, ht⟩ := dpAll_oD_at hdy3 hx
        have hpm : p ∈ lev n B k := List.mem_of_getElem? hp
        have hpl := (lev_mem k p hpm).1
        have hil : i < (lev n B k).length := (List.getElem?_eq_some_iff.mp hp).1
        refine ⟨_, rfl, (n : Int), rfl, by omega, by omega, ?_⟩
        refine for_range (lo := 0) (n := (n : Int).toNat) (fun j σ H4 => (∃ y3 y6 y7 y8, σ = [some (iV n), some (.ref a), some (.ref F), y3, some (.ref G), some (.ref t), y6, y7, y8]) ∧ Ex H H4 ∧ Tx H3 H4 ∧ H4 F = some (.lst ys) ∧ ∃ zs', H4 G = some (.lst zs') ∧ DpAll K H4 zs' (((((lev n B k).take i).flatMap fun p => (nexts n B p).map fun t => p ++ [t]) ++ (((List.range j).filter (okT B p)).map fun u => p ++ [u])).map oD))
          ⟨⟨_, _, _, _, rfl⟩, e3, fun _ _ z => z, hF3, zs, hz, by simpa using hdz⟩ (fun j σ H4 hj pp => ?_) (fun σ H4 pp => ?_)
        · obtain ⟨⟨y3, y6, y7, y8, rfl⟩, e4, tx, hF4, zs', hz4, hdz4⟩ := pp
          have hj' : j < n := by omega
          have z0 : V.int (0 + (j : Int)) = iV j := by
            rw [Int.zero_add]
            rfl
          rw [z0]
          have ht4 : SqT K H4 t (p.map iV) := by
            rcases ht with ht | ht
            · exact .inl (tx _ _ ht)
            · exact .inr ht
          have stay : okT B p j = false → ∀ {H5 : Hp}, Ex H4 H5 → DpAll K H5 zs' (((((lev n B k).take i).flatMap fun p => (nexts n B p).map fun t => p ++ [t]) ++ (((List.range (j + 1)).filter (okT B p)).map fun u => p ++ [u])).map oD) := fun h H5 e => by
            rw [List.range_succ, filter_snoc, if_neg (by rw [h]; exact Bool.false_ne_true), List.append_nil]
            exact dpAll_ex e _ _ hdz4
          have ein : (if true = true then !inV (iV j) (p.map iV) else inV (iV j) (p.map iV)) = !p.contains j := by
            rw [if_pos rfl, inV_nat]
          refine ⟨_, rfl, _, rfl, t, _, rfl, .inr ht4, rfl, flat_nat, _, rfl, bran (fun hc => ?_) (fun hc => ?_)⟩
          · rw [ein] at hc
            have hs4 := Evl.ex_t e4 hs
            refine ⟨_, rfl, a, rfl, ⟨xs, hs4⟩, fun D hD => ?_⟩
            refine lc_tup (xs := xs) (fun m H5 => Ex H4 H5 ∧ H5 D = some (.lst ((((B.take m).filter fun q => q.2 == j).map fun q => p.contains q.1).map V.bl))) ⟨Ex.new hD, upd_same⟩ (fun m H5 _ pp => Evl.ex_t (e4.trans pp.1) hs) (fun m x H5 hx5 pp => ?_) (fun H5 pp => ?_)
            · obtain ⟨e5, hacc⟩ := pp
              obtain ⟨pr, hpr, t2, rfl, ht2⟩ := dpAll_pairs ha hx5
              have hmb : m < B.length := (List.getElem?_eq_some_iff.mp hpr).1
              have hsz : ((((B.take m).filter fun q => q.2 == j).map fun q => p.contains q.1).map V.bl).length < sizeLine := by
                rw [List.length_map, List.length_map, sizeLine_eq]
                have z := List.length_filter_le (fun q : Nat × Nat => q.2 == j) (B.take m)
                rw [List.length_take] at z
                omega
              refine ⟨t2, _, rfl, Evl.ex_t (e4.trans e5) ht2, rfl, _, _, rfl, _, _, rfl, rfl, rfl, _, rfl, _, rfl, rfl, _, rfl, bran (fun hb => ?_) (fun hb => ?_)⟩
              · have hq : (pr.2 == j) = true := by
                  have z := V.int.inj (of_decide_eq_true hb)
                  have z2 : pr.2 = j := by omega
                  simpa using z2
                have ein2 : (if false = true then !inV (iV pr.1) (p.map iV) else inV (iV pr.1) (p.map iV)) = p.contains pr.1 := by
                  rw [if_neg Bool.false_ne_true, inV_nat]
                refine ⟨_, rfl, _, rfl, t, _, rfl, .inr (Evl.ex_t e5 ht4), rfl, flat_nat, _, hacc, hsz, Ex.mut e5 hD, ?_⟩
                rw [ein2, upd_same, take_snoc hpr, filter_snoc, if_pos hq, List.map_append, List.map_append]
                rfl
              · have hq : ¬ (pr.2 == j) = true := fun z => by
                  have z2 : pr.2 = j := by simpa using z
                  have q2 : decide (iV pr.2 = iV j) = true := decide_eq_true (by rw [z2])
                  rw [q2] at hb
                  cases hb
                refine ⟨e5, ?_⟩
                rw [take_snoc hpr, filter_snoc, if_neg hq, List.append_nil]
                exact hacc
            · obtain ⟨e5, hacc⟩ := pp
              rw [hxl, List.take_length] at hacc
              refine ⟨D, _, rfl, SqL.of hacc, _, rfl, ?_⟩
              have eok : okT B p j = (((B.filter fun q => q.2 == j).map fun q => p.contains q.1).all id) := by
                unfold okT
                rw [hc, Bool.true_and, filter_all]
              rw [← eok]
              refine bran (fun ho => ?_) (fun ho => ?_)
              · refine ⟨_, rfl, .inl ⟨rfl, _, SqL.of (e5 _ _ hz4)⟩, _, rfl, _, rfl, by simp [sizeLine_eq], fun u hu => ?_⟩
                have ht6 := Evl.ex_t ((e5.trans (Ex.new (o := .tup [iV j]) hu))) ht4
                refine rCatA_go ht6 (SqT.of upd_same) (by rw [List.length_map, sizeLine_eq]; simp; omega) fun r H7 e7 hr7 => ?_
                have e47 : Ex H4 H7 := (e5.trans (Ex.new hu)).trans e7
                have hz7 := e47 _ _ hz4
                have hdz7 := dpAll_ex e47 _ _ hdz4
                have tx7 : Tx H7 (upd H7 G (.lst (zs' ++ [.ref r]))) := Tx.mut hz7
                have hr7' : SqT K H7 r ((p ++ [j]).map iV) := by
                  rw [List.map_append]
                  exact hr7
                have hzl : zs'.length ≤ 7776 * 6 + 6 := by
                  rw [dpAll_len hdz4, List.length_map, List.length_append, List.length_map]
                  have h1 := flat_len (n := n) (E := B) ((lev n B k).take i)
                  rw [List.length_take] at h1
                  have h2 := List.length_filter_le (okT B p) (List.range j)
                  rw [List.length_range] at h2
                  have h3 : min i (lev n B k).length * n ≤ 7776 * 6 := Nat.mul_le_mul (by omega) hn
                  omega
                refine ⟨G, zs', _, rfl, rfl, hz7, by rw [sizeLine_eq]; omega, ⟨_, _, _, _, rfl⟩, Ex.mut (e4.trans e47) hG0, (tx.trans (Tx.of e47)).trans tx7, ?_, zs' ++ [.ref r], upd_same, ?_⟩
                · rw [upd_ne hFG]
                  exact e47 _ _ hF4
                · rw [List.range_succ, filter_snoc, if_pos ho, List.map_append (f := fun u => p ++ [u]), ← List.append_assoc, List.map_append]
                  exact dpAll_snoc (dpAll_oD_tx tx7 hdz7) (dp_oD_tx tx7 (oD_dp hr7'))
              · exact ⟨⟨_, _, _, _, rfl⟩, e4.trans e5, tx.trans (Tx.of e5), e5 _ _ hF4, zs', e5 _ _ hz4, stay ho e5⟩
          · rw [ein] at hc
            refine ⟨⟨_, _, _, _, rfl⟩, e4, tx, hF4, zs', hz4, stay ?_ (Ex.refl _)⟩
            unfold okT
            rw [hc]
            rfl
        · obtain ⟨⟨y3, y6, y7, y8, rfl⟩, e4, tx, hF4, zs', hz4, hdz4⟩ := pp
          refine ⟨⟨_, _, _, _, _, rfl⟩, e4, hF4, dpAll_oD_tx tx hdy3, zs', hz4, ?_⟩
          rw [take_snoc hp, List.flatMap_append]
          have hnn : (n : Int).toNat = n := by omega
          rw [hnn] at hdz4
          simpa [nexts] using hdz4
      · obtain ⟨⟨y3, y5, y6, y7, y8, rfl⟩, e3, hF3, hdy3, zs, hz, hdz⟩ := pp
        rw [hyl, List.take_length] at hdz
        exact ⟨_, rfl, G, ⟨_, _, _, _, _, _, rfl⟩, hG0, e3, zs, hz, hdz⟩
    · obtain ⟨F, ⟨y3, y4, y5, y6, y7, y8, rfl⟩, hFn, e2, ys, hy, hdy⟩ := pp
      have hnn : (n : Int).toNat = n := by omega
      rw [hnn] at hdy
      exact ⟨_, rfl, q F ys H2 e2 hFn (SqL.of hy) hdy⟩
end
end K3
set_option Elab.async false
set_option linter.all false
set_option maxRecDepth 100000
set_option maxHeartbeats 4000000
/-! Errors caught: several clauses with a name each, isinstance of an error with a dict; _law_call, _law_word. -/
namespace K3
open PySem PySem.Spec PyProof.Rows L2
open Evl (Ex)
/-- what the clauses 'except x as n' wish, one after the other -/
def wManyAs (K : PySem.W.Frag) (i : Nat) (Wout : WX) (D : Ends) : List (Value × (Addr → Value → Option Addr → TS)) → WX
  | [] => Wout
  | (c, ts) :: r => fun cls d σ H => ∃ b, PySem.W.exmOne K cls c = some b ∧
      (b = true → ∀ a, H a = none → ts a cls d { nx := fun σ' H' => D.nx (σ'.set i none) H', rt := D.rt, bk := fun σ' H' => D.bk (σ'.set i none) H', ct := fun σ' H' => D.ct (σ'.set i none) H' } (σ.set i (some (.ref a))) H) ∧
      (b = false → wManyAs K i Wout D r cls d σ H)
inductive HdsAs (X : Cx) (n : Str) : List ExceptHandler → List (Value × (Addr → Value → Option Addr → TS)) → Prop
  | nil : HdsAs X n [] []
  | cons {x : Str} {c : Value} {ts : Addr → Value → Option Addr → TS} {b₀ : Stmt} {suite : List Stmt} {np pos' : Pos} {hds : List ExceptHandler} {l : List (Value × (Addr → Value → Option Addr → TS))} (hc : Names X x c)
      (hsu : ∀ (a : Addr) (oe : Obj) (cls : Value) (d : Option Addr) (pn : List (Addr × Obj)), Zc cls d oe → (∃ vs, oe.data = .fields vs) → PSs (X.suite a ((a, oe) :: pn)) (b₀ :: suite) (ts a cls d)) (r : HdsAs X n hds l) :
      HdsAs X n (.ExceptHandler (some (.Name x np)) (some n) (b₀ :: suite) pos' :: hds) ((c, ts) :: l)
section
variable {X : Cx} {n : Str} {i : Nat} {body : List Stmt} {h₀ : ExceptHandler} {hds : List ExceptHandler} {l : List (Value × (Addr → Value → Option Addr → TS))} {pos : Pos} {tb : WX → TS} {Wout : WX}
theorem ps_try_manyAs (hs : X.stack = X.env :: X.outer) (hf : X.env.frame = some X.env.locals) (hN : X.N.Nodup) (hi : X.N[i]? = some n) (hln : X.env.kindOf n = some .local) (tk : Takes X Wout)
    (hb : ∀ (W : WX) (pn : List (Addr × Obj)) (xe : Value → Shared → Prop), Takes (X.tr pn xe) W → PassesOwn (model X.prog X.w) X.A X.env xe → PSs (X.tr pn xe) body (tb W))
    (hh : HdsAs X n (h₀ :: hds) l) : PS X (.Try body (h₀ :: hds) [] [] pos) (fun D σ H => tb (wManyAs X.K i Wout D l) D σ H) := by
  refine ⟨fun pins s σ H D I h => ?_⟩
  have ok := I.ok
  have hfr : X.A.frames = some (X.env :: X.outer) := by rw [ok.frames, hs]
  have hloc : Loc X.env.scope n := .inl hln
  refine wpAny_Try_except ?_
  refine wpAny_mono ((hb (wManyAs X.K i Wout D l) (X.pn ++ pins) (fun e s₁ => wpAny (model X.prog X.w) X.A (noteFrame e X.env) (fun _ s₂ => wpAny (model X.prog X.w) X.A (setFlight e none) (fun _ s₃ =>
    wpAny (model X.prog X.w) X.A (handleBy e X.env (h₀ :: hds)) (SP X pins D) X.xe s₃) X.xe s₂) X.xe s₁) (fun u s' xx => ?_) PassesOwn.looking).run [] s σ H D (I.toTry _) h) (fun f s1 hsp => ?_) (fun e s1 he => he)
  · obtain ⟨a, B, sI, pins', σ', H', cls, d, rfl, J', nb, up, sky, na, os, ag, w⟩ := xx
    have J : Inv X pins σ' H' sI := J'.ofTry ok
    have sky' : Sky B (X.env :: X.outer) a (Zc cls d) X.env.locals s'.heap := by rw [← hs]; exact sky
    show wpAny (model X.prog X.w) X.A (noteFrame (.ref a) X.env) _ _ _
    refine Sky.land Zc.steady hfr hf sky' fun h3 fl3 up3 => ?_
    have J3 : Inv X pins σ' H' { s' with heap := h3 } := J.landed nb fl3.1 (up.trans up3) os ag
    obtain ⟨oe3, vs3, he3, hz3, hd3⟩ := fl3.there
    have notFr : ∀ {h : Heap} {o : Obj} {vs : Array Value}, h.FunFrames B (X.env :: X.outer) → h.get? a = some o → o.data = .fields vs → a ∉ frs (X.env :: X.outer) := fun {h o vs} ff e dd hm => by
      obtain ⟨_, o', e', hnf⟩ := ff.mem hm
      rw [e] at e'; cases e'
      exact hnf _ dd
    have nfr := notFr fl3.2.2.1 he3 hd3
    have nL : a ≠ X.env.locals := fun z => nfr (List.mem_filterMap.mpr ⟨X.env, List.mem_cons_self, by rw [hf, z]⟩)
    have nF : a ∉ X.fs := fun hm => by
      obtain ⟨e, he, q⟩ := List.mem_filterMap.mp hm
      exact nfr (List.mem_filterMap.mpr ⟨e, List.mem_cons_of_mem _ he, q⟩)
    have S3 := J3.suite he3 hd3 na nL nF
    have go : ∀ {hds' : List ExceptHandler} {l' : List (Value × (Addr → Value → Option Addr → TS))}, HdsAs X n hds' l' → wManyAs X.K i Wout D l' cls d σ' H' →
        wpAny (model X.prog X.w) X.A (handleBy (.ref a) X.env hds') (SP X pins D) X.xe { s' with heap := h3 } := by
      intro hds' l' hk
      induction hk with
      | nil =>
        intro w
        refine wpAny_handleBy_nil ?_
        obtain ⟨k1, k2, k3, oe, vs, T, oT, ts', he, hz, hd, h1, hr⟩ := id fl3
        unfold PySem.passOn
        refine wpAny_bind (wpAny_field he hd h1 ?_)
        rw [if_neg (show ¬ ((Value.ref T == Value.none) = true) from by simp)]
        have fin : wpAny (model X.prog X.w) X.A (setFlight (.ref a) X.env.frame) (fun _ s4 => wpAny (model X.prog X.w) X.A (throw (.ref a) : Sem Flow) (SP X pins D) X.xe s4) X.xe { s' with heap := h3 } := by
          rw [hf]
          refine HandSPX.setFlight_upZ fl3 fun h4 hh4 up4 => wpAny_throw (tk _ _ ?_)
          exact ⟨a, B, sI, pins, σ', H', cls, d, rfl, J, nb, (up.trans up3).trans up4, .inr (.inr (by rw [hs]; exact hh4)), na, os, ag, w⟩
        first
          | exact wpAny_bind (wpAny_pure (wpAny_bind fin))
          | exact wpAny_bind fin
      | @cons x c ts b₀ suite np pos' hds2 l2 hc hsu r ih =>
        intro w
        obtain ⟨b, hb1, hyes, hno⟩ := w
        refine wpAny_handleBy_cons (codeAny_handlers_test ?_) (by intro q; cases q)
        have LT : PySem.W.Looks (model X.prog X.w) h3 (typeOf (.ref a)) cls := fun A Q E s k q => wpAny_typeOf_ref (k _ _ he3) (by rw [hz3.1]; exact q)
        have LM := PySem.W.exm_one (M := model X.prog X.w) (J3.kIn) LT hb1
        have test : ∀ {Q : Value → Shared → Prop} {E : Value → Shared → Prop}, Q c { s' with heap := h3 } → wpAny (model X.prog X.w) (X.A.mark (some (.ref a))) (eval (.Name x np) X.env) Q E { s' with heap := h3 } := fun {Q E} q => by
          obtain ⟨hg, hdbg, hm | ⟨hm, hv, hnn⟩⟩ := hc
          · exact ld_glob (X := X.suite a ((a, oe3) :: (X.pn ++ pins))) S3 hg hm q hdbg
          · exact ld_blt (X := X.suite a ((a, oe3) :: (X.pn ++ pins))) S3 hg hm hv q hnn hdbg
        refine test (LM.here ?_)
        cases b with
        | true =>
          refine codeAny_handlers_suite_as ?_
          refine HandSPX.lands_againZ fl3 fun h4 fl4 up4 => ?_
          have J4 : Inv X pins σ' H' { s' with heap := h4 } := J.landed nb fl4.1 ((up.trans up3).trans up4) os ag
          obtain ⟨oe4, vs4, he4, hz4, hd4⟩ := fl4.there
          have S4 := J4.suite he4 hd4 na nL nF
          refine store_ok (X := X.suite a ((a, oe4) :: (X.pn ++ pins))) (v := .ref a) S4 hN hi hloc rfl (fun s5 S5 => ?_) (.inr hln)
          refine wpAny_mono ((hsu a oe4 cls d (X.pn ++ pins) hz4 ⟨_, hd4⟩).run [] s5 _ H' _ S5 (hyes rfl a na)) (fun f s6 hsp => ?_) (fun _ _ z => False.elim z)
          have end_ : ∀ {σ6 : L2.St} {H6 : Hp} {Q : Shared → Prop}, Inv (X.suite a ((a, oe4) :: (X.pn ++ pins))) [] σ6 H6 s6 → (∀ s7, Inv X pins (σ6.set i none) H6 s7 → Q s7) →
              wpAny (model X.prog X.w) X.A (do bindName X.env n .none; unbindBehindTheSuite X.env n pos') (fun _ s7 => Q s7) X.xe s6 := fun {σ6 H6 Q} S6 hq => gone_ok (S6.unsuite ok) hN hi hln hq
          cases f with
          | next =>
            obtain ⟨σ6, H6, S6, q6⟩ := hsp
            exact end_ S6 fun s7 J7 => ⟨_, _, J7, q6⟩
          | brk =>
            obtain ⟨σ6, H6, S6, q6⟩ := hsp
            exact end_ S6 fun s7 J7 => ⟨_, _, J7, q6⟩
          | cont =>
            obtain ⟨σ6, H6, S6, q6⟩ := hsp
            exact end_ S6 fun s7 J7 => ⟨_, _, J7, q6⟩
          | ret u =>
            obtain ⟨v6, σ6, H6, S6, r6, q6⟩ := hsp
            exact end_ S6 fun s7 J7 => ⟨_, _, _, J7, r6, q6⟩
        | false =>
          show wpAny _ X.A (handleBy (.ref a) X.env hds2) _ _ _
          exact ih (hno rfl)
    exact go hh w
  · cases f with
    | next =>
      obtain ⟨σ', H', J', q⟩ := hsp
      exact wpAny_execs_nil ⟨σ', H', J'.ofTry ok, q⟩
    | brk =>
      obtain ⟨σ', H', J', q⟩ := hsp
      exact ⟨σ', H', J'.ofTry ok, q⟩
    | cont =>
      obtain ⟨σ', H', J', q⟩ := hsp
      exact ⟨σ', H', J'.ofTry ok, q⟩
    | ret u =>
      obtain ⟨v, σ', H', J', r, q⟩ := hsp
      exact ⟨v, σ', H', J'.ofTry ok, r, q⟩
/-- isinstance(e, c), e the error that the suite holds, with its own dict or without -/
def rIsX (K : PySem.W.Frag) (cls : Value) (d : Option Addr) (a : Addr) : List V → Hp → VK → Prop := fun xs H Q => ∃ (D : Addr) (c : V) (cv : Value) (b : Bool), xs = [.ref a, c] ∧ cls = .ref D ∧ ExcC K D ∧ (∀ u, RelV c u → u = cv) ∧ PySem.W.kitOne K cls cv = some b ∧
  (d = none ∨ ∃ dd fs, d = some dd ∧ H dd = some (.xd fs)) ∧ Q (.bl b) H
theorem call_isX {a : Addr} {cls : Value} {d : Option Addr} {oe : Obj} {pn : List (Addr × Obj)} (hz : Zc cls d oe) (hf : ∃ vs, oe.data = .fields vs) : CallR (X.suite a ((a, oe) :: pn)) (.builtin "isinstance") (rIsX X.K cls d a) := by
  intro pins s σ H xs us Q I r h
  obtain ⟨D, c, cv, b, rfl, hcls, C, hcv, e, hd, q⟩ := h
  subst hcls
  cases r with
  | cons rx rr =>
    cases rr with
    | cons rt rr =>
      cases rr
      cases rx
      have ec := hcv _ rt
      subst ec
      obtain ⟨hget, _⟩ := I.pin (a, oe) (List.mem_append.mpr (.inl List.mem_cons_self))
      obtain ⟨vs, hv⟩ := hf
      have J : ∃ od, PySem.W.InstAt s.heap a oe D od := by
        rcases hd with rfl | ⟨dd, fs, rfl, hdd⟩
        · obtain ⟨oc, od, oda, osl⟩ := oe
          obtain ⟨h1, h2⟩ := hz
          dsimp only at h1 h2 hv
          subst h1 h2 hv
          exact ⟨none, hget, rfl, rfl, trivial⟩
        · have hx : ObjOk X.prog X.w H s.heap dd (.xd fs) := I.hok dd _ hdd
          obtain ⟨mA, hns, hr⟩ := hx
          obtain ⟨od, ho, hl⟩ := lookIn_ns hns
          exact ⟨some od, hget, hz.1, by unfold PySem.W.notCls; rw [hv] <;> rfl, by rw [hz.2]; exact ho⟩
      obtain ⟨od, J⟩ := J
      have hcl : (PySem.W.clsIn X.K D).isSome = true := by
        obtain ⟨cd, hc, _⟩ := PySem.W.any_some C.hd
        rw [hc]
        rfl
      exact PySem.W.kia_one (PySem.W.kitx_exc hcl C.hg C.hk C.hs C.ha C.hn C.ht C.hm) I.kIn J e (fun z => nomatch z) fun tk => ⟨.bl b, H, I.kept (t' := tk) fun _ _ z => z, rfl, q⟩
end
/-- what more the written part says of the errors -/
structure WTxt {K : PySem.W.Frag} {mg : Str → Option Value} (Y : XTxt K mg) where
  S : Addr
  gS : mg "StrokeError" = some (.ref S)
  cB : ExcC K Y.B.C
  cM : ExcC K Y.M.C
  cN : ExcC K Y.N
  bb : PySem.W.exmOne K (.ref Y.B.C) (.ref Y.B.C) = some true
  mb : PySem.W.exmOne K (.ref Y.M.C) (.ref Y.B.C) = some false
  mm : PySem.W.exmOne K (.ref Y.M.C) (.ref Y.M.C) = some true
  nb : PySem.W.exmOne K (.ref Y.N) (.ref Y.B.C) = some false
  nm : PySem.W.exmOne K (.ref Y.N) (.ref Y.M.C) = some false
  nn : PySem.W.exmOne K (.ref Y.N) (.ref Y.N) = some true
  sB : PySem.W.kitOne K (.ref Y.B.C) (.ref S) = some true
  sM : PySem.W.kitOne K (.ref Y.M.C) (.ref S) = some true
  sN : PySem.W.kitOne K (.ref Y.N) (.ref S) = some true
  vB : PySem.W.kitOne K (.ref Y.B.C) (.type "ValueError") = some true
  vM : PySem.W.kitOne K (.ref Y.M.C) (.type "ValueError") = some true
  vN : PySem.W.kitOne K (.ref Y.N) (.type "ValueError") = some true
def pairsD : PyData → Edges
  | .tuple ds => ds.map pN
  | _ => []
/-- the last number of an order -/
def lastD (n : Int) (dt : PyData) : Int := ((lev n.toNat (pairsD dt) n.toNat).length : Nat) - 1
/-- the word for a call -/
def wordD (wh : Nat) (dm dt dx : PyData) : PyData := match isWithinD 1 40 dm, dm with
  | true, .int n => (match firstWrong n dt with
    | some k => .tuple [.str "book", .int k]
    | none => if wh < 3 then .str "let" else if 14 < n then .tuple [.str "many", .int 14] else if wh = 3 then .str "let" else if isWithinD 0 (lastD n dt) dx then .str "let" else .str "number")
  | _, _ => .str "number"
theorem map_pN : ∀ {E : Edges}, (E.map pD).map pN = E
  | [] => rfl
  | e :: E => by
    rw [List.map_cons, List.map_cons, map_pN]
    rfl
theorem last_eq {n : Nat} {B : Edges} : lastD (n : Int) (.tuple (B.map pD)) = (((lev n B n).length : Nat) - 1 : Int) := by
  unfold lastD
  show ((((lev (n : Int).toNat ((B.map pD).map pN) (n : Int).toNat).length : Nat)) - 1 : Int) = _
  rw [map_pN, Int.toNat_natCast]
theorem bk_pairs {n : Nat} {dm dt : PyData} {B : Edges} (R : RightB dm dt n B) : firstWrong (n : Int) dt = none ∧ isWithinD 1 40 dm = true := by
  refine ⟨by rw [R.t]; exact bk_first R.bk, ?_⟩
  rw [R.m]
  show (decide ((1 : Int) ≤ (n : Int)) && decide ((n : Int) ≤ 40)) = true
  have h1 := R.lo
  have h2 := R.hi
  rw [decide_eq_true (by omega), decide_eq_true (by omega)]
  rfl
section
variable {P : Program} {w : World} {K : PySem.W.Frag} {mg : Str → Option Value} {base : Heap} (T : Txt K mg) (Y : XTxt K mg)
-- _law_call: 0 _law_which  1 _law_many  2 _law_thing  3 _law_more
theorem sc_law_call : FnScope ["_law_which", "_law_many", "_law_thing", "_law_more"] ["_law_which", "_law_many", "_law_thing", "_law_more"] (defScope (topS 44)) := ⟨rfl, rfl, rfl, by decide +kernel, rfl, by decide +kernel, by decide +kernel⟩
def spCall (Y : XTxt K mg) : Sp := fun vs H Q E => ∃ (wh : Nat) (vm : V) (dm : PyData) (vt : V) (dt : PyData) (x : V) (dx : PyData), vs = [iV wh, vm, vt, x] ∧ wh < 5 ∧ Dx K H vm dm ∧ Dx K H vt dt ∧ Dx K H x dx ∧ lenD dt ≤ 1000 ∧ lenD dx ≤ 1000 ∧ bookErr Y dm dt H E ∧ ∀ n B, RightB dm dt n B →
  (3 ≤ wh → 14 < n → manyErr Y H E) ∧ (wh = 4 → n ≤ 14 → isWithinD 0 (((lev n B n).length : Nat) - 1 : Int) dx = false → ∀ H', Ex H H' → E (.ref Y.N) none H') ∧
  ((wh < 3 ∨ n ≤ 14) → (wh = 4 → isWithinD 0 (((lev n B n).length : Nat) - 1 : Int) dx = true) → ∀ H', Ex H H' → Q .non H')
theorem ok_law_call : FnOk P w K mg base (L2.CX P w) 8 T.law_call.f T.law_call.fd ["_law_which", "_law_many", "_law_thing", "_law_more"] (spCall Y) := by
  have G_ring : FnOk P w K mg base (L2.CX P w) 7 T.ring.f T.ring.fd ["many", "book"] (spRing Y) := ok_ring T Y
  have G_is_ring : FnOk P w K mg base (L2.CX P w) 7 T.is_ring.f T.is_ring.fd ["many", "book", "thing"] (spIsRing Y) := ok_is_ring T Y
  have G_passed_on : FnOk P w K mg base (L2.CX P w) 7 T.passed_on.f T.passed_on.fd ["many", "book"] (spPassed Y) := ok_passed_on T Y
  have G_count_orders : FnOk P w K mg base (L2.CX P w) 7 T.count_orders.f T.count_orders.fd ["many", "book"] (spCount Y) := ok_count_orders T Y
  have G_order_at : FnOk P w K mg base (L2.CX P w) 7 T.order_at.f T.order_at.fd ["many", "book", "number"] (spOrderAt Y) := ok_order_at T Y
  refine T.law_call.F.okX sc_law_call (fun vs H Q E h => ?_) (fun cdv A outer s H vs Q E hr h => ?_)
  · obtain ⟨wh, vm, dm, vt, dt, x, dx, rfl, _⟩ := h
    rfl
  · obtain ⟨wh, vm, dm, vt, dt, x, dx, rfl, hw5, hm, ht, hx, hl, hlx, q1, q2⟩ := h
    refine ⟨_, (pss_one (ps_if (pt_cmpR op_eq (pv 0) pe_int (nomark _)) (pss_one (ps_expr (pe_call G_ring (hr.mono (by decide)) (by rfl) T.ring.g T.ring.F.kp T.ring.b .nil (passes_call (takes_of rfl rfl rfl rfl) fun _ _ _ _ h => h) (pa_cons (pv 1) (pa_cons (pv 2) pa_nil))))) (pss_one (ps_if (pt_cmpR op_eq (pv 0) pe_int (nomark _)) (pss_one (ps_expr (pe_call G_is_ring (hr.mono (by decide)) (by rfl) T.is_ring.g T.is_ring.F.kp T.is_ring.b .nil (passes_call (takes_of rfl rfl rfl rfl) fun _ _ _ _ h => h) (pa_cons (pv 1) (pa_cons (pv 2) (pa_cons (pv 3) pa_nil)))))) (pss_one (ps_if (pt_cmpR op_eq (pv 0) pe_int (nomark _)) (pss_one (ps_expr (pe_call G_passed_on (hr.mono (by decide)) (by rfl) T.passed_on.g T.passed_on.F.kp T.passed_on.b .nil (passes_call (takes_of rfl rfl rfl rfl) fun _ _ _ _ h => h) (pa_cons (pv 1) (pa_cons (pv 2) pa_nil))))) (pss_one (ps_if (pt_cmpR op_eq (pv 0) pe_int (nomark _)) (pss_one (ps_expr (pe_call G_count_orders (hr.mono (by decide)) (by rfl) T.count_orders.g T.count_orders.F.kp T.count_orders.b .nil (passes_call (takes_of rfl rfl rfl rfl) fun _ _ _ _ h => h) (pa_cons (pv 1) (pa_cons (pv 2) pa_nil))))) (pss_one (ps_expr (pe_call G_order_at (hr.mono (by decide)) (by rfl) T.order_at.g T.order_at.F.kp T.order_at.b .nil (passes_call (takes_of rfl rfl rfl rfl) fun _ _ _ _ h => h) (pa_cons (pv 1) (pa_cons (pv 2) (pa_cons (pv 3) pa_nil)))))))))))))), ?_⟩
    refine ⟨_, rfl, rfl, _, rfl, bran (fun h0 => ?_) (fun h0 => ?_)⟩
    · have z : wh = 0 := by
        have z := V.int.inj (of_decide_eq_true h0)
        omega
      subst z
      exact ⟨_, rfl, _, rfl, vm, dm, vt, dt, rfl, hm, ht, hl, q1, fun n B R => ⟨fun H' e _ => (q2 n B R).2.2 (.inl (by decide)) (fun z => (by cases z)) H' e, fun r l H' e _ _ => (q2 n B R).2.2 (.inl (by decide)) (fun z => (by cases z)) H' e⟩⟩
    have n0 : wh ≠ 0 := fun z => (of_decide_eq_false h0) (by rw [z]; rfl)
    refine ⟨_, rfl, rfl, _, rfl, bran (fun h1 => ?_) (fun h1 => ?_)⟩
    · have z : wh = 1 := by
        have z := V.int.inj (of_decide_eq_true h1)
        omega
      subst z
      exact ⟨_, rfl, _, rfl, _, rfl, vm, dm, vt, dt, x, dx, rfl, hm, ht, hx, hl, hlx, q1, fun n B R H' e => (q2 n B R).2.2 (.inl (by decide)) (fun z => (by cases z)) H' e⟩
    have n1 : wh ≠ 1 := fun z => (of_decide_eq_false h1) (by rw [z]; rfl)
    refine ⟨_, rfl, rfl, _, rfl, bran (fun h2 => ?_) (fun h2 => ?_)⟩
    · have z : wh = 2 := by
        have z := V.int.inj (of_decide_eq_true h2)
        omega
      subst z
      exact ⟨_, rfl, _, rfl, vm, dm, vt, dt, rfl, hm, ht, hl, q1, fun n B R r W H' e _ _ _ _ => (q2 n B R).2.2 (.inl (by decide)) (fun z => (by cases z)) H' e⟩
    have n2 : wh ≠ 2 := fun z => (of_decide_eq_false h2) (by rw [z]; rfl)
    refine ⟨_, rfl, rfl, _, rfl, bran (fun h3 => ?_) (fun h3 => ?_)⟩
    · have z : wh = 3 := by
        have z := V.int.inj (of_decide_eq_true h3)
        omega
      subst z
      exact ⟨_, rfl, _, rfl, vm, dm, vt, dt, rfl, hm, ht, hl, q1, fun n B R => ⟨fun g => (q2 n B R).1 (by decide) g, fun g H' e => (q2 n B R).2.2 (.inr g) (fun z => (by cases z)) H' e⟩⟩
    have n3 : wh ≠ 3 := fun z => (of_decide_eq_false h3) (by rw [z]; rfl)
    have z : wh = 4 := by omega
    subst z
    exact ⟨_, rfl, _, rfl, _, rfl, vm, dm, vt, dt, x, dx, rfl, hm, ht, hx, hl, q1, fun n B R => ⟨fun g => (q2 n B R).1 (by decide) g, fun g hw => (q2 n B R).2.1 rfl g hw, fun g hw r p k H' e _ _ _ => (q2 n B R).2.2 (.inr g) (fun _ => hw) H' e⟩⟩
-- _law_word: 0 _law_which  1 _law_many  2 _law_thing  3 _law_more  4 _law_word_here  5 e
theorem sc_law_word : FnScope ["_law_which", "_law_many", "_law_thing", "_law_more", "_law_word_here", "e"] ["_law_which", "_law_many", "_law_thing", "_law_more"] (defScope (topS 45)) := ⟨rfl, rfl, rfl, by decide +kernel, rfl, by decide +kernel, by decide +kernel⟩
def spWord (K : PySem.W.Frag) : Sp := fun vs H Q _ => ∃ (wh : Nat) (vm : V) (dm : PyData) (vt : V) (dt : PyData) (x : V) (dx : PyData), vs = [iV wh, vm, vt, x] ∧ wh < 5 ∧ Dx K H vm dm ∧ Dx K H vt dt ∧ Dx K H x dx ∧ lenD dt ≤ 1000 ∧ lenD dx ≤ 1000 ∧ ∀ v H', Ex H H' → Dp K H' v (wordD wh dm dt dx) → Q v H'
theorem ok_law_word (Z : WTxt Y) : FnOk P w K mg base CX0 9 T.law_word.f T.law_word.fd ["_law_which", "_law_many", "_law_thing", "_law_more"] (spWord K) := by
  have G_law_call : FnOk P w K mg base (L2.CX P w) 8 T.law_call.f T.law_call.fd ["_law_which", "_law_many", "_law_thing", "_law_more"] (spCall Y) := ok_law_call T Y
  refine T.law_word.F.ok sc_law_word (fun vs H Q E h => ?_) (fun cdv A outer s H vs Q E hr h => ?_)
  · obtain ⟨wh, vm, dm, vt, dt, x, dx, rfl, _⟩ := h
    rfl
  · obtain ⟨wh, vm, dm, vt, dt, x, dx, rfl, hw5, hm, ht, hx, hl, hlx, q⟩ := h
    refine ⟨_, (pss_cons (ps_set (i := 4) sc_law_word.nd rfl (.inl rfl) pe_str)
      (pss_cons (ps_try_manyAs (i := 5) rfl rfl sc_law_word.nd rfl rfl takes0
        (fun W pn xe tk _ => pss_one (ps_expr (pe_callS G_law_call (hr.mono (by decide)) rfl T.law_call.g T.law_call.F.kp T.law_call.b (fun σ => passAt tk σ) (pa_cons (pv 0) (pa_cons (pv 1) (pa_cons (pv 2) (pa_cons (pv 3) pa_nil)))))))
        (.cons ⟨rfl, by decide, .inl Y.B.g⟩ (fun a oe cls d pn hz hf => pss_one (ps_set (i := 4) sc_law_word.nd rfl (.inl rfl) (pe_ifExp (PW.pt (pw_and (pt_val (pe_callB (call_isX hz hf) (by rfl) T.m_isinstance boot_isinstance (pa_cons (pv 5) (pa_cons (pe_glob (v := .ref Z.S) (by rfl) Z.gS rfl) pa_nil)))) (pw_and1 (pt_val (pe_callB (call_isX hz hf) (by rfl) T.m_isinstance boot_isinstance (pa_cons (pv 5) (pa_cons (pe_bltn (v := .ty "ValueError") (by rfl) T.m_ValueError (by decide +kernel) rfl) pa_nil))))))) (pe_tup (pa_cons pe_str (pa_cons (pe_xf Y.B.xf Y.B.no hz hf (pv 5)) pa_nil))) pe_str)))
        (.cons ⟨rfl, by decide, .inl Y.M.g⟩ (fun a oe cls d pn hz hf => pss_one (ps_set (i := 4) sc_law_word.nd rfl (.inl rfl) (pe_ifExp (PW.pt (pw_and (pt_val (pe_callB (call_isX hz hf) (by rfl) T.m_isinstance boot_isinstance (pa_cons (pv 5) (pa_cons (pe_glob (v := .ref Z.S) (by rfl) Z.gS rfl) pa_nil)))) (pw_and1 (pt_val (pe_callB (call_isX hz hf) (by rfl) T.m_isinstance boot_isinstance (pa_cons (pv 5) (pa_cons (pe_bltn (v := .ty "ValueError") (by rfl) T.m_ValueError (by decide +kernel) rfl) pa_nil))))))) (pe_tup (pa_cons pe_str (pa_cons (pe_xf Y.M.xf Y.M.no hz hf (pv 5)) pa_nil))) pe_str)))
        (.cons ⟨rfl, by decide, .inl Y.g_NoNumber⟩ (fun a oe cls d pn hz hf => pss_one (ps_set (i := 4) sc_law_word.nd rfl (.inl rfl) (pe_ifExp (PW.pt (pw_and (pt_val (pe_callB (call_isX hz hf) (by rfl) T.m_isinstance boot_isinstance (pa_cons (pv 5) (pa_cons (pe_glob (v := .ref Z.S) (by rfl) Z.gS rfl) pa_nil)))) (pw_and1 (pt_val (pe_callB (call_isX hz hf) (by rfl) T.m_isinstance boot_isinstance (pa_cons (pv 5) (pa_cons (pe_bltn (v := .ty "ValueError") (by rfl) T.m_ValueError (by decide +kernel) rfl) pa_nil))))))) pe_str pe_str))) .nil))))
      (pss_one (ps_ret (pv 4))))), ?_⟩
    have wN : isWithinD 1 40 dm = false → wordD wh dm dt dx = .str "number" := fun hw => by
      unfold wordD
      rw [hw]
    have wB : ∀ n wr, isWithinD 1 40 dm = true → dm = .int n → firstWrong n dt = some wr → wordD wh dm dt dx = .tuple [.str "book", .int wr] := fun n wr hw e hf => by
      subst e
      unfold wordD
      rw [hw]
      dsimp only
      rw [hf]
    have wR : ∀ n B, RightB dm dt n B → wordD wh dm dt dx = if wh < 3 then .str "let" else if 14 < n then .tuple [.str "many", .int 14] else if wh = 3 then .str "let" else if isWithinD 0 (((lev n B n).length : Nat) - 1 : Int) dx then .str "let" else .str "number" := fun n B R => by
      obtain ⟨h1, h2⟩ := bk_pairs R
      have e := R.m
      have e2 := R.t
      subst e e2
      unfold wordD
      rw [h2]
      dsimp only
      rw [h1]
      dsimp only
      rw [last_eq]
      by_cases h3 : wh < 3
      · rw [if_pos h3, if_pos h3]
      · rw [if_neg h3, if_neg h3]
        by_cases h4 : 14 < n
        · rw [if_pos h4, if_pos (by omega)]
        · rw [if_neg h4, if_neg (by omega)]
    refine ⟨_, rfl, _, rfl, _, rfl, _, rfl, wh, vm, dm, vt, dt, x, dx, rfl, hw5, hm, ht, hx, hl, hlx, ⟨fun hw => ?_, fun hw n wr e hf H' d ex hd => ?_⟩, fun n B R => ⟨fun h3 h14 H' d ex hd => ?_, fun h4 h14 hwi H' ex => ?_, fun hor himp H' ex => ?_⟩⟩
    · refine ⟨false, Z.nb, (fun z => nomatch z), fun _ => ⟨false, Z.nm, (fun z => nomatch z), fun _ => ⟨true, Z.nn, fun _ a ha => ?_, fun z => nomatch z⟩⟩⟩
      refine ⟨_, rfl, Y.N, _, _, true, rfl, rfl, Z.cN, (fun u r => r), Z.sN, .inl rfl, _, rfl, bran (fun _ => ?_) (fun z => nomatch z)⟩
      refine ⟨_, rfl, Y.N, _, _, true, rfl, rfl, Z.cN, (fun u r => r), Z.vN, .inl rfl, _, rfl, bran (fun _ => ?_) (fun z => nomatch z)⟩
      refine ⟨_, rfl, q _ H (Ex.refl H) ?_⟩
      rw [wN hw]
      exact .str _
    · refine ⟨true, Z.bb, fun _ a ha => ?_, fun z => nomatch z⟩
      refine ⟨_, rfl, Y.B.C, _, _, true, rfl, rfl, Z.cB, (fun u r => r), Z.sB, .inr ⟨d, _, rfl, hd⟩, _, rfl, bran (fun _ => ?_) (fun z => nomatch z)⟩
      refine ⟨_, rfl, Y.B.C, _, _, true, rfl, rfl, Z.cB, (fun u r => r), Z.vB, .inr ⟨d, _, rfl, hd⟩, _, rfl, bran (fun _ => ?_) (fun z => nomatch z)⟩
      refine ⟨_, rfl, rfl, rfl, d, _, _, rfl, hd, rfl, by simp [sizeLine_eq], fun r hr => ?_⟩
      refine ⟨_, rfl, q _ _ (ex.trans (Ex.new hr)) ?_⟩
      rw [wB n wr hw e hf]
      exact .tup (SqT.of upd_same) (.cons (.str _) (.cons (.int _) .nil))
    · refine ⟨false, Z.mb, (fun z => nomatch z), fun _ => ⟨true, Z.mm, fun _ a ha => ?_, fun z => nomatch z⟩⟩
      refine ⟨_, rfl, Y.M.C, _, _, true, rfl, rfl, Z.cM, (fun u r => r), Z.sM, .inr ⟨d, _, rfl, hd⟩, _, rfl, bran (fun _ => ?_) (fun z => nomatch z)⟩
      refine ⟨_, rfl, Y.M.C, _, _, true, rfl, rfl, Z.cM, (fun u r => r), Z.vM, .inr ⟨d, _, rfl, hd⟩, _, rfl, bran (fun _ => ?_) (fun z => nomatch z)⟩
      refine ⟨_, rfl, rfl, rfl, d, _, _, rfl, hd, rfl, by simp [sizeLine_eq], fun r hr => ?_⟩
      refine ⟨_, rfl, q _ _ (ex.trans (Ex.new hr)) ?_⟩
      rw [wR n B R, if_neg (by omega), if_pos h14]
      exact .tup (SqT.of upd_same) (.cons (.str _) (.cons (.int _) .nil))
    · refine ⟨false, Z.nb, (fun z => nomatch z), fun _ => ⟨false, Z.nm, (fun z => nomatch z), fun _ => ⟨true, Z.nn, fun _ a ha => ?_, fun z => nomatch z⟩⟩⟩
      refine ⟨_, rfl, Y.N, _, _, true, rfl, rfl, Z.cN, (fun u r => r), Z.sN, .inl rfl, _, rfl, bran (fun _ => ?_) (fun z => nomatch z)⟩
      refine ⟨_, rfl, Y.N, _, _, true, rfl, rfl, Z.cN, (fun u r => r), Z.vN, .inl rfl, _, rfl, bran (fun _ => ?_) (fun z => nomatch z)⟩
      refine ⟨_, rfl, q _ H' ex ?_⟩
      rw [wR n B R, if_neg (by omega), if_neg (by omega), if_neg (by omega), hwi, if_neg Bool.false_ne_true]
      exact .str _
    · refine ⟨_, rfl, q _ H' ex ?_⟩
      have ew : wordD wh dm dt dx = .str "let" := by
        rw [wR n B R]
        by_cases h3 : wh < 3
        · rw [if_pos h3]
        · have h14 : n ≤ 14 := by
            rcases hor with z | z
            · exact absurd z h3
            · exact z
          rw [if_neg h3, if_neg (by omega)]
          by_cases h4 : wh = 3
          · rw [if_pos h4]
          · rw [if_neg h4, himp (by omega), if_pos rfl]
      rw [ew]
      exact .str _
end
end K3
set_option Elab.async false
set_option linter.all false
set_option maxRecDepth 100000
set_option maxHeartbeats 4000000
/-! _law_bent. -/
namespace K3
open PySem PySem.Spec PyProof.Rows L2
open Evl (Ex)
theorem dpAll_take {K : PySem.W.Frag} {H : Hp} : ∀ (k : Nat) {ds : List PyData} {xs : List V}, DpAll K H xs ds → DpAll K H (xs.take k) (ds.take k)
  | 0, _, _, _ => by
    rw [List.take_zero, List.take_zero]
    exact .nil
  | k + 1, [], _, h => by
    cases h
    exact .nil
  | k + 1, d :: ds, _, h => by
    cases h with
    | cons h1 h2 => exact .cons h1 (dpAll_take k h2)
theorem dpAll_drop {K : PySem.W.Frag} {H : Hp} : ∀ (k : Nat) {ds : List PyData} {xs : List V}, DpAll K H xs ds → DpAll K H (xs.drop k) (ds.drop k)
  | 0, _, _, h => h
  | k + 1, [], _, h => by
    cases h
    exact .nil
  | k + 1, d :: ds, _, h => by
    cases h with
    | cons h1 h2 => exact dpAll_drop k h2
theorem dpAll_rev {K : PySem.W.Frag} {H : Hp} : ∀ {ds : List PyData} {xs : List V}, DpAll K H xs ds → DpAll K H xs.reverse ds.reverse
  | [], _, h => by
    cases h
    exact .nil
  | d :: ds, _, h => by
    cases h with
    | cons h1 h2 =>
      rw [List.reverse_cons, List.reverse_cons]
      exact dpAll_snoc (dpAll_rev h2) h1
theorem flat_cut {K : PySem.W.Frag} {H : Hp} {p c t : Addr} {xs : List V} {ds : List PyData} (hp : PoolAt H p c) (h : SqT K H t xs) (ha : ∀ H', DpAll K H' xs ds) : Dp K (cut p c H) (.ref t) (.tuple ds) := by
  refine .tup ?_ (ha _)
  rcases h with h | h
  · exact .inl (hp.cutTx _ _ h)
  · exact .inr h
theorem sqT_cut {K : PySem.W.Frag} {H : Hp} {p c t : Addr} {xs : List V} (hp : PoolAt H p c) (h : SqT K H t xs) : SqT K (cut p c H) t xs := by
  rcases h with h | h
  · exact .inl (hp.cutTx _ _ h)
  · exact .inr h
theorem deep_ref {K : PySem.W.Frag} {H : Hp} {v : V} : ∀ {n : Nat}, Dp K H v (deepD n) → ∃ a, v = .ref a
  | 0, h => by
    cases h with
    | lst _ _ => exact ⟨_, rfl⟩
  | n + 1, h => by
    cases h with
    | lst _ _ => exact ⟨_, rfl⟩
/-- a deep thing is none of the pool's lists -/
theorem deep_cut {K : PySem.W.Frag} {H : Hp} {p c : Addr} (hp : PoolAt H p c) : ∀ (n : Nat) (v : V), Dp K H v (deepD n) → Dp K (cut p c H) v (deepD n) := by
  obtain ⟨s, m, cells, g1, g2, g3⟩ := hp.at_
  have sq : ∀ (a : Addr) (x : V), (∀ k, x ≠ .int k) → SqL K H a [x] → SqL K (cut p c H) a [x] := fun a x hx h => by
    rcases h with (h | ⟨o, h⟩) | h
    · refine .inl (.inl (cut_at h (fun z => ?_) (fun z => ?_)))
      · rw [z, g1] at h
        cases h
      · rw [z, g2] at h
        have e := Option.some.inj h
        injection e with e
        cases cells with
        | nil => cases e
        | cons k ks =>
          obtain ⟨e1, _⟩ := List.cons.inj e
          exact hx k e1.symm
    · refine .inl (.inr ⟨o, cut_at h (fun z => ?_) (fun z => ?_)⟩)
      · rw [z, g1] at h
        cases h
      · rw [z, g2] at h
        cases h
    · exact .inr h
  intro n
  induction n with
  | zero =>
    intro v h
    cases h with
    | lst hs ha =>
      cases ha with
      | cons h1 h2 =>
        cases h1
        cases h2
        exact .lst (sq _ _ (fun k z => by cases z) hs) (.cons .non .nil)
  | succ n ih =>
    intro v h
    cases h with
    | lst hs ha =>
      cases ha with
      | cons h1 h2 =>
        cases h2
        obtain ⟨a, ea⟩ := deep_ref h1
        exact .lst (sq _ _ (fun k z => by rw [ea] at z; cases z) hs) (.cons (ih _ h1) .nil)
section
variable {P : Program} {w : World} {K : PySem.W.Frag} {mg : Str → Option Value} {base : Heap} (T : Txt K mg)
-- _law_bent: 0 _law_pool_here  1 _law_many  2 _law_book  3 _law_at  4 _law_odd  5 _law_some
theorem sc_law_bent : FnScope ["_law_pool_here", "_law_many", "_law_book", "_law_at", "_law_odd", "_law_some"] ["_law_pool_here", "_law_many", "_law_book"] (defScope (topS 46)) := ⟨rfl, rfl, rfl, by decide +kernel, rfl, by decide +kernel, by decide +kernel⟩
def spBent (K : PySem.W.Frag) : Sp := fun vs H Q _ => ∃ (p c : Addr) (many : Nat) (b : Addr) (E : Edges), vs = [.ref p, iV many, .ref b] ∧ PoolAt H p c ∧ 1 ≤ many ∧ E.length ≤ 100 ∧ Dp K (cut p c H) (.ref b) (.tuple (E.map pD)) ∧
  ∀ (v : V) (d : PyData) (H' : Hp), PoolAt H' p c → Ex (cut p c H) (cut p c H') → Dx K (cut p c H') v d → lenD d ≤ 1000 → Q v H'
theorem ok_law_bent : FnOk P w K mg base CX0 2 T.law_bent.f T.law_bent.fd ["_law_pool_here", "_law_many", "_law_book"] (spBent K) := by
  have G_law_draw : FnOk P w K mg base CX0 1 T.law_draw.f T.law_draw.fd ["_law_pool_here", "_law_many"] spDraw := ok_law_draw T
  have G_law_deep : FnOk P w K mg base CX0 1 T.law_deep.f T.law_deep.fd [] (spDeep K) := ok_law_deep T
  refine T.law_bent.F.ok sc_law_bent (fun vs H Q E h => ?_) (fun cdv A outer s H vs Q E hr h => ?_)
  · obtain ⟨p, c, many, b, B, rfl, _⟩ := h
    rfl
  · obtain ⟨p, c, many, b, B, rfl, hp, m1, hl, hb, q⟩ := h
    obtain ⟨a, ys, ea, hs, ha⟩ := dx_tup (Or.inl hb)
    cases ea
    have hyl : ys.length = B.length := by rw [dpAll_len ha, List.length_map]
    refine ⟨_, (pss_cons (ps_set (i := 3) sc_law_bent.nd rfl (.inl rfl) (pe_call G_law_draw (hr.mono (by decide)) (by rfl) T.law_draw.g T.law_draw.F.kp T.law_draw.b .nil pass0 (pa_cons (pv 0) (pa_cons (pe_op op_add (pe_callB call_len_seq (by rfl) T.m_len PySem.boot_len (pa_cons (pv 2) pa_nil)) pe_int) pa_nil))))
    (pss_cons (ps_set (i := 4) sc_law_bent.nd rfl (.inl rfl) (pe_lst (pa_cons (pe_tup (pa_cons pe_int (pa_cons pe_int pa_nil))) (pa_cons (pe_tup (pa_cons pe_int (pa_cons (pv 1) pa_nil))) (pa_cons (pe_tup (pa_cons (pe_un un_neg pe_int) (pa_cons pe_int pa_nil))) (pa_cons (pe_tup (pa_cons pe_bl (pa_cons pe_int pa_nil))) (pa_cons (pe_tup (pa_cons pe_int (pa_cons pe_non pa_nil))) (pa_cons (pe_tup (pa_cons pe_int pa_nil)) (pa_cons (pe_lst (pa_cons pe_int (pa_cons pe_int pa_nil))) (pa_cons (pe_tup (pa_cons pe_int (pa_cons pe_int (pa_cons pe_int pa_nil)))) (pa_cons pe_non (pa_cons pe_str (pa_cons (pe_call0 G_law_deep (hr.mono (by decide)) (by rfl) T.law_deep.g T.law_deep.F.kp T.law_deep.b .nil pass0) pa_nil)))))))))))))
    (pss_cons (ps_expr (pe_bm PySem.F.plainAttrs_list PySem.F.slot_list_append PySem.F.type_list_append mt_append (pv 4) (pa_cons (pe_tup (pa_cons (pe_op op_sub (pv 1) pe_int) (pa_cons pe_int pa_nil))) pa_nil)))
    (pss_cons (ps_set (i := 5) sc_law_bent.nd rfl (.inl rfl) (pe_op op_cat (pe_op op_rep (pe_lst (pa_cons (pe_op op_catA (pe_op op_catA (pe_slice sl_tupA (pv 2) po_none (po_some (pv 3))) (pe_tup (pa_cons (pe_ix ix_list (pv 4) (pe_call G_law_draw (hr.mono (by decide)) (by rfl) T.law_draw.g T.law_draw.F.kp T.law_draw.b .nil pass0 (pa_cons (pv 0) (pa_cons pe_int pa_nil))) (fun _ _ => rfl)) pa_nil))) (pe_slice sl_tupA (pv 2) (po_some (pv 3)) po_none)) pa_nil)) pe_int) (pe_lst (pa_cons (pe_revT (pv 2)) (pa_cons (pe_op op_catA (pv 2) (pe_slice sl_tupA (pv 2) po_none (po_some pe_int))) (pa_cons (pe_callTy call_list_of (by rfl) T.m_list boot_list (pa_cons (pv 2) pa_nil)) (pa_cons pe_non (pa_cons pe_dnewK pa_nil))))))))
    (pss_one (ps_ret (pe_ix ix_list (pv 5) (pe_call G_law_draw (hr.mono (by decide)) (by rfl) T.law_draw.g T.law_draw.F.kp T.law_draw.b .nil pass0 (pa_cons (pv 0) (pa_cons pe_int pa_nil))) (fun _ _ => rfl)))))))), ?_⟩
    refine ⟨_, rfl, _, rfl, b, ys, rfl, .inr (Evl.ex_t cut_le hs), _, _, rfl, rfl, p, c, ys.length + 1, rfl, hp, by omega, by omega, fun at_ H1 hat hp1 e1 => ?_⟩
    refine ⟨by simp [sizeLine_eq], fun t1 h1 => ⟨_, rfl, by simp [sizeLine_eq], fun t2 h2 => ⟨_, rfl, by simp [sizeLine_eq], fun t3 h3 => ⟨by simp [sizeLine_eq], fun t4 h4 => ⟨by simp [sizeLine_eq], fun t5 h5 => ⟨by simp [sizeLine_eq], fun t6 h6 => ⟨by simp [sizeLine_eq], fun t7 h7 => ⟨by simp [sizeLine_eq], fun t8 h8 => ?_⟩⟩⟩⟩⟩⟩⟩⟩
    refine ⟨rfl, fun a9 H9 e9 d9 => ⟨by simp [sizeLine_eq], fun O hO => ?_⟩⟩
    refine ⟨_, rfl, .inl ⟨rfl, _, SqL.of upd_same⟩, _, rfl, _, _, rfl, rfl, by simp [sizeLine_eq], fun t10 h10 => ?_⟩
    have f8 := e9
    have f7 := (Ex.new h8).trans f8
    have f6 := (Ex.new h7).trans f7
    have f5 := (Ex.new h6).trans f6
    have f4 := (Ex.new h5).trans f5
    have f3 := (Ex.new h4).trans f4
    have f2 := (Ex.new h3).trans f3
    have f1 := (Ex.new h2).trans f2
    have f0 := (Ex.new h1).trans f1
    have hp9 := hp1.ex f0
    have nO := hp9.p1 hO
    have hO10 : O ≠ t10 := Ne.symm (ne_of_fresh h10 upd_same)
    have n10 := (hp9.ex (Ex.new hO)).p1 h10
    obtain ⟨os, hos⟩ : ∃ os : List V, os = [.ref t1, .ref t2, .ref t3, .ref t4, .ref t5, .ref t6, .ref t7, .ref t8, .non, .str "01", .ref a9] := ⟨_, rfl⟩
    have hOl : (upd (upd H9 O (.lst os)) t10 (.tup [.int ((many : Int) - 1), .int 0])) O = some (.lst os) := by
      rw [upd_ne hO10]
      exact upd_same
    rw [← hos] at h10 ⊢
    refine ⟨O, os, _, rfl, rfl, hOl, by rw [hos, sizeLine_eq]; simp, ?_⟩
    obtain ⟨Hf, hHf⟩ : ∃ Hf, Hf = upd (upd (upd H9 O (.lst os)) t10 (.tup [.int ((many : Int) - 1), .int 0])) O (.lst (os ++ [.ref t10])) := ⟨_, rfl⟩
    have e9f : Ex H9 Hf := by
      rw [hHf]
      exact Ex.mut ((Ex.new hO).trans (Ex.new h10)) hO
    have hpf := hp9.ex e9f
    have hOf : Hf O = some (.lst (os ++ [.ref t10])) := by
      rw [hHf]
      exact upd_same
    have h10f : SqT K Hf t10 [.int ((many : Int) - 1), .int 0] := by
      rw [hHf]
      refine SqT.of ?_
      rw [upd_ne (Ne.symm hO10)]
      exact upd_same
    rw [← hHf]
    have cf := cut_ex (p := p) (c := c) e9f
    have n7 := (hp1.ex ((Ex.new h1).trans ((Ex.new h2).trans ((Ex.new h3).trans ((Ex.new h4).trans ((Ex.new h5).trans (Ex.new h6))))))).p1 h7
    have hall : ∀ (k : Nat) (v : V), (os ++ [V.ref t10])[k]? = some v → ∃ d, Dp K (cut p c Hf) v d := fun k v hv => by
      have hm := List.mem_of_getElem? hv
      rw [hos] at hm
      simp only [List.cons_append, List.nil_append, List.mem_cons, List.not_mem_nil, or_false] at hm
      rcases hm with z | z | z | z | z | z | z | z | z | z | z | z
      · exact z ▸ ⟨_, dp_ex cf _ _ (flat_cut hp9 (Evl.ex_t f1 (SqT.of upd_same)) fun _ => .cons (.int _) (.cons (.int _) .nil))⟩
      · exact z ▸ ⟨_, dp_ex cf _ _ (flat_cut hp9 (Evl.ex_t f2 (SqT.of upd_same)) fun _ => .cons (.int _) (.cons (.int _) .nil))⟩
      · exact z ▸ ⟨_, dp_ex cf _ _ (flat_cut hp9 (Evl.ex_t f3 (SqT.of upd_same)) fun _ => .cons (.int _) (.cons (.int _) .nil))⟩
      · exact z ▸ ⟨_, dp_ex cf _ _ (flat_cut hp9 (Evl.ex_t f4 (SqT.of upd_same)) fun _ => .cons (.bl _) (.cons (.int _) .nil))⟩
      · exact z ▸ ⟨_, dp_ex cf _ _ (flat_cut hp9 (Evl.ex_t f5 (SqT.of upd_same)) fun _ => .cons (.int _) (.cons .non .nil))⟩
      · exact z ▸ ⟨_, dp_ex cf _ _ (flat_cut hp9 (Evl.ex_t f6 (SqT.of upd_same)) fun _ => .cons (.int _) .nil)⟩
      · exact z ▸ ⟨_, dp_ex cf _ _ (.lst (SqL.of (cut_at (f7 _ _ upd_same) n7.1 n7.2)) (.cons (.int 0) (.cons (.int 1) .nil)))⟩
      · exact z ▸ ⟨_, dp_ex cf _ _ (flat_cut hp9 (Evl.ex_t f8 (SqT.of upd_same)) fun _ => .cons (.int _) (.cons (.int _) (.cons (.int _) .nil)))⟩
      · exact z ▸ ⟨_, .non⟩
      · exact z ▸ ⟨_, .str _⟩
      · exact z ▸ ⟨_, dp_ex cf _ _ (deep_cut hp9 35 _ d9)⟩
      · exact z ▸ ⟨_, flat_cut hpf h10f fun _ => .cons (.int _) (.cons (.int _) .nil)⟩
    have hlen12 : (os ++ [V.ref t10]).length = 12 := by
      rw [hos]
      rfl
    have c1f : Ex (cut p c H) (cut p c Hf) := e1.trans (cut_ex (f0.trans e9f))
    have hsf : SqT K Hf b ys := Evl.ex_t (c1f.trans cut_le) hs
    have hay : ys.length ≤ 100 := by omega
    have hatl : at_ ≤ ys.length := by omega
    refine ⟨_, rfl, noPart_go ⟨_, rfl, _, rfl, rSlA_go hsf fun r1 Hr1 er1 sr1 => ?_⟩⟩
    rw [cut_to _ _ hatl] at sr1
    have hpr1 := hpf.ex er1
    refine ⟨_, rfl, _, rfl, p, c, 12, rfl, hpr1, by decide, by decide, fun d1 Hd1 hd1 hpd1 ed1 => ?_⟩
    have hOd : Hd1 O = some (.lst (os ++ [.ref t10])) := ex_cut_get ed1 (er1 _ _ hOf) nO.1 nO.2
    obtain ⟨x, hx⟩ : ∃ x, (os ++ [V.ref t10])[d1]? = some x := ⟨_, List.getElem?_eq_getElem (by omega)⟩
    obtain ⟨xd, hxd⟩ := hall d1 x hx
    refine ⟨O, _, (d1 : Int), x, rfl, rfl, SqL.of hOd, atI_nat hx, by simp [sizeLine_eq], fun t11 h11 => ?_⟩
    have tx1 := hpr1.tx ed1
    have sr1' : SqT K (upd Hd1 t11 (.tup [x])) r1 (ys.take at_) := Evl.ex_t (Ex.new h11) (by
      rcases sr1 with z | z
      · exact .inl (tx1 _ _ z)
      · exact .inr z)
    refine rCatA_go sr1' (SqT.of upd_same) (by rw [List.length_take, sizeLine_eq]; simp; omega) fun r2 Hr2 er2 sr2 => ?_
    have g2 : Ex Hd1 Hr2 := (Ex.new h11).trans er2
    have hpr2 := hpd1.ex g2
    have c2 : Ex (cut p c Hf) (cut p c Hr2) := (cut_ex er1).trans (ed1.trans (cut_ex g2))
    have hs2 : SqT K Hr2 b ys := Evl.ex_t ((c1f.trans c2).trans cut_le) hs
    refine ⟨_, rfl, _, rfl, _, rfl, noPart_go (rSlA_go hs2 fun r3 Hr3 er3 sr3 => ?_)⟩
    rw [cut_from _ _ hatl] at sr3
    refine rCatA_go (Evl.ex_t er3 sr2) sr3 (by rw [List.length_append, List.length_take, List.length_drop, sizeLine_eq]; simp; omega) fun r4 Hr4 er4 sr4 => ?_
    have g4 : Ex Hr2 Hr4 := er3.trans er4
    refine ⟨by simp [sizeLine_eq], fun L1 hL1 => ?_⟩
    refine ⟨L1, 4, [.ref r4], rfl, rfl, upd_same, by decide, by decide, by simp [sizeLine_eq], fun L2 hL2 => ?_⟩
    have g5 : Ex Hr4 (upd (upd Hr4 L1 (.lst [.ref r4])) L2 (.lst (List.replicate (4 : Int).toNat [V.ref r4]).flatten)) := (Ex.new hL1).trans (Ex.new hL2)
    have c5 := c1f.trans (c2.trans (cut_ex (g4.trans g5)))
    have hs5 := Evl.ex_t (c5.trans cut_le) hs
    refine ⟨_, rfl, b, ys, rfl, hs5, fun r6 h6 => ?_⟩
    have g6 := g5.trans (Ex.new (o := .tup ys.reverse) h6)
    have c6 := c1f.trans (c2.trans (cut_ex (g4.trans g6)))
    have hs6 := Evl.ex_t (c6.trans cut_le) hs
    refine ⟨_, rfl, _, rfl, noPart_go ⟨1, rfl, rSlA_go hs6 fun r7 Hr7 er7 sr7 => ?_⟩⟩
    have sr7' : SqT K Hr7 r7 (cutV ys none (some ((1 : Nat) : Int))) := sr7
    have e17 : ∃ zs ds, cutV ys none (some ((1 : Nat) : Int)) = zs ∧ zs.length ≤ 1 ∧ ds.length ≤ 1 ∧ ∀ H', DpAll K H' ys (B.map pD) → DpAll K H' zs ds := by
      refine ⟨ys.take 1, (B.map pD).take 1, ?_, by rw [List.length_take]; omega, by rw [List.length_take]; omega, fun H' h => dpAll_take 1 h⟩
      by_cases h0 : 1 ≤ ys.length
      · exact cut_to _ _ h0
      · have hy0 : ys = [] := List.length_eq_zero_iff.mp (by omega)
        rw [hy0]
        rfl
    obtain ⟨zs, zd, ez, zl, zdl, zdp⟩ := e17
    rw [ez] at sr7'
    have hs7 := Evl.ex_t ((c6.trans (cut_ex er7)).trans cut_le) hs
    refine rCatA_go hs7 sr7' (by rw [sizeLine_eq]; omega) fun r8 Hr8 er8 sr8 => ?_
    have g8 := g6.trans (er7.trans er8)
    have c8 := c1f.trans (c2.trans (cut_ex (g4.trans g8)))
    have hs8 := Evl.ex_t (c8.trans cut_le) hs
    refine ⟨_, rfl, b, ys, rfl, .inr hs8, fun l9 h9 => fun d7 h7' => ⟨by simp [sizeLine_eq], fun L3 hL3 => ?_⟩⟩
    have g9 : Ex Hr8 (upd (upd (upd Hr8 l9 (.lst ys)) d7 (.dK [])) L3 (.lst [.ref r6, .ref r8, .ref l9, .non, .ref d7])) := (Ex.new h9).trans ((Ex.new h7').trans (Ex.new hL3))
    have hL2' : (upd (upd (upd Hr8 l9 (.lst ys)) d7 (.dK [])) L3 (.lst [.ref r6, .ref r8, .ref l9, .non, .ref d7])) L2 = some (.lst (List.replicate (4 : Int).toNat [V.ref r4]).flatten) := g9 _ _ (er8 _ _ (er7 _ _ ((Ex.new h6) _ _ upd_same)))
    refine ⟨L2, L3, _, _, rfl, rfl, hL2', upd_same, by simp [sizeLine_eq], fun S hS => ?_⟩
    have xS := Ex.new (o := .lst ((List.replicate (4 : Int).toNat [V.ref r4]).flatten ++ [.ref r6, .ref r8, .ref l9, .non, .ref d7])) hS
    have g10 := (g8.trans g9).trans xS
    have c10 := c2.trans (cut_ex (g4.trans g10))
    have hpS := hpr2.ex (g4.trans g10)
    have hpL3 := hpr2.ex (g4.trans (g8.trans g9))
    have nS := hpL3.p1 hS
    refine ⟨_, rfl, _, rfl, p, c, 9, rfl, hpS, by decide, by decide, fun d2 Hd2 hd2 hpd2 ed2 => ?_⟩
    have hSd : Hd2 S = some (.lst ((List.replicate (4 : Int).toNat [V.ref r4]).flatten ++ [.ref r6, .ref r8, .ref l9, .non, .ref d7])) := ex_cut_get ed2 upd_same nS.1 nS.2
    obtain ⟨v, hv⟩ : ∃ v, ((List.replicate (4 : Int).toNat [V.ref r4]).flatten ++ [V.ref r6, .ref r8, .ref l9, .non, .ref d7])[d2]? = some v := ⟨_, List.getElem?_eq_getElem (by simpa using hd2)⟩
    refine ⟨S, _, (d2 : Int), v, rfl, rfl, SqL.of hSd, atI_nat hv, ?_⟩
    have cend : Ex (cut p c Hf) (cut p c Hd2) := c10.trans ed2
    have hfin : ∃ d, Dx K (cut p c Hd2) v d ∧ lenD d ≤ 1000 := by
      have hda : DpAll K (cut p c Hd2) ys (B.map pD) := dpAll_ex (c1f.trans cend) _ _ ha
      have hxa : Dp K (cut p c Hd2) x xd := dp_ex cend _ _ hxd
      have keepT : ∀ {H' : Hp} {t : Addr} {l : List V}, PoolAt H' p c → Ex (cut p c H') (cut p c Hd2) → SqT K H' t l → SqT K (cut p c Hd2) t l := fun hp' e' s' => Evl.ex_t e' (sqT_cut hp' s')
      have hm := List.mem_of_getElem? hv
      have hml : v = .ref r4 ∨ v = .ref r6 ∨ v = .ref r8 ∨ v = .ref l9 ∨ v = .non ∨ v = .ref d7 := by
        have e4 : (List.replicate (4 : Int).toNat [V.ref r4]).flatten = [.ref r4, .ref r4, .ref r4, .ref r4] := rfl
        rw [e4] at hm
        simp only [List.cons_append, List.nil_append, List.mem_cons, List.not_mem_nil, or_false] at hm
        rcases hm with z | z | z | z | z | z | z | z | z
        · exact .inl z
        · exact .inl z
        · exact .inl z
        · exact .inl z
        · exact .inr (.inl z)
        · exact .inr (.inr (.inl z))
        · exact .inr (.inr (.inr (.inl z)))
        · exact .inr (.inr (.inr (.inr (.inl z))))
        · exact .inr (.inr (.inr (.inr (.inr z))))
      rcases hml with z | z | z | z | z | z
      · rw [z]
        refine ⟨.tuple (((B.map pD).take at_ ++ [xd]) ++ (B.map pD).drop at_), .inl (.tup (keepT (hpr2.ex g4) ((cut_ex g10).trans ed2) sr4) (dpAll_app (dpAll_app (dpAll_take at_ hda) (.cons hxa .nil)) (dpAll_drop at_ hda))), ?_⟩
        show (((B.map pD).take at_ ++ [xd]) ++ (B.map pD).drop at_).length ≤ 1000
        rw [List.length_append, List.length_append, List.length_take, List.length_drop, List.length_map]
        simp
        omega
      · rw [z]
        have hp6 := hpr2.ex (g4.trans g6)
        have e6 : Ex (upd (upd (upd Hr4 L1 (.lst [.ref r4])) L2 (.lst (List.replicate (4 : Int).toNat [V.ref r4]).flatten)) r6 (.tup ys.reverse)) _ := (er7.trans er8).trans (g9.trans xS)
        refine ⟨.tuple (B.map pD).reverse, .inl (.tup (keepT hp6 ((cut_ex e6).trans ed2) (SqT.of upd_same)) (dpAll_rev hda)), ?_⟩
        show (B.map pD).reverse.length ≤ 1000
        rw [List.length_reverse, List.length_map]
        omega
      · rw [z]
        have hp8 := hpr2.ex (g4.trans g8)
        refine ⟨.tuple (B.map pD ++ zd), .inl (.tup (keepT hp8 ((cut_ex (g9.trans xS)).trans ed2) sr8) (dpAll_app hda (zdp _ hda))), ?_⟩
        show (B.map pD ++ zd).length ≤ 1000
        rw [List.length_append, List.length_map]
        omega
      · rw [z]
        have hp8 := hpr2.ex (g4.trans g8)
        have n9 := hp8.p1 h9
        have e9' : Ex (upd Hr8 l9 (.lst ys)) _ := ((Ex.new h7').trans (Ex.new hL3)).trans xS
        refine ⟨.list (B.map pD), .inl (.lst (SqL.of (((cut_ex e9').trans ed2) _ _ (cut_at upd_same n9.1 n9.2))) hda), Nat.zero_le _⟩
      · rw [z]
        exact ⟨_, .inl .non, Nat.zero_le _⟩
      · rw [z]
        have hp8 := (hpr2.ex (g4.trans g8)).ex (Ex.new (o := .lst ys) h9)
        have n7' := hp8.p1 h7'
        have e9' : Ex (upd (upd Hr8 l9 (.lst ys)) d7 (.dK [])) _ := (Ex.new hL3).trans xS
        exact ⟨.dict [], .inr ⟨d7, rfl, ((cut_ex e9').trans ed2) _ _ (cut_at upd_same n7'.1 n7'.2), rfl⟩, Nat.zero_le _⟩
    obtain ⟨dd, hdd, hld⟩ := hfin
    exact q v dd Hd2 hpd2 (c1f.trans cend) hdd hld
end
end K3
set_option Elab.async false
set_option linter.all false
set_option maxRecDepth 100000
set_option maxHeartbeats 4000000
/-! _law_told_right. -/
namespace K3
open PySem PySem.Spec PyProof.Rows L2
open Evl (Ex)
/-! ### what is shown -/
theorem small_show {n : Nat} (h : n < 1000000) : PyData.showable (.int (n : Int)) = true ∧ PyData.leavesShort 13 (.int (n : Int)) = true := by
  constructor
  · simp only [PyData.showable]
    refine decide_eq_true ?_
    have e : ((n : Nat) : Int).natAbs = n := Int.natAbs_natCast n
    rw [e]
    by_cases h0 : n = 0
    · rw [h0]
      decide
    · exact (Nat.log2_lt h0).mpr (Nat.lt_of_lt_of_le h (by
        have : (1000000 : Nat) ≤ 2 ^ 20 := by decide
        exact Nat.le_trans this (Nat.pow_le_pow_right (by decide) (by decide))))
  · simp only [PyData.leavesShort]
    exact decide_eq_true (PyData.shown_int_le2 (by omega) (by omega))
theorem show_pairs : ∀ {W : Edges}, (∀ e ∈ W, e.1 < 1000000 ∧ e.2 < 1000000) → PyData.showableAll (W.map pD) = true ∧ PyData.leavesShortAll 13 (W.map pD) = true ∧ PyData.hasDictAll (W.map pD) = false ∧ PyData.depthAll (W.map pD) ≤ 2 ∧ PyData.bulkAll (W.map pD) = 3 * W.length
  | [], _ => by simp [PyData.showableAll, PyData.leavesShortAll, PyData.hasDictAll, PyData.depthAll, PyData.bulkAll]
  | e :: W, h => by
    obtain ⟨h1, h2, h3, h4, h5⟩ := show_pairs (W := W) fun x hx => h x (List.mem_cons_of_mem _ hx)
    obtain ⟨a1, a2⟩ := small_show (h e List.mem_cons_self).1
    obtain ⟨b1, b2⟩ := small_show (h e List.mem_cons_self).2
    rw [List.map_cons]
    have e1 : PyData.showable (pD e) = true := by
      simp only [pD, PyData.showable, PyData.showableAll] at a1 b1 ⊢
      rw [a1, b1]
      rfl
    have e2 : PyData.leavesShort 13 (pD e) = true := by
      simp only [pD, PyData.leavesShort, PyData.leavesShortAll] at a2 b2 ⊢
      rw [a2, b2]
      rfl
    refine ⟨?_, ?_, ?_, ?_, ?_⟩
    · simp only [PyData.showableAll]
      rw [e1, h1]
      rfl
    · simp only [PyData.leavesShortAll]
      rw [e2, h2]
      rfl
    · simp only [PyData.hasDictAll, pD, PyData.hasDict] at h3 ⊢
      rw [h3]
      rfl
    · simp only [PyData.depthAll, pD, PyData.depth] at h4 ⊢
      omega
    · simp only [PyData.bulkAll, pD, PyData.bulk] at h5 ⊢
      rw [List.length_cons]
      omega
theorem pairs_is {W : Edges} (h : ∀ e ∈ W, e.1 < 1000000 ∧ e.2 < 1000000) (hl : W.length ≤ 1600) : PyData.showable (.tuple (W.map pD)) = true ∧ PyData.hasDict (.tuple (W.map pD)) = false ∧ PyData.depth (.tuple (W.map pD)) ≤ 60 ∧ (PyData.shown (.tuple (W.map pD))).length ≤ sizeLine := by
  obtain ⟨h1, h2, h3, h4, h5⟩ := show_pairs h
  refine ⟨by simp only [PyData.showable]; exact h1, by simp only [PyData.hasDict]; exact h3, by simp only [PyData.depth]; omega, ?_⟩
  have z := PyData.shown_le_bulk 13 (by decide) (.tuple (W.map pD)) (by simp only [PyData.leavesShort]; exact h2)
  simp only [PyData.bulk] at z
  rw [h5] at z
  rw [sizeLine_eq]
  omega
theorem show_nats : ∀ {p : List Nat}, (∀ e ∈ p, e < 1000000) → PyData.showableAll (p.map fun (x : Nat) => PyData.int (x : Int)) = true ∧ PyData.leavesShortAll 13 (p.map fun (x : Nat) => PyData.int (x : Int)) = true ∧ PyData.hasDictAll (p.map fun (x : Nat) => PyData.int (x : Int)) = false ∧ PyData.depthAll (p.map fun (x : Nat) => PyData.int (x : Int)) ≤ 1 ∧ PyData.bulkAll (p.map fun (x : Nat) => PyData.int (x : Int)) = p.length
  | [], _ => by simp [PyData.showableAll, PyData.leavesShortAll, PyData.hasDictAll, PyData.depthAll, PyData.bulkAll]
  | e :: p, h => by
    obtain ⟨h1, h2, h3, h4, h5⟩ := show_nats (p := p) fun x hx => h x (List.mem_cons_of_mem _ hx)
    obtain ⟨a1, a2⟩ := small_show (h e List.mem_cons_self)
    rw [List.map_cons]
    refine ⟨?_, ?_, ?_, ?_, ?_⟩
    · simp only [PyData.showableAll]
      rw [a1, h1]
      rfl
    · simp only [PyData.leavesShortAll]
      rw [a2, h2]
      rfl
    · simp only [PyData.hasDictAll, PyData.hasDict] at h3 ⊢
      rw [h3]
      rfl
    · simp only [PyData.depthAll, PyData.depth] at h4 ⊢
      omega
    · simp only [PyData.bulkAll, PyData.bulk] at h5 ⊢
      rw [List.length_cons]
      omega
theorem nats_is {p : List Nat} (h : ∀ e ∈ p, e < 1000000) (hl : p.length ≤ 1600) : (PyData.showable (oD p) = true ∧ PyData.hasDict (oD p) = false ∧ PyData.depth (oD p) ≤ 60 ∧ (PyData.shown (oD p)).length ≤ sizeLine) ∧
    PyData.showable (.list (p.map fun (x : Nat) => PyData.int (x : Int))) = true ∧ PyData.hasDict (.list (p.map fun (x : Nat) => PyData.int (x : Int))) = false ∧ PyData.depth (.list (p.map fun (x : Nat) => PyData.int (x : Int))) ≤ 60 ∧ (PyData.shown (.list (p.map fun (x : Nat) => PyData.int (x : Int)))).length ≤ sizeLine := by
  obtain ⟨h1, h2, h3, h4, h5⟩ := show_nats h
  refine ⟨⟨by simp only [oD, PyData.showable]; exact h1, by simp only [oD, PyData.hasDict]; exact h3, by simp only [oD, PyData.depth]; omega, ?_⟩, by simp only [PyData.showable]; exact h1, by simp only [PyData.hasDict]; exact h3, by simp only [PyData.depth]; omega, ?_⟩
  · have z := PyData.shown_le_bulk 13 (by decide) (oD p) (by simp only [oD, PyData.leavesShort]; exact h2)
    simp only [oD, PyData.bulk] at z
    rw [h5] at z
    rw [sizeLine_eq]
    have z2 : (PyData.shown (oD p)).length ≤ (13 + 2) * p.length + 13 := z
    omega
  · have z := PyData.shown_le_bulk 13 (by decide) (.list (p.map fun (x : Nat) => PyData.int (x : Int))) (by simp only [PyData.leavesShort]; exact h2)
    simp only [PyData.bulk] at z
    rw [h5] at z
    rw [sizeLine_eq]
    omega
theorem pD_inj {E B : Edges} (h : E.map pD = B.map pD) : E = B := by
  have z := congrArg (List.map pN) h
  rw [map_pN, map_pN] at z
  exact z
theorem right_inj {n n' : Nat} {E B : Edges} (R : RightB (.int (n : Int)) (.tuple (E.map pD)) n' B) : n = n' ∧ E = B := by
  have z1 := PyData.int.inj R.m
  have z2 := PyData.tuple.inj R.t
  exact ⟨by omega, pD_inj z2⟩
theorem no_err {K : PySem.W.Frag} {mg : Str → Option Value} (Y : XTxt K mg) {n : Nat} {E : Edges} {H : Hp} {X : XK} (R : RightB (.int (n : Int)) (.tuple (E.map pD)) n E) : bookErr Y (.int (n : Int)) (.tuple (E.map pD)) H X := by
  obtain ⟨h1, h2⟩ := bk_pairs R
  refine ⟨fun z => ?_, fun _ k wr e hf => ?_⟩
  · rw [h2] at z
    cases z
  · have e2 := PyData.int.inj e
    rw [← e2, h1] at hf
    cases hf
/-- a thing that is tried -/
def Th (K : PySem.W.Frag) (H : Hp) (v : V) : Prop := ∃ d, Dx K H v d ∧ lenD d ≤ 1000
theorem Th.ex {K : PySem.W.Frag} {H H' : Hp} {v : V} (e : Ex H H') (h : Th K H v) : Th K H' v := by
  obtain ⟨d, h1, h2⟩ := h
  exact ⟨d, h1.ex e, h2⟩
theorem th_nats {K : PySem.W.Frag} {H : Hp} {t : Addr} {p : List Nat} (h : SqT K H t (p.map iV)) (hl : p.length ≤ 1000) : Th K H (.ref t) := ⟨oD p, .inl (oD_dp h), by show (p.map fun (x : Nat) => PyData.int (x : Int)).length ≤ 1000; rw [List.length_map]; exact hl⟩
theorem cut_nats (p : List Nat) (lo hi : Option Int) : ∃ p' : List Nat, cutV (p.map iV) lo hi = p'.map iV ∧ p'.length ≤ p.length := by
  refine ⟨(p.drop (HT.sIx (p.map iV).length 0 lo)).take (HT.sIx (p.map iV).length (p.map iV).length hi - HT.sIx (p.map iV).length 0 lo), ?_, ?_⟩
  · unfold cutV
    rw [List.map_take, List.map_drop]
  · rw [List.length_take, List.length_drop]
    omega
theorem sqT_tx {K : PySem.W.Frag} {H H' : Hp} {t : Addr} {xs : List V} (x : Tx H H') (h : SqT K H t xs) : SqT K H' t xs := by
  rcases h with h | h
  · exact .inl (x _ _ h)
  · exact .inr h
section
variable {P : Program} {w : World} {K : PySem.W.Frag} {mg : Str → Option Value} {base : Heap} (T : Txt K mg)
-- _law_told_right: 0 _law_pool_here  1 _law_many  2 _law_book  3 _law_has  4 _law_told  5 _law_things  6 _law_turn  7 _law_thing
theorem sc_law_told_right : FnScope ["_law_pool_here", "_law_many", "_law_book", "_law_has", "_law_told", "_law_things", "_law_turn", "_law_thing"] ["_law_pool_here", "_law_many", "_law_book"] (defScope (topS 47)) := ⟨rfl, rfl, rfl, by decide +kernel, rfl, by decide +kernel, by decide +kernel⟩
def spTold (K : PySem.W.Frag) : Sp := fun vs H Q _ => ∃ (p c : Addr) (many : Nat) (b : Addr) (E : Edges), vs = [.ref p, iV many, .ref b] ∧ PoolAt H p c ∧ 1 ≤ many ∧ many ≤ 40 ∧ Bk many E ∧ E.length ≤ 100 ∧ Dp K (cut p c H) (.ref b) (.tuple (E.map pD)) ∧
  ∀ (H' : Hp), PoolAt H' p c → Ex (cut p c H) (cut p c H') → Q (.bl true) H'
theorem ok_law_told_right (Y : XTxt K mg) : FnG P w K mg base 8 T.law_told_right.f T.law_told_right.fd ["_law_pool_here", "_law_many", "_law_book"] (spTold K) := by
  have G_law_draw : FnOk P w K mg base CX0 1 T.law_draw.f T.law_draw.fd ["_law_pool_here", "_law_many"] spDraw := ok_law_draw T
  have G_law_has_ring : FnOk P w K mg base CX0 1 T.law_has_ring.f T.law_has_ring.fd ["_law_many", "_law_pairs_here"] (spHasRing K) := ok_law_has_ring T
  have G_ring : FnOk P w K mg base (L2.CX P w) 7 T.ring.f T.ring.fd ["many", "book"] (spRing Y) := ok_ring T Y
  have G_is_ring : FnOk P w K mg base (L2.CX P w) 7 T.is_ring.f T.is_ring.fd ["many", "book", "thing"] (spIsRing Y) := ok_is_ring T Y
  have G_passed_on : FnOk P w K mg base (L2.CX P w) 7 T.passed_on.f T.passed_on.fd ["many", "book"] (spPassed Y) := ok_passed_on T Y
  have G_law_is_ring : FnOk P w K mg base CX0 2 T.law_is_ring.f T.law_is_ring.fd ["_law_many", "_law_pairs_here", "_law_thing"] (spIsRingOf K) := ok_law_is_ring T
  have G_law_flag : FnOk P w K mg base CX0 1 T.law_flag.f T.law_flag.fd ["_law_thing", "_law_due_here"] spFlag := ok_law_flag T
  have G_law_ways : FnOk P w K mg base CX0 1 T.law_ways.f T.law_ways.fd ["_law_many", "_law_pairs_here"] (spLawWays K) := ok_law_ways T
  have G_law_is : FnG P w K mg base 1 T.law_is.f T.law_is.fd ["_law_told", "_law_due_here"] (spIs K) := ok_law_is T
  refine okG T.law_told_right.F sc_law_told_right (fun vs H Q E h => ?_) (fun cdv A outer s H vs Q E hr hgu h => ?_)
  · obtain ⟨p, c, many, b, B, rfl, _⟩ := h
    rfl
  · obtain ⟨p, c, many, b, B, rfl, hp, m1, m2, hbk, hl, hb, q⟩ := h
    have R : RightB (.int (many : Int)) (.tuple (B.map pD)) many B := ⟨rfl, m1, m2, rfl, hbk, by omega⟩
    have hlB : lenD (.tuple (B.map pD)) ≤ 1000 := by
      show (B.map pD).length ≤ 1000
      rw [List.length_map]
      omega
    have hbx : ∀ {H' : Hp}, Ex (cut p c H) (cut p c H') → Dx K H' (.ref b) (.tuple (B.map pD)) := fun e => .inl (dp_ex cut_le _ _ (dp_ex e _ _ hb))
    have hmx : ∀ {H' : Hp}, Dx K H' (iV many) (.int (many : Int)) := fun {H'} => .inl (.int _)
    refine ⟨_, (pss_cons (ps_par (i := 3) (j := 4) rfl sc_law_told_right.nd rfl rfl (by decide) rfl rfl (pa_cons (pe_call G_law_has_ring (hr.mono (by decide)) (by rfl) T.law_has_ring.g T.law_has_ring.F.kp T.law_has_ring.b .nil pass0 (pa_cons (pv 1) (pa_cons (pv 2) pa_nil))) (pa_cons (pe_call G_ring (hr.mono (by decide)) (by rfl) T.ring.g T.ring.F.kp T.ring.b .nil passL (pa_cons (pv 1) (pa_cons (pv 2) pa_nil))) pa_nil)) (by rfl))
    (pss_cons (ps_if (PW.pt (pw_or (pt_cmpR op_ne (pe_cmpR op_notN (pv 4) pe_non (nomark _)) (pv 3) (nomark _)) (pw_or1 (PW.pt (pw_and (pt_val (pv 3)) (pw_and1 (pt_not (pt_val (pe_call G_law_is_ring (hr.mono (by decide)) (by rfl) T.law_is_ring.g T.law_is_ring.F.kp T.law_is_ring.b .nil pass0 (pa_cons (pv 1) (pa_cons (pv 2) (pa_cons (pv 4) pa_nil)))))))))))) (pss_one (ps_ret pe_bl)) pss_nil)
    (pss_cons (ps_set (i := 5) sc_law_told_right.nd rfl (.inl rfl) (pe_lst (pa_cons (pv 4) (pa_cons pe_non (pa_cons (pe_tup pa_nil) (pa_cons (pe_tup (pa_cons pe_int pa_nil)) (pa_cons (pe_tup (pa_cons pe_bl (pa_cons pe_int pa_nil))) (pa_cons (pe_callTy call_tuple_of (by rfl) T.m_tuple boot_tuple (pa_cons (pe_lc (own := [("_law_turn", 6)]) rfl sc_law_told_right.nd (pi_range1 (by rfl) T.m_range (pa_cons (pe_op op_add pe_int (pe_call G_law_draw (hr.mono (by decide)) (by rfl) T.law_draw.g T.law_draw.F.kp T.law_draw.b .nil pass0 (pa_cons (pv 0) (pa_cons pe_int pa_nil)))) pa_nil)) (blkOk_by (own := [("_law_turn", 6)]) (N := ["_law_pool_here", "_law_many", "_law_book", "_law_has", "_law_told", "_law_things", "_law_turn", "_law_thing"]) (sc := defScope (topS 47)) (by decide +kernel)) (fun _ _ _ _ _ => (pg_name (i := 6) sc_law_told_right.nd rfl (.inl rfl))) (fun _ _ _ _ _ => pts_nil) (fun _ _ _ _ _ => (pe_call G_law_draw (hr.mono (by decide)) (by rfl) T.law_draw.g T.law_draw.F.kp T.law_draw.b .nil pass0 (pa_cons (pv 0) (pa_cons (pv 1) pa_nil))))) pa_nil)) pa_nil))))))))
    (pss_cons (ps_if (pt_val (pv 3)) (pss_one (ps_set (i := 5) sc_law_told_right.nd rfl (.inl rfl) (pe_op op_cat (pv 5) (pe_lst (pa_cons (pe_op op_catA (pe_slice sl_tupA (pv 4) (po_some pe_int) po_none) (pe_slice sl_tupA (pv 4) po_none (po_some pe_int))) (pa_cons (pe_revT (pv 4)) (pa_cons (pe_callTy call_list_of (by rfl) T.m_list boot_list (pa_cons (pv 4) pa_nil)) (pa_cons (pe_slice sl_tupA (pv 4) po_none (po_some (pe_un un_neg pe_int))) pa_nil)))))))) pss_nil)
    (pss_cons (ps_if (pt_not (pt_val (pe_callB (cr_all rfl) (by rfl) T.m_all boot_all (pa_cons (pe_lc (own := [("_law_thing", 7)]) rfl sc_law_told_right.nd (pi_list (pv 5)) (blkOk_by (own := [("_law_thing", 7)]) (N := ["_law_pool_here", "_law_many", "_law_book", "_law_has", "_law_told", "_law_things", "_law_turn", "_law_thing"]) (sc := defScope (topS 47)) (by decide +kernel)) (fun _ _ _ _ _ => (pg_name (i := 7) sc_law_told_right.nd rfl (.inl rfl))) (fun _ _ _ _ _ => pts_nil) (fun _ _ _ _ _ => (pe_call G_law_flag (hr.mono (by decide)) (by rfl) T.law_flag.g T.law_flag.F.kp T.law_flag.b .nil pass0 (pa_cons (pe_call G_is_ring (hr.mono (by decide)) (by rfl) T.is_ring.g T.is_ring.F.kp T.is_ring.b .nil passL (pa_cons (pv 1) (pa_cons (pv 2) (pa_cons (pv 7) pa_nil)))) (pa_cons (pe_call G_law_is_ring (hr.mono (by decide)) (by rfl) T.law_is_ring.g T.law_is_ring.F.kp T.law_is_ring.b .nil pass0 (pa_cons (pv 1) (pa_cons (pv 2) (pa_cons (pv 7) pa_nil)))) pa_nil))))) pa_nil)))) (pss_one (ps_ret pe_bl)) pss_nil)
    (pss_one (ps_ret (pe_callG G_law_is (hr.mono (by decide)) hgu (by rfl) T.law_is.g T.law_is.F.kp T.law_is.b (pa_cons (pe_call G_passed_on (hr.mono (by decide)) (by rfl) T.passed_on.g T.passed_on.F.kp T.passed_on.b .nil passL (pa_cons (pv 1) (pa_cons (pv 2) pa_nil))) (pa_cons (pe_call G_law_ways (hr.mono (by decide)) (by rfl) T.law_ways.g T.law_ways.F.kp T.law_ways.b .nil pass0 (pa_cons (pv 1) (pa_cons (pv 2) pa_nil))) pa_nil)))))))))), ?_⟩
    refine ⟨_, rfl, _, rfl, many, B, .ref b, rfl, hbx (Ex.refl _), by omega, by omega, fun H1 e1 => ?_⟩
    have c1 := cut_ex (p := p) (c := c) e1
    obtain ⟨has, ehas⟩ : ∃ has, decide (0 < (peels B many (List.range many)).length) = has := ⟨_, rfl⟩
    rw [ehas]
    refine ⟨_, rfl, _, rfl, iV many, .int (many : Int), .ref b, .tuple (B.map pD), rfl, hmx, hbx c1, hlB, no_err Y R, fun n' B' R' => ?_⟩
    obtain ⟨rfl, rfl⟩ := right_inj R'
    refine ⟨fun H2 e2 hno => ⟨_, _, rfl, ?_⟩, fun r l H2 e2 hrl hring => ⟨_, _, rfl, ?_⟩⟩
    · have hf : has = false := by
        rw [← ehas]
        exact decide_eq_false fun z => hno _ ((kahn hbk.lt).mp z).choose_spec
      subst hf
      refine ⟨_, rfl, rfl, _, rfl, rfl, _, rfl, bran (fun z => nomatch z) (fun _ => ⟨_, rfl, _, rfl, iteF ?_⟩)⟩
      have hp2 := (hp.ex e1).ex e2
      have c2 := c1.trans (cut_ex e2)
      have hvt : ∀ H', Tx H2 H' → Th K H' V.non := fun H' _ => ⟨_, .inl .non, Nat.zero_le _⟩
      refine ⟨_, rfl, by simp [sizeLine_eq], fun t1 h1 => ⟨by simp [sizeLine_eq], fun t2 h2 => ⟨by simp [sizeLine_eq], fun t3 h3 => ?_⟩⟩⟩
      have f3 := (Ex.new (o := .tup []) h1).trans ((Ex.new (o := .tup [.int 0]) h2).trans (Ex.new (o := .tup [.bl true, .int 0]) h3))
      obtain ⟨H3, eH3⟩ : ∃ H3, H3 = upd (upd (upd H2 t1 (.tup [])) t2 (.tup [.int 0])) t3 (.tup [.bl true, .int 0]) := ⟨_, rfl⟩
      have st1 : SqT K H3 t1 (([] : List Nat).map iV) := by
        rw [eH3]
        exact Evl.ex_t ((Ex.new h2).trans (Ex.new h3)) (SqT.of upd_same)
      have st2 : SqT K H3 t2 (([0] : List Nat).map iV) := by
        rw [eH3]
        exact Evl.ex_t (Ex.new h3) (SqT.of upd_same)
      have st3 : SqT K H3 t3 [.bl true, .int 0] := by
        rw [eH3]
        exact SqT.of upd_same
      rw [← eH3] at f3 ⊢
      have hp3 := hp2.ex f3
      have c3 := c2.trans (cut_ex f3)
      refine ⟨_, rfl, p, c, 4, rfl, hp3, by decide, by decide, fun d1 H4 hd1 hp4 e4 => ⟨_, _, rfl, rfl, _, rfl, by omega, by omega, fun D hD => ?_⟩⟩
      have nD := hp4.p1 hD
      refine lc_range (lo := 0) (n := ((1 : Int) + (d1 : Int)).toNat) (fun i H5 => PoolAt H5 p c ∧ Ex (cut p c H3) (cut p c H5) ∧ ∃ ds : List Nat, ds.length = i ∧ H5 D = some (.lst (ds.map iV))) ⟨hp4.upd nD.1 nD.2, ?_, [], rfl, upd_same⟩ (fun i H5 hi pp => ?_) (fun H5 pp => ?_)
      · rw [cut_upd nD.1 nD.2]
        refine e4.trans (Ex.new ?_)
        unfold cut
        rw [if_neg (fun z => by rcases z with z | z; exact nD.1 z; exact nD.2 z)]
        exact hD
      · obtain ⟨hp5, e5, ds, hds, hD5⟩ := pp
        refine ⟨rfl, yes_go ⟨_, rfl, _, rfl, p, c, many, rfl, hp5, m1, by omega, fun d2 H6 hd2 hp6 e6 => ?_⟩⟩
        have hD6 : H6 D = some (.lst (ds.map iV)) := ex_cut_get e6 hD5 nD.1 nD.2
        refine ⟨_, hD6, by rw [List.length_map, sizeLine_eq]; omega, hp6.upd nD.1 nD.2, ?_, ds ++ [d2], by rw [List.length_append, hds]; rfl, ?_⟩
        · rw [cut_upd nD.1 nD.2]
          refine Ex.mut (e5.trans e6) (Evl.fresh_back e4 ?_)
          unfold cut
          rw [if_neg (fun z => by rcases z with z | z; exact nD.1 z; exact nD.2 z)]
          exact hD
        · rw [upd_same, List.map_append]
          rfl
      obtain ⟨hp5, e5, ds, hds, hD5⟩ := pp
      refine ⟨D, _, rfl, .inl ⟨SqL.of hD5, fun t4 h4 => ⟨by simp [sizeLine_eq], fun TH hTH => ?_⟩⟩⟩
      have tx35 := hp3.tx e5
      have f8 := (Ex.new (o := .tup (ds.map iV)) h4).trans (Ex.new (o := .lst [V.non, .non, .ref t1, .ref t2, .ref t3, .ref t4]) hTH)
      obtain ⟨H8, eH8⟩ : ∃ H8, H8 = upd (upd H5 t4 (.tup (ds.map iV))) TH (.lst [V.non, .non, .ref t1, .ref t2, .ref t3, .ref t4]) := ⟨_, rfl⟩
      have hTH8 : H8 TH = some (.lst [V.non, .non, .ref t1, .ref t2, .ref t3, .ref t4]) := by
        rw [eH8]
        exact upd_same
      have st4 : SqT K H8 t4 (ds.map iV) := by
        rw [eH8]
        exact Evl.ex_t (Ex.new hTH) (SqT.of upd_same)
      rw [← eH8] at f8 ⊢
      have hp8 := hp5.ex f8
      have c8 := (c3.trans e5).trans (cut_ex f8)
      have tx38 := tx35.trans (Tx.of f8)
      have tx28 := (Tx.of f3).trans tx38
      have hths : ∀ v ∈ [V.non, V.non, .ref t1, .ref t2, .ref t3, .ref t4], Th K H8 v := fun v hv => by
        simp only [List.mem_cons, List.not_mem_nil, or_false] at hv
        rcases hv with z | z | z | z | z | z
        · rw [z]
          exact hvt H8 tx28
        · rw [z]
          exact ⟨_, .inl .non, Nat.zero_le _⟩
        · rw [z]
          exact th_nats (sqT_tx tx38 st1) (by simp)
        · rw [z]
          exact th_nats (sqT_tx tx38 st2) (by simp)
        · rw [z]
          exact ⟨_, .inl (.tup (sqT_tx tx38 st3) (.cons (.bl _) (.cons (.int _) .nil))), by show 2 ≤ 1000; decide⟩
        · rw [z]
          exact th_nats st4 (by omega)
      refine ⟨_, rfl, _, rfl, iteF ?_⟩
      obtain ⟨H9, eH9⟩ : ∃ H9, H9 = H8 := ⟨_, rfl⟩
      subst eH9
      have hp9 := hp8
      have c9 := c8
      obtain ⟨TL, eTL⟩ : ∃ TL, TL = TH := ⟨_, rfl⟩
      subst eTL
      obtain ⟨ths, eths⟩ : ∃ ths, ths = [V.non, V.non, .ref t1, .ref t2, .ref t3, .ref t4] := ⟨_, rfl⟩
      have hths9 : ∀ v ∈ ths, Th K H9 v := by
        rw [eths]
        exact hths
      have hTL : H9 TL = some (.lst ths) := by
        rw [eths]
        exact hTH8
      have htl : ths.length ≤ 100 := by
        rw [eths]
        simp
      refine ⟨_, rfl, TL, rfl, ⟨_, SqL.of hTL⟩, fun D2 hD2 => ?_⟩
      refine lc_list (xs := ths) (fun i H10 => Ex H9 H10 ∧ H10 D2 = some (.lst ((List.replicate i true).map V.bl))) ⟨Ex.new hD2, upd_same⟩ (fun i H10 _ pp => Evl.ex_l pp.1 (SqL.of hTL)) (fun i x H10 hx pp => ?_) (fun H10 pp => ?_)
      · obtain ⟨e10, hac⟩ := pp
        obtain ⟨dx, hdx, hldx⟩ := hths9 x (List.mem_of_getElem? hx)
        have hil : i < ths.length := (List.getElem?_eq_some_iff.mp hx).1
        have c10 := c9.trans (cut_ex e10)
        refine ⟨rfl, yes_go ⟨_, rfl, _, rfl, _, rfl, iV many, .int (many : Int), .ref b, .tuple (B.map pD), x, dx, rfl, hmx, hbx c10, hdx.ex e10, hlB, hldx, no_err Y R, fun n' B' R' H11 e11 => ?_⟩⟩
        obtain ⟨rfl, rfl⟩ := right_inj R'
        refine ⟨_, rfl, _, rfl, _, rfl, _, _, .ref b, x, dx, rfl, hbx (c10.trans (cut_ex e11)), hdx.ex (e10.trans e11), hldx, fun H12 e12 => ?_⟩
        refine ⟨_, _, rfl, _, e12 _ _ (e11 _ _ hac), ?_, Ex.mut ((e10.trans e11).trans e12) hD2, ?_⟩
        · rw [List.length_map, List.length_replicate, sizeLine_eq]
          omega
        · rw [upd_same, List.replicate_succ', List.map_append]
          congr 2
          congr 1
          show [V.bl (isRingD _ _ dx == isRingD _ _ dx)] = [V.bl true]
          rw [beq_self_eq_true]
      obtain ⟨e10, hac⟩ := pp
      have hall : (List.replicate ths.length true).all id = true := List.all_eq_true.mpr fun z hz => List.eq_of_mem_replicate hz
      refine ⟨D2, _, rfl, SqL.of hac, _, rfl, ?_⟩
      rw [hall]
      refine bran (fun z => nomatch z) (fun _ => ?_)
      have c10 := c9.trans (cut_ex e10)
      refine ⟨_, rfl, _, rfl, iV many, .int (many : Int), .ref b, .tuple (B.map pD), rfl, hmx, hbx c10, hlB, no_err Y R, fun n' B' R' r1 W1 H11 e11 dp1 pw1 mem1 hW1 => ?_⟩
      obtain ⟨rfl, rfl⟩ := right_inj R'
      refine ⟨_, rfl, _, rfl, _, _, .ref b, rfl, hbx (c10.trans (cut_ex e11)), hbk, m2, by omega, fun r2 W2 H12 e12 dp2 pw2 mem2 => ?_⟩
      have eW : W1 = W2 := asc2_ext pw1 pw2 fun x => by rw [mem1 x, mem2 x]
      subst eW
      obtain ⟨k1, k2, k3, k4⟩ := pairs_is (W := W1) (fun e he => by
        have z := (((mem1 e).mp he).2).lt hbk.lt
        omega) hW1
      exact ⟨r1, r2, _, rfl, dp_ex e12 _ _ dp1, dp2, k1, k2, k3, k4, q H12 ((hp9.ex e10).ex (e11.trans e12)) ((c10.trans (cut_ex e11)).trans (cut_ex e12))⟩
    · have hf : has = true := by
        rw [← ehas]
        exact decide_eq_true ((kahn hbk.lt).mpr hring.way)
      subst hf
      have hp2 := (hp.ex e1).ex e2
      have c2 := c1.trans (cut_ex e2)
      have hll : l.length ≤ 40 := Nat.le_trans (nodup_lt hring.nd hring.lt) m2
      have hdl : Dx K H2 (.ref r) (oD l) := .inl (oD_dp hrl)
      have hlen : lenD (oD l) ≤ 1000 := by
        show (l.map fun (x : Nat) => PyData.int (x : Int)).length ≤ 1000
        rw [List.length_map]
        omega
      refine ⟨_, rfl, rfl, _, rfl, rfl, _, rfl, bran (fun z => nomatch z) (fun _ => ⟨_, rfl, _, rfl, iteT ⟨_, rfl, _, rfl, _, rfl, _, _, .ref b, .ref r, oD l, rfl, hbx c2, hdl, hlen, fun H2' e2' => ?_⟩⟩)⟩
      have eri : isRingD _ _ (oD l) = true := isRing_D hring
      rw [eri]
      refine ⟨_, rfl, iteF ?_⟩
      have hp2' := hp2.ex e2'
      have c2' := c2.trans (cut_ex e2')
      have hrl' := Evl.ex_t e2' hrl
      clear hp2 c2 hrl hdl
      obtain ⟨H2o, eH2o⟩ : ∃ H2o, H2o = H2' := ⟨_, rfl⟩
      subst eH2o
      have hp2 := hp2'
      have c2 := c2'
      obtain ⟨vt, evt⟩ : ∃ vt, vt = V.ref r := ⟨_, rfl⟩
      rw [← evt]
      have hvt : ∀ H', Tx H2o H' → Th K H' vt := fun H' x => by
        rw [evt]
        exact th_nats (sqT_tx x hrl') (by omega)
      refine ⟨_, rfl, by simp [sizeLine_eq], fun t1 h1 => ⟨by simp [sizeLine_eq], fun t2 h2 => ⟨by simp [sizeLine_eq], fun t3 h3 => ?_⟩⟩⟩
      have f3 := (Ex.new (o := .tup []) h1).trans ((Ex.new (o := .tup [.int 0]) h2).trans (Ex.new (o := .tup [.bl true, .int 0]) h3))
      obtain ⟨H3, eH3⟩ : ∃ H3, H3 = upd (upd (upd H2o t1 (.tup [])) t2 (.tup [.int 0])) t3 (.tup [.bl true, .int 0]) := ⟨_, rfl⟩
      have st1 : SqT K H3 t1 (([] : List Nat).map iV) := by
        rw [eH3]
        exact Evl.ex_t ((Ex.new h2).trans (Ex.new h3)) (SqT.of upd_same)
      have st2 : SqT K H3 t2 (([0] : List Nat).map iV) := by
        rw [eH3]
        exact Evl.ex_t (Ex.new h3) (SqT.of upd_same)
      have st3 : SqT K H3 t3 [.bl true, .int 0] := by
        rw [eH3]
        exact SqT.of upd_same
      rw [← eH3] at f3 ⊢
      have hp3 := hp2.ex f3
      have c3 := c2.trans (cut_ex f3)
      refine ⟨_, rfl, p, c, 4, rfl, hp3, by decide, by decide, fun d1 H4 hd1 hp4 e4 => ⟨_, _, rfl, rfl, _, rfl, by omega, by omega, fun D hD => ?_⟩⟩
      have nD := hp4.p1 hD
      refine lc_range (lo := 0) (n := ((1 : Int) + (d1 : Int)).toNat) (fun i H5 => PoolAt H5 p c ∧ Ex (cut p c H3) (cut p c H5) ∧ ∃ ds : List Nat, ds.length = i ∧ H5 D = some (.lst (ds.map iV))) ⟨hp4.upd nD.1 nD.2, ?_, [], rfl, upd_same⟩ (fun i H5 hi pp => ?_) (fun H5 pp => ?_)
      · rw [cut_upd nD.1 nD.2]
        refine e4.trans (Ex.new ?_)
        unfold cut
        rw [if_neg (fun z => by rcases z with z | z; exact nD.1 z; exact nD.2 z)]
        exact hD
      · obtain ⟨hp5, e5, ds, hds, hD5⟩ := pp
        refine ⟨rfl, yes_go ⟨_, rfl, _, rfl, p, c, many, rfl, hp5, m1, by omega, fun d2 H6 hd2 hp6 e6 => ?_⟩⟩
        have hD6 : H6 D = some (.lst (ds.map iV)) := ex_cut_get e6 hD5 nD.1 nD.2
        refine ⟨_, hD6, by rw [List.length_map, sizeLine_eq]; omega, hp6.upd nD.1 nD.2, ?_, ds ++ [d2], by rw [List.length_append, hds]; rfl, ?_⟩
        · rw [cut_upd nD.1 nD.2]
          refine Ex.mut (e5.trans e6) (Evl.fresh_back e4 ?_)
          unfold cut
          rw [if_neg (fun z => by rcases z with z | z; exact nD.1 z; exact nD.2 z)]
          exact hD
        · rw [upd_same, List.map_append]
          rfl
      obtain ⟨hp5, e5, ds, hds, hD5⟩ := pp
      refine ⟨D, _, rfl, .inl ⟨SqL.of hD5, fun t4 h4 => ⟨by simp [sizeLine_eq], fun TH hTH => ?_⟩⟩⟩
      have tx35 := hp3.tx e5
      have f8 := (Ex.new (o := .tup (ds.map iV)) h4).trans (Ex.new (o := .lst [vt, .non, .ref t1, .ref t2, .ref t3, .ref t4]) hTH)
      obtain ⟨H8, eH8⟩ : ∃ H8, H8 = upd (upd H5 t4 (.tup (ds.map iV))) TH (.lst [vt, .non, .ref t1, .ref t2, .ref t3, .ref t4]) := ⟨_, rfl⟩
      have hTH8 : H8 TH = some (.lst [vt, .non, .ref t1, .ref t2, .ref t3, .ref t4]) := by
        rw [eH8]
        exact upd_same
      have st4 : SqT K H8 t4 (ds.map iV) := by
        rw [eH8]
        exact Evl.ex_t (Ex.new hTH) (SqT.of upd_same)
      rw [← eH8] at f8 ⊢
      have hp8 := hp5.ex f8
      have c8 := (c3.trans e5).trans (cut_ex f8)
      have tx38 := tx35.trans (Tx.of f8)
      have tx28 := (Tx.of f3).trans tx38
      have hths : ∀ v ∈ [vt, V.non, .ref t1, .ref t2, .ref t3, .ref t4], Th K H8 v := fun v hv => by
        simp only [List.mem_cons, List.not_mem_nil, or_false] at hv
        rcases hv with z | z | z | z | z | z
        · rw [z]
          exact hvt H8 tx28
        · rw [z]
          exact ⟨_, .inl .non, Nat.zero_le _⟩
        · rw [z]
          exact th_nats (sqT_tx tx38 st1) (by simp)
        · rw [z]
          exact th_nats (sqT_tx tx38 st2) (by simp)
        · rw [z]
          exact ⟨_, .inl (.tup (sqT_tx tx38 st3) (.cons (.bl _) (.cons (.int _) .nil))), by show 2 ≤ 1000; decide⟩
        · rw [z]
          exact th_nats st4 (by omega)
      have hr8 : SqT K H8 r (l.map iV) := sqT_tx tx28 hrl'
      have hlz : (l.map iV).length ≤ 40 := by
        rw [List.length_map]
        exact hll
      refine ⟨_, rfl, _, rfl, iteT ?_⟩
      rw [evt] at hTH8 hths ⊢
      refine ⟨_, rfl, _, rfl, 1, rfl, noPart_go (rSlA_go hr8 fun r1 Hr1 er1 sr1 => ?_)⟩
      obtain ⟨l1, el1, hl1⟩ := cut_nats l (some 1) none
      rw [el1] at sr1
      refine ⟨_, rfl, noPart_go ⟨1, rfl, rSlA_go (Evl.ex_t er1 hr8) fun r2 Hr2 er2 sr2 => ?_⟩⟩
      obtain ⟨l2, el2, hl2⟩ := cut_nats l none (some 1)
      rw [el2] at sr2
      refine rCatA_go (Evl.ex_t er2 sr1) sr2 (by rw [List.length_map, List.length_map, sizeLine_eq]; omega) fun r3 Hr3 er3 sr3 => ?_
      have g3 := (er1.trans er2).trans er3
      refine ⟨_, rfl, r, _, rfl, Evl.ex_t g3 hr8, fun r4 h4r => ?_⟩
      have g4 := g3.trans (Ex.new (o := .tup (l.map iV).reverse) h4r)
      refine ⟨_, rfl, r, _, rfl, .inr (Evl.ex_t g4 hr8), fun l5 h5r => ?_⟩
      have g5 := g4.trans (Ex.new (o := .lst (l.map iV)) h5r)
      refine ⟨_, rfl, noPart_go ⟨_, rfl, _, rfl, rSlA_go (Evl.ex_t g5 hr8) fun r6 Hr6 er6 sr6 => ?_⟩⟩
      obtain ⟨l6, el6, hl6⟩ := cut_nats l none (some (-1))
      have sr6' : SqT K Hr6 r6 (l6.map iV) := by
        rw [← el6]
        exact sr6
      have g6 := g5.trans er6
      refine ⟨by simp [sizeLine_eq], fun L7 h7r => ?_⟩
      have g7 := g6.trans (Ex.new (o := .lst [.ref r3, .ref r4, .ref l5, .ref r6]) h7r)
      refine ⟨TH, L7, _, _, rfl, rfl, g7 _ _ hTH8, upd_same, by simp [sizeLine_eq], fun TL h8r => ?_⟩
      have g8 := g7.trans (Ex.new (o := .lst ([V.ref r, V.non, .ref t1, .ref t2, .ref t3, .ref t4] ++ [.ref r3, .ref r4, .ref l5, .ref r6])) h8r)
      obtain ⟨H9, eH9⟩ : ∃ H9, H9 = upd (upd Hr6 L7 (.lst [.ref r3, .ref r4, .ref l5, .ref r6])) TL (.lst ([V.ref r, V.non, .ref t1, .ref t2, .ref t3, .ref t4] ++ [.ref r3, .ref r4, .ref l5, .ref r6])) := ⟨_, rfl⟩
      obtain ⟨ths, eths⟩ : ∃ ths, ths = [V.ref r, V.non, .ref t1, .ref t2, .ref t3, .ref t4] ++ [.ref r3, .ref r4, .ref l5, .ref r6] := ⟨_, rfl⟩
      have hTL : H9 TL = some (.lst ths) := by
        rw [eH9, eths]
        exact upd_same
      have x36 : Ex Hr3 H9 := by
        rw [eH9]
        exact ((Ex.new h4r).trans ((Ex.new h5r).trans er6)).trans ((Ex.new h7r).trans (Ex.new h8r))
      have x46 : Ex (upd Hr3 r4 (.tup (l.map iV).reverse)) H9 := by
        rw [eH9]
        exact ((Ex.new h5r).trans er6).trans ((Ex.new h7r).trans (Ex.new h8r))
      have x56 : Ex (upd (upd Hr3 r4 (.tup (l.map iV).reverse)) l5 (.lst (l.map iV))) H9 := by
        rw [eH9]
        exact er6.trans ((Ex.new h7r).trans (Ex.new h8r))
      have x66 : Ex Hr6 H9 := by
        rw [eH9]
        exact (Ex.new h7r).trans (Ex.new h8r)
      rw [← eH9] at g8 ⊢
      have hp9 := hp8.ex g8
      have c9 := c8.trans (cut_ex g8)
      have htl : ths.length ≤ 100 := by
        rw [eths]
        simp
      have hths9 : ∀ v ∈ ths, Th K H9 v := fun v hv => by
        rw [eths] at hv
        rcases List.mem_append.mp hv with z | z
        · exact (hths v z).ex g8
        · simp only [List.mem_cons, List.not_mem_nil, or_false] at z
          rcases z with z | z | z | z
          · rw [z]
            refine th_nats (p := l1 ++ l2) ?_ (by rw [List.length_append]; omega)
            rw [List.map_append]
            exact Evl.ex_t x36 sr3
          · rw [z]
            refine th_nats (p := l.reverse) ?_ (by rw [List.length_reverse]; omega)
            rw [List.map_reverse]
            exact Evl.ex_t x46 (SqT.of upd_same)
          · rw [z]
            exact ⟨.list (l.map fun (x : Nat) => PyData.int (x : Int)), .inl (.lst (Evl.ex_l x56 (SqL.of upd_same)) nats_dpAll), Nat.zero_le _⟩
          · rw [z]
            exact th_nats (Evl.ex_t x66 sr6') (by omega)
      refine ⟨_, rfl, TL, rfl, ⟨_, SqL.of hTL⟩, fun D2 hD2 => ?_⟩
      refine lc_list (xs := ths) (fun i H10 => Ex H9 H10 ∧ H10 D2 = some (.lst ((List.replicate i true).map V.bl))) ⟨Ex.new hD2, upd_same⟩ (fun i H10 _ pp => Evl.ex_l pp.1 (SqL.of hTL)) (fun i x H10 hx pp => ?_) (fun H10 pp => ?_)
      · obtain ⟨e10, hac⟩ := pp
        obtain ⟨dx, hdx, hldx⟩ := hths9 x (List.mem_of_getElem? hx)
        have hil : i < ths.length := (List.getElem?_eq_some_iff.mp hx).1
        have c10 := c9.trans (cut_ex e10)
        refine ⟨rfl, yes_go ⟨_, rfl, _, rfl, _, rfl, iV many, .int (many : Int), .ref b, .tuple (B.map pD), x, dx, rfl, hmx, hbx c10, hdx.ex e10, hlB, hldx, no_err Y R, fun n' B' R' H11 e11 => ?_⟩⟩
        obtain ⟨rfl, rfl⟩ := right_inj R'
        refine ⟨_, rfl, _, rfl, _, rfl, _, _, .ref b, x, dx, rfl, hbx (c10.trans (cut_ex e11)), hdx.ex (e10.trans e11), hldx, fun H12 e12 => ?_⟩
        refine ⟨_, _, rfl, _, e12 _ _ (e11 _ _ hac), ?_, Ex.mut ((e10.trans e11).trans e12) hD2, ?_⟩
        · rw [List.length_map, List.length_replicate, sizeLine_eq]
          omega
        · rw [upd_same, List.replicate_succ', List.map_append]
          congr 2
          congr 1
          show [V.bl (isRingD _ _ dx == isRingD _ _ dx)] = [V.bl true]
          rw [beq_self_eq_true]
      obtain ⟨e10, hac⟩ := pp
      have hall : (List.replicate ths.length true).all id = true := List.all_eq_true.mpr fun z hz => List.eq_of_mem_replicate hz
      refine ⟨D2, _, rfl, SqL.of hac, _, rfl, ?_⟩
      rw [hall]
      refine bran (fun z => nomatch z) (fun _ => ?_)
      have c10 := c9.trans (cut_ex e10)
      refine ⟨_, rfl, _, rfl, iV many, .int (many : Int), .ref b, .tuple (B.map pD), rfl, hmx, hbx c10, hlB, no_err Y R, fun n' B' R' r1 W1 H11 e11 dp1 pw1 mem1 hW1 => ?_⟩
      obtain ⟨rfl, rfl⟩ := right_inj R'
      refine ⟨_, rfl, _, rfl, _, _, .ref b, rfl, hbx (c10.trans (cut_ex e11)), hbk, m2, by omega, fun r2 W2 H12 e12 dp2 pw2 mem2 => ?_⟩
      have eW : W1 = W2 := asc2_ext pw1 pw2 fun x => by rw [mem1 x, mem2 x]
      subst eW
      obtain ⟨k1, k2, k3, k4⟩ := pairs_is (W := W1) (fun e he => by
        have z := (((mem1 e).mp he).2).lt hbk.lt
        omega) hW1
      exact ⟨r1, r2, _, rfl, dp_ex e12 _ _ dp1, dp2, k1, k2, k3, k4, q H12 ((hp9.ex e10).ex (e11.trans e12)) ((c10.trans (cut_ex e11)).trans (cut_ex e12))⟩
end
end K3
set_option Elab.async false
set_option linter.all false
set_option maxRecDepth 100000
set_option maxHeartbeats 4000000
/-! set(l), l a list of ints, so that sorted can follow. -/
namespace K3
open PySem PySem.Spec PyProof.Rows L2
open Evl (Ex)
section
variable {P : Program} {w : World} {A : Around} {E : Value → Shared → Prop} {s : Shared}
theorem call_set_listI {l : Addr} {items : Array Value} (ns : List Int) {Q : Value → Shared → Prop} (hh : A.handled = none) (hl : s.heap.IsList l items) (hit : IntsAre items.toList ns) (hb : ns.length + 1 < scanBound)
    (h : ∀ (h' : Heap) (tk c : Nat), SetR w h' s.heap.objs.size (fun j => decide (j ∈ ns)) c → c ≤ ns.length → (∀ b o, s.heap.get? b = some o → h'.get? b = some o) → Q (.ref s.heap.objs.size) { s with heap := h', toks := tk }) :
    wpAny (model P w) A (call (.type "set") [.ref l]) Q E s := by
  have hisz : items.size = ns.length := by
    have q := IntsAre.length hit
    rw [Array.length_toList] at q
    exact q
  obtain ⟨c, tl, hmro⟩ := PySem.F.called_set.mro
  have hmade := PySem.F.called_set.made
  have hsub := PySem.F.called_set.sub
  refine wpAny_call (codeAny_of_tree ?_)
  show wpAny _ _ (callAny (.type "set") _) _ _ _
  refine wpAny_pure ⟨Code.quiet_builtin _ (by decide +kernel), codeAny_builtin PySem.F.entry_type_call ?_⟩
  rw [Around.under_plain (weight_type_call_type "set" [.ref l] []) rfl]
  have h1 := PySem.F.called_set.notType
  have h2 := PySem.F.called_set.canCreate
  have hct := PySem.F.typeCall_set_1 (.ref l)
  repeat (any_goals (first | assumption | wp_step))
  refine codeAny_mono (code_set_led1 (.ref l) (E := E) (Q₁ := fun obj s₁ => obj = .ref s.heap.objs.size ∧ s₁ = { s with heap := s.heap.push { cls := .type "set", dict := none, data := .set #[] 0 (.fresh 0 0 (!w.params.followText "set-order")) } }) ⟨rfl, rfl⟩) fun r s₁ hr => ?_
  cases r with
  | error e => exact hr
  | ok fl =>
    cases fl with
    | ret obj =>
      obtain ⟨rfl, rfl⟩ := hr
      have hS : (s.heap.push { cls := .type "set", dict := none, data := .set #[] 0 (.fresh 0 0 (!w.params.followText "set-order")) }).get? s.heap.objs.size = some { cls := .type "set", dict := none, data := .set #[] 0 (.fresh 0 0 (!w.params.followText "set-order")) } := Heap.get?_push_size _ rfl
      have hT : Shared.TypeIs { s with heap := s.heap.push { cls := .type "set", dict := none, data := .set #[] 0 (.fresh 0 0 (!w.params.followText "set-order")) } } (.ref s.heap.objs.size) "set" := ⟨_, hS, rfl⟩
      have hli := PySem.F.called_set.init.lookup
      have hbi := PySem.F.called_set.init.bind (.ref s.heap.objs.size)
      repeat (any_goals (first | assumption | wp_step))
      refine codeAny_mono (codeAny_call_builtin (R := wants (fun r s₂ => r = .none ∧ ∃ h' tk c, s₂ = { s with heap := h', toks := tk } ∧ SetR w h' s.heap.objs.size (fun j => decide (j ∈ ns)) c ∧ c ≤ ns.length ∧
          (∀ b o, s.heap.get? b = some o → h'.get? b = some o)) E) PySem.F.called_set.init.plain PySem.F.entry_set_init (check_set_init_1 hT ?_)) fun r₂ s₂ hr₂ => ?_
      · obtain ⟨ol, hol, hcl, nl, hdl⟩ := hl
        obtain ⟨ocls, odict, odata, oslots⟩ := ol
        simp only at hcl hdl
        subst hcl; subst hdl
        have hol' : (s.heap.push { cls := .type "set", dict := none, data := .set #[] 0 (.fresh 0 0 (!w.params.followText "set-order")) }).get? l = some { cls := .type "list", dict := odict, data := .seq items nl, slots := oslots } := Heap.get?_push_of_some _ hol
        have hsls := PySem.F.sub_list_set
        have hslf := PySem.F.sub_list_frozenset
        have hne : (Value.type "list" == Value.type "dict") = false := by decide
        have hl1 : (s.heap.push { cls := .type "set", dict := none, data := .set #[] 0 (.fresh 0 0 (!w.params.followText "set-order")) }).IsList l items := ⟨_, hol', rfl, nl, rfl⟩
        unfold Builtin.«set.__init__» noKeywords Builtin.Frozenset.updateFrom
        generalize hPI : pyIter = PI
        wp_walk
        subst hPI
        refine wpAny_pyIter_list hl1 ?_
        refine wpAny_bind (wpAny_runValue ?_)
        have hlS : l < s.heap.objs.size := Heap.lt_size hol
        have hh3 : A.in1.in1.in1.handled = none := by simp [hh]
        have hneI : l ≠ (s.heap.push { cls := .type "set", dict := none, data := .set #[] 0 (.fresh 0 0 (!w.params.followText "set-order")) }).objs.size := by
          rw [Heap.size_push]; exact Nat.ne_of_lt (Nat.lt_succ_of_lt hlS)
        have hSf : s.heap.objs.size ∉ [(s.heap.push { cls := .type "set", dict := none, data := .set #[] 0 (.fresh 0 0 (!w.params.followText "set-order")) }).objs.size, l] := by
          rw [Heap.size_push]; simp only [List.mem_cons, List.mem_singleton, List.not_mem_nil, or_false, not_or]
          exact ⟨Nat.ne_of_lt (Nat.lt_succ_self _), Nat.ne_of_gt hlS⟩
        have hval : ∀ (i : Nat) (v : Value), items[i]? = some v → ∃ k t, ns[i]? = some k ∧ v = .int k t := fun i v hv => by
          have hi : i < ns.length := by rw [← hisz]; exact (Array.getElem?_eq_some_iff.mp hv).1
          obtain ⟨t, e⟩ := PyProof.Rows.IntsAre.int_at hit i v (by rw [Array.getElem?_toList]; exact hv)
          refine ⟨ns[i], t, List.getElem?_eq_getElem hi, ?_⟩
          rw [e, List.getD_eq_getElem?_getD, List.getElem?_eq_getElem hi] <;> rfl
        refine set_update_ints ((Walks.list hh3 _ l hneI items).toS) s.heap.objs.size
          hSf ns hisz hb hval (items.size - 0) 0 _ (by omega) (Nat.zero_le _)
          ⟨⟨_, Heap.get?_push_size _ rfl, rfl, rfl⟩, (hl1.push _)⟩ ?hS0 ?hR
        case hS0 =>
          have hget : ((s.heap.push { cls := .type "set", dict := none, data := .set #[] 0 (.fresh 0 0 (!w.params.followText "set-order")) }).push { cls := .type "list_iterator", data := .fields #[.ref l, .int 0 0] }).get? s.heap.objs.size
              = some { cls := .type "set", dict := none, data := .set #[] 0 (.fresh 0 0 (!w.params.followText "set-order")) } := Heap.get?_push_of_some _ hS
          exact ⟨0, Nat.le_refl 0, setR_new_at hget⟩
        case hR =>
          intro s' c' hm hc' hS'
          obtain ⟨h', g2, d', tk', os'⟩ := s'
          have eg : g2 = s.gens := hm.gens
          have ed : d' = s.drawn := hm.drawn
          have eo : os' = s.os := hm.os
          subst eg; subst ed; subst eo
          show wpAny _ _ _ _ _ _
          refine wpAny_pure ?_
          show wpAny _ _ (ret Value.none) _ _ _
          rw [hisz] at hc'
          refine wpAny_pure ⟨rfl, h', tk', c', rfl, hS', hc', fun b o e => ?_⟩
          have hb0 : b < s.heap.objs.size := Heap.lt_size e
          have hb1 : b ≠ s.heap.objs.size := Nat.ne_of_lt hb0
          have hb2 : b ≠ (s.heap.push { cls := .type "set", dict := none, data := .set #[] 0 (.fresh 0 0 (!w.params.followText "set-order")) }).objs.size := by
            rw [Heap.size_push]; exact Nat.ne_of_lt (Nat.lt_succ_of_lt hb0)
          exact hm.heap b o (by simp only [List.mem_cons, List.mem_singleton, List.not_mem_nil, or_false, not_or]; exact ⟨hb1, hb2⟩) (Heap.get?_push_of_some _ (Heap.get?_push_of_some _ e))
      · cases r₂ with
        | error e => exact hr₂
        | ok fl₂ =>
          cases fl₂ with
          | ret r =>
            obtain ⟨rfl, h', tk, c, rfl, hS', hc', hk'⟩ := hr₂
            repeat (any_goals (first | assumption | wp_step))
            exact h _ _ _ hS' hc' hk'
          | _ => exact hr₂.elim
    | _ => exact hr.elim
end
/-- set(l) -/
def rSetL1 (K : PySem.W.Frag) (w : World) : List V → Hp → VK → Prop := fun vs H Q => ∃ (a : Addr) (ns : List Int), vs = [.ref a] ∧ SqL K H a (ns.map V.int) ∧ ns.length ≤ 1000 ∧ ∀ p c, H p = none → c ≤ ns.length → Q (.ref p) (upd H p (SetO w p (fun j => decide (j ∈ ns)) c))
theorem cr_setL {X : Cx} (hc : X.calm = true) : CallR X (.type "set") (rSetL1 X.K X.w) := by
  intro pins s σ H vs us Q I r h
  obtain ⟨a, ns, rfl, hs, hl, q⟩ := h
  rw [Vals.ref1 r]
  obtain ⟨its, rv, pl, hz⟩ := I.list hs
  refine call_set_listI ns (I.ok.hd hc) pl.isList (by simpa using rv.ints) (by unfold scanBound; omega) fun h' tk c hS hcn hk => ?_
  have hn : H s.heap.objs.size = none := I.hok.fresh (Nat.le_refl _)
  exact ⟨.ref s.heap.objs.size, _, I.laid (t' := tk) hk (Nat.le_refl _) (setO_new hS), rfl, q _ c hn hcn⟩
end K3
set_option Elab.async false
set_option linter.all false
set_option maxRecDepth 100000
set_option maxHeartbeats 4000000
/-! _law_orders_right. -/
namespace K3
open PySem PySem.Spec PyProof.Rows L2
open Evl (Ex)
theorem within_no {lo hi i : Int} (h : hi < i) : isWithinD lo hi (.int i) = false := by
  show (decide (lo ≤ i) && decide (i ≤ hi)) = false
  rw [decide_eq_false (p := i ≤ hi) (by omega), Bool.and_false]
section
variable {P : Program} {w : World} {K : PySem.W.Frag} {mg : Str → Option Value} {base : Heap} (T : Txt K mg)
-- _law_orders_right: 0 _law_pool_here  1 _law_many  2 _law_book  3 _law_due_here  4 _law_number  5 _law_bad
theorem sc_law_orders_right : FnScope ["_law_pool_here", "_law_many", "_law_book", "_law_due_here", "_law_number", "_law_bad"] ["_law_pool_here", "_law_many", "_law_book"] (defScope (topS 48)) := ⟨rfl, rfl, rfl, by decide +kernel, rfl, by decide +kernel, by decide +kernel⟩
def spOrdR (K : PySem.W.Frag) : Sp := fun vs H Q _ => ∃ (p c : Addr) (many : Nat) (b : Addr) (E : Edges), vs = [.ref p, iV many, .ref b] ∧ PoolAt H p c ∧ 1 ≤ many ∧ many ≤ 6 ∧ Bk many E ∧ E.length ≤ 100 ∧ Dp K (cut p c H) (.ref b) (.tuple (E.map pD)) ∧
  ∀ (H' : Hp), PoolAt H' p c → Ex (cut p c H) (cut p c H') → Q (.bl true) H'
theorem ok_law_orders_right (Y : XTxt K mg) (Z : WTxt Y) : FnG P w K mg base 10 T.law_orders_right.f T.law_orders_right.fd ["_law_pool_here", "_law_many", "_law_book"] (spOrdR K) := by
  have G_law_draw : FnOk P w K mg base CX0 1 T.law_draw.f T.law_draw.fd ["_law_pool_here", "_law_many"] spDraw := ok_law_draw T
  have G_law_orders : FnOk P w K mg base CX0 1 T.law_orders.f T.law_orders.fd ["_law_many", "_law_pairs_here"] (spOrders K) := ok_law_orders T
  have G_count_orders : FnOk P w K mg base (L2.CX P w) 7 T.count_orders.f T.count_orders.fd ["many", "book"] (spCount Y) := ok_count_orders T Y
  have G_order_at : FnOk P w K mg base (L2.CX P w) 7 T.order_at.f T.order_at.fd ["many", "book", "number"] (spOrderAt Y) := ok_order_at T Y
  have G_law_word : FnOk P w K mg base CX0 9 T.law_word.f T.law_word.fd ["_law_which", "_law_many", "_law_thing", "_law_more"] (spWord K) := ok_law_word T Y Z
  have G_law_is : FnG P w K mg base 1 T.law_is.f T.law_is.fd ["_law_told", "_law_due_here"] (spIs K) := ok_law_is T
  refine okG T.law_orders_right.F sc_law_orders_right (fun vs H Q E h => ?_) (fun cdv A outer s H vs Q E hr hgu h => ?_)
  · obtain ⟨p, c, many, b, B, rfl, _⟩ := h
    rfl
  · obtain ⟨p, c, many, b, B, rfl, hp, m1, m2, hbk, hl, hb, q⟩ := h
    have R : RightB (.int (many : Int)) (.tuple (B.map pD)) many B := ⟨rfl, m1, by omega, rfl, hbk, by omega⟩
    have hlB : lenD (.tuple (B.map pD)) ≤ 1000 := by
      show (B.map pD).length ≤ 1000
      rw [List.length_map]
      omega
    have hbx : ∀ {H' : Hp}, Ex (cut p c H) (cut p c H') → Dx K H' (.ref b) (.tuple (B.map pD)) := fun e => .inl (dp_ex cut_le _ _ (dp_ex e _ _ hb))
    have hmx : ∀ {H' : Hp}, Dx K H' (iV many) (.int (many : Int)) := fun {H'} => .inl (.int _)
    obtain ⟨N, eN⟩ : ∃ N, N = (lev many B many).length := ⟨_, rfl⟩
    have hN : N ≤ 46656 := by
      rw [eN]
      refine Nat.le_trans (lev_len many) ?_
      refine Nat.le_trans (Nat.pow_le_pow_left m2 many) ?_
      exact Nat.le_trans (Nat.pow_le_pow_right (by decide) m2) (by decide)
    refine ⟨_, (pss_cons (ps_set (i := 3) sc_law_orders_right.nd rfl (.inl rfl) (pe_call G_law_orders (hr.mono (by decide)) (by rfl) T.law_orders.g T.law_orders.F.kp T.law_orders.b .nil pass0 (pa_cons (pv 1) (pa_cons (pv 2) pa_nil))))
    (pss_cons (ps_if (pt_not (pt_val (pe_callG G_law_is (hr.mono (by decide)) hgu (by rfl) T.law_is.g T.law_is.F.kp T.law_is.b (pa_cons (pe_lst (pa_cons (pe_call G_count_orders (hr.mono (by decide)) (by rfl) T.count_orders.g T.count_orders.F.kp T.count_orders.b .nil passL (pa_cons (pv 1) (pa_cons (pv 2) pa_nil))) pa_nil)) (pa_cons (pe_lst (pa_cons (pe_callB call_len_seq (by rfl) T.m_len PySem.boot_len (pa_cons (pv 3) pa_nil)) pa_nil)) pa_nil))))) (pss_one (ps_ret pe_bl)) pss_nil)
    (pss_cons (ps_for PassesOwn.never rfl (pi_list (pe_callB (cr_sortedSet rfl) (by rfl) T.m_sorted boot_sorted (pa_cons (pe_callTy (cr_setL rfl) (by rfl) T.m_set boot_set (pa_cons (pe_lst (pa_cons pe_int (pa_cons (pe_op op_sub (pe_callB call_len_seq (by rfl) T.m_len PySem.boot_len (pa_cons (pv 3) pa_nil)) pe_int) (pa_cons (pe_call G_law_draw (hr.mono (by decide)) (by rfl) T.law_draw.g T.law_draw.F.kp T.law_draw.b .nil pass0 (pa_cons (pv 0) (pa_cons (pe_op op_add (pe_callB call_len_seq (by rfl) T.m_len PySem.boot_len (pa_cons (pv 3) pa_nil)) pe_int) pa_nil))) pa_nil)))) pa_nil)) pa_nil))) (pg_name (i := 4) sc_law_orders_right.nd rfl (.inl rfl)) (pss_one (ps_if (PW.pt (pw_and (pt_chain op_le op_lt pe_int (pv 4) (pe_callB call_len_seq (by rfl) T.m_len PySem.boot_len (pa_cons (pv 3) pa_nil))) (pw_and1 (pt_not (pt_val (pe_callG G_law_is (hr.mono (by decide)) hgu (by rfl) T.law_is.g T.law_is.F.kp T.law_is.b (pa_cons (pe_call G_order_at (hr.mono (by decide)) (by rfl) T.order_at.g T.order_at.F.kp T.order_at.b .nil passL (pa_cons (pv 1) (pa_cons (pv 2) (pa_cons (pv 4) pa_nil)))) (pa_cons (pe_ix ix_list (pv 3) (pv 4) (fun _ _ => rfl)) pa_nil)))))))) (pss_one (ps_ret pe_bl)) pss_nil)))
    (pss_cons (ps_set (i := 5) sc_law_orders_right.nd rfl (.inl rfl) (pe_ix ix_list (pe_lst (pa_cons (pe_callB call_len_seq (by rfl) T.m_len PySem.boot_len (pa_cons (pv 3) pa_nil)) (pa_cons (pe_un un_neg pe_int) (pa_cons pe_bl (pa_cons pe_non (pa_cons pe_str (pa_cons (pe_op op_pow pe_int pe_int) pa_nil))))))) (pe_call G_law_draw (hr.mono (by decide)) (by rfl) T.law_draw.g T.law_draw.F.kp T.law_draw.b .nil pass0 (pa_cons (pv 0) (pa_cons pe_int pa_nil))) (fun _ _ => rfl)))
    (pss_one (ps_ret (pe_cmpR op_eq (pe_call G_law_word (hr.mono (by decide)) (by rfl) T.law_word.g T.law_word.F.kp T.law_word.b .nil pass0 (pa_cons pe_int (pa_cons (pv 1) (pa_cons (pv 2) (pa_cons (pv 5) pa_nil))))) pe_str (nomark _)))))))), ?_⟩
    refine ⟨_, rfl, _, rfl, many, B, .ref b, rfl, hbx (Ex.refl _), m2, by omega, fun F xs H1 e1 hFn hF hxs => ?_⟩
    have c1 := cut_ex (p := p) (c := c) e1
    have hxl : xs.length = N := by rw [dpAll_len hxs, List.length_map, eN]
    have nF := hp.p1 hFn
    have hFc : SqL K (cut p c H1) F xs := by
      rcases hF with (z | ⟨o, z⟩) | z
      · exact .inl (.inl (cut_at z nF.1 nF.2))
      · exact .inl (.inr ⟨o, cut_at z nF.1 nF.2⟩)
      · exact .inr z
    have hp1 := hp.ex e1
    refine ⟨_, rfl, _, rfl, iV many, .int (many : Int), .ref b, .tuple (B.map pD), rfl, hmx, hbx c1, hlB, no_err Y R, fun n' B' R' => ?_⟩
    obtain ⟨rfl, rfl⟩ := right_inj R'
    refine ⟨fun z => by omega, fun _ H2 e2 => ?_⟩
    rw [← eN]
    refine ⟨by simp [sizeLine_eq], fun a1 ha1 => ⟨_, rfl, F, xs, rfl, .inl (Evl.ex_l (e2.trans (Ex.new ha1)) hF), by simp [sizeLine_eq], fun a2 ha2 => ?_⟩⟩
    have elen : V.int ((xs.length : Nat) : Int) = iV N := by
      rw [hxl]
      rfl
    rw [elen]
    obtain ⟨_, k1, k2, k3, k4⟩ := nats_is (p := [N]) (fun e he => by rw [List.mem_singleton.mp he]; omega) (by simp)
    refine ⟨a1, a2, _, rfl, .lst (Evl.ex_l (Ex.new ha2) (SqL.of upd_same)) (nats_dpAll (p := [N])), .lst (SqL.of upd_same) (nats_dpAll (p := [N])), k1, k2, k3, k4, _, rfl, bran (fun z => nomatch z) (fun _ => ?_)⟩
    have e3 : Ex H1 (upd (upd H2 a1 (.lst [iV N])) a2 (.lst [iV N])) := (e2.trans (Ex.new ha1)).trans (Ex.new ha2)
    obtain ⟨H3, eH3⟩ : ∃ H3, H3 = upd (upd H2 a1 (.lst [iV N])) a2 (.lst [iV N]) := ⟨_, rfl⟩
    rw [← eH3] at e3 ⊢
    have hp3 := hp1.ex e3
    have c3 := c1.trans (cut_ex e3)
    have hF3 := Evl.ex_l e3 hF
    refine ⟨_, rfl, F, xs, rfl, .inl hF3, _, _, rfl, rfl, _, rfl, _, rfl, F, xs, rfl, .inl hF3, _, _, rfl, rfl, p, c, xs.length + 1, rfl, hp3, by omega, by omega, fun d1 H4 hd1 hp4 e4 => ⟨by simp [sizeLine_eq], fun L hL => ?_⟩⟩
    have elst : ([V.int 0, V.int (((xs.length : Nat) : Int) - 1), iV d1] : List V) = ([0, ((xs.length : Nat) : Int) - 1, (d1 : Int)] : List Int).map V.int := rfl
    have c4 := c3.trans e4
    have hF4 : SqL K (cut p c H4) F xs := Evl.ex_l ((cut_ex e3).trans e4) hFc
    refine ⟨L, [0, ((xs.length : Nat) : Int) - 1, (d1 : Int)], rfl, SqL.of upd_same, by simp, fun S cn hS hcn => ?_⟩
    have hcn3 : cn ≤ 3 := hcn
    refine ⟨S, _, _, rfl, upd_same, by omega, fun ks G hpw hmem hkl hG => ?_⟩
    have f5 := (Ex.new (o := .lst [V.int 0, V.int (((xs.length : Nat) : Int) - 1), iV d1]) hL).trans ((Ex.new (o := SetO w S (fun j => decide (j ∈ ([0, ((xs.length : Nat) : Int) - 1, (d1 : Int)] : List Int))) cn) hS).trans (Ex.new (o := .lst (ks.map V.int)) hG))
    obtain ⟨H5, eH5⟩ : ∃ H5, H5 = upd (upd (upd H4 L (.lst [V.int 0, V.int (((xs.length : Nat) : Int) - 1), iV d1])) S (SetO w S (fun j => decide (j ∈ ([0, ((xs.length : Nat) : Int) - 1, (d1 : Int)] : List Int))) cn)) G (.lst (ks.map V.int)) := ⟨_, rfl⟩
    have hG5 : H5 G = some (.lst (ks.map V.int)) := by
      rw [eH5]
      exact upd_same
    refine ⟨G, rfl, ⟨_, SqL.of upd_same⟩, ?_⟩
    have f5' : Ex H4 H5 := by
      rw [eH5]
      exact f5
    have hp5 := hp4.ex f5'
    have c5 := c4.trans (cut_ex f5')
    have hF5 : SqL K (cut p c H5) F xs := Evl.ex_l (cut_ex f5') hF4
    refine for_list (xs := ks.map V.int) (fun i σ H6 => (∃ y4 y5, σ = [some (.ref p), some (iV many), some (.ref b), some (.ref F), y4, y5]) ∧ Ex H5 H6) ⟨⟨_, _, rfl⟩, ?_⟩ (fun i σ H6 _ pp => Evl.ex_l pp.2 (SqL.of hG5)) (fun i x σ H6 hx pp => ?_) (fun σ H6 pp => ?_)
    · rw [eH5]
      exact Ex.refl _
    · obtain ⟨⟨y4, y5, rfl⟩, e6⟩ := pp
      obtain ⟨k, rfl⟩ := int_at hx
      have hF6 := Evl.ex_l ((cut_le (p := p) (c := c) (H := H5)).trans e6) hF5
      refine ⟨_, rfl, _, _, rfl, rfl, _, rfl, bran (fun h0 => ?_) (fun h0 => ⟨_, rfl, iteF ⟨⟨_, _, rfl⟩, e6⟩⟩)⟩
      have hk0 : 0 ≤ k := of_decide_eq_true h0
      refine ⟨_, rfl, F, xs, rfl, .inl hF6, _, _, rfl, rfl, _, rfl, bran (fun h1 => ?_) (fun h1 => ⟨⟨_, _, rfl⟩, e6⟩)⟩
      have hk1 : k < ((xs.length : Nat) : Int) := of_decide_eq_true h1
      obtain ⟨kn, rfl⟩ : ∃ kn : Nat, k = (kn : Int) := ⟨k.toNat, by omega⟩
      have c6 := c5.trans (cut_ex e6)
      have hkn : kn < (lev many B many).length := by omega
      have hwi : isWithinD 0 ((((lev many B many).length : Nat) : Int) - 1) (.int (kn : Int)) = true := by
        show (decide ((0 : Int) ≤ (kn : Int)) && decide ((kn : Int) ≤ _)) = true
        rw [decide_eq_true (by omega), decide_eq_true (by omega)]
        rfl
      refine ⟨_, rfl, _, rfl, _, rfl, iV many, .int (many : Int), .ref b, .tuple (B.map pD), .int (kn : Int), .int (kn : Int), rfl, hmx, hbx c6, .inl (.int _), hlB, no_err Y R, fun n' B' R' => ?_⟩
      obtain ⟨rfl, rfl⟩ := right_inj R'
      refine ⟨fun z => by omega, fun _ z => ?_, fun _ _ r pl k' H7 e7 ek hlev hr7 => ?_⟩
      · rw [hwi] at z
        cases z
      · have ek2 := PyData.int.inj ek
        have ek3 : k' = kn := by omega
        subst ek3
        have hxs7 : DpAll K H1 xs ((lev many B many).map oD) := hxs
        obtain ⟨xk, hxk⟩ : ∃ xk, xs[k']? = some xk := ⟨_, List.getElem?_eq_getElem (by omega)⟩
        obtain ⟨pl2, hpl2, t2, rfl, ht2⟩ := dpAll_oD_at hxs hxk
        rw [hlev] at hpl2
        cases hpl2
        have hpm := lev_mem many pl (List.mem_of_getElem? hlev)
        have ht7 : SqT K H7 t2 (pl.map iV) := by
          have z1 := sqT_cut hp1 ht2
          exact Evl.ex_t (((((cut_ex e3).trans e4).trans (cut_ex f5')).trans (cut_ex (e6.trans e7))).trans cut_le) z1
        obtain ⟨⟨k1, k2, k3, k4⟩, _⟩ := nats_is (p := pl) (fun e he => by have z := hpm.2.2 e he; omega) (by rw [hpm.1]; omega)
        refine ⟨_, rfl, _, rfl, F, xs, _, _, rfl, rfl, Evl.ex_l e7 hF6, atI_nat hxk, ?_⟩
        exact ⟨r, t2, oD pl, rfl, oD_dp hr7, oD_dp ht7, k1, k2, k3, k4, _, rfl, bran (fun z => nomatch z) (fun _ => ⟨⟨_, _, rfl⟩, e6.trans e7⟩)⟩
    · obtain ⟨⟨y4, y5, rfl⟩, e6⟩ := pp
      have hp6 := hp5.ex e6
      have c6 := c5.trans (cut_ex e6)
      have hF6 := Evl.ex_l ((cut_le (p := p) (c := c) (H := H5)).trans e6) hF5
      refine ⟨_, rfl, F, xs, rfl, .inl hF6, _, rfl, _, _, rfl, rfl, ⟨by decide, by decide, by decide⟩, by simp [sizeLine_eq], fun O hO => ?_⟩
      have nO := hp6.p1 hO
      refine ⟨_, rfl, p, c, 6, rfl, hp6.upd nO.1 nO.2, by decide, by decide, fun d2 H7 hd2 hp7 e7 => ?_⟩
      obtain ⟨os, eos⟩ : ∃ os : List V, os = [V.int ((xs.length : Nat) : Int), V.int (-1), V.bl true, V.non, V.str "0", V.int ((10 : Int) ^ (19 : Int).toNat)] := ⟨_, rfl⟩
      have hO7 : H7 O = some (.lst os) := by
        rw [eos]
        exact ex_cut_get e7 upd_same nO.1 nO.2
      obtain ⟨v, hv⟩ : ∃ v, os[d2]? = some v := ⟨_, List.getElem?_eq_getElem (by rw [eos]; exact hd2)⟩
      have hbad : ∃ dx, (∀ H', Dx K H' v dx) ∧ lenD dx ≤ 1000 ∧ isWithinD 0 ((((lev many B many).length : Nat) : Int) - 1) dx = false := by
        have hm := List.mem_of_getElem? hv
        rw [eos] at hm
        simp only [List.mem_cons, List.not_mem_nil, or_false] at hm
        rcases hm with z | z | z | z | z | z
        · rw [z]
          exact ⟨_, fun H' => .inl (.int _), Nat.zero_le _, within_no (by omega)⟩
        · rw [z]
          exact ⟨_, fun H' => .inl (.int _), Nat.zero_le _, rfl⟩
        · rw [z]
          exact ⟨_, fun H' => .inl (.bl _), Nat.zero_le _, rfl⟩
        · rw [z]
          exact ⟨_, fun H' => .inl .non, Nat.zero_le _, rfl⟩
        · rw [z]
          exact ⟨_, fun H' => .inl (.str _), Nat.zero_le _, rfl⟩
        · rw [z]
          have e19 : ((10 : Int) ^ (19 : Int).toNat) = 10000000000000000000 := by decide
          exact ⟨_, fun H' => .inl (.int _), Nat.zero_le _, within_no (by rw [e19]; omega)⟩
      obtain ⟨dx, hdx, hldx, hnw⟩ := hbad
      refine ⟨O, os, (d2 : Int), v, rfl, rfl, SqL.of hO7, atI_nat hv, ?_⟩
      have c7 : Ex (cut p c H) (cut p c H7) := by
        refine c6.trans (Ex.trans ?_ e7)
        exact cut_ex (Ex.new hO)
      refine ⟨_, rfl, _, rfl, _, rfl, 4, iV many, .int (many : Int), .ref b, .tuple (B.map pD), v, dx, rfl, by decide, hmx, hbx c7, hdx _, hlB, hldx, fun u H8 e8 hu => ?_⟩
      have ew : wordD 4 (.int (many : Int)) (.tuple (B.map pD)) dx = .str "number" := by
        obtain ⟨h1, h2⟩ := bk_pairs R
        unfold wordD
        rw [h2]
        dsimp only
        rw [h1]
        dsimp only
        rw [last_eq, if_neg (by decide), if_neg (by omega), if_neg (by decide), hnw, if_neg Bool.false_ne_true]
      rw [ew] at hu
      cases hu
      refine ⟨rfl, ?_⟩
      have ed : decide (V.str (Str.ofString "number") = V.str (Str.ofString "number")) = true := decide_eq_true rfl
      rw [ed]
      exact q H8 (hp7.ex e8) (c7.trans (cut_ex e8))
end
end K3
set_option Elab.async false
set_option linter.all false
set_option maxRecDepth 100000
set_option maxHeartbeats 4000000
/-! law. -/
namespace K3
open PySem PySem.Spec PyProof.Rows L2
open Evl (Ex)
def lawB (i : Nat) : List Stmt := (forB (nthS (defBody (topS 49)) 1)).drop i
theorem bk_chain : Bk 14 (chain 13) := by
  refine ⟨fun p hp => ?_, ?_⟩
  · obtain ⟨i, hi, rfl⟩ := List.mem_map.mp hp
    have z := List.mem_range.mp hi
    exact ⟨by show i < 14; omega, by show i + 1 < 14; omega, by show i ≠ i + 1; omega⟩
  · refine List.pairwise_map.mpr (List.pairwise_lt_range.imp fun {a b} h => .inl h)
theorem due_cases (dm dt : PyData) : dueD dm dt = .str "number" ∨ (∃ k, dueD dm dt = .tuple [.str "book", .int k]) ∨ dueD dm dt = .str "let" := by
  unfold dueD
  split
  · split
    · exact .inr (.inl ⟨_, rfl⟩)
    · exact .inr (.inr rfl)
  · exact .inl rfl
theorem word_due {wh : Nat} {dm dt dx : PyData} (h : wh < 3 ∨ dueD dm dt ≠ .str "let") : wordD wh dm dt dx = dueD dm dt := by
  cases hw : isWithinD 1 40 dm with
  | false =>
    unfold wordD dueD
    rw [hw]
  | true =>
    obtain ⟨n, rfl, _, _⟩ := within_int hw
    have eD : dueD (.int n) dt = (match firstWrong n dt with
      | some k => .tuple [.str "book", .int k]
      | none => .str "let") := by
      unfold dueD
      rw [hw] <;> rfl
    have eW : wordD wh (.int n) dt dx = (match firstWrong n dt with
      | some k => .tuple [.str "book", .int k]
      | none => if wh < 3 then .str "let" else if 14 < n then .tuple [.str "many", .int 14] else if wh = 3 then .str "let" else if isWithinD 0 (lastD n dt) dx then .str "let" else .str "number") := by
      unfold wordD
      rw [hw] <;> rfl
    rw [eW, eD]
    rw [eD] at h
    cases hf : firstWrong n dt with
    | some k => rfl
    | none =>
      rw [hf] at h
      rcases h with h | h
      · dsimp only
        rw [if_pos h]
      · exact absurd rfl h
theorem s_number : PyData.strOk (Str.ofString "number") = true := by decide +kernel
theorem s_book : PyData.strOk (Str.ofString "book") = true := by decide +kernel
theorem s_let : PyData.strOk (Str.ofString "let") = true := by decide +kernel
theorem s_many : PyData.strOk (Str.ofString "many") = true := by decide +kernel
theorem due_shaped {dm dt : PyData} : SeqAt.shaped (dueD dm dt) = true := by
  rcases due_cases dm dt with h | ⟨k, h⟩ | h <;> rw [h] <;> simp [SeqAt.shaped, PyData.canLay0, PyData.canLayAll0, PyData.depth, PyData.depthAll, s_number, s_book, s_let]
theorem due_refl {dm dt : PyData} : PyData.eqv (dueD dm dt) (dueD dm dt) = true := PySem.SeqAt.eqv_refl _ (SeqAt.canLay_of_shaped due_shaped)
theorem due_two_shaped {dm dt : PyData} : SeqAt.shaped (.list [dueD dm dt, dueD dm dt]) = true := by
  rcases due_cases dm dt with h | ⟨k, h⟩ | h <;> rw [h] <;> simp [SeqAt.shaped, PyData.canLay0, PyData.canLayAll0, PyData.depth, PyData.depthAll, s_number, s_book, s_let]
theorem due_two_refl {dm dt : PyData} : PyData.eqv (.list [dueD dm dt, dueD dm dt]) (.list [dueD dm dt, dueD dm dt]) = true := PySem.SeqAt.eqv_refl _ (SeqAt.canLay_of_shaped due_two_shaped)
def manyD : PyData := .tuple [.str "many", .int 14]
theorem many_two_shaped : SeqAt.shaped (.list [manyD, manyD]) = true := by
  simp [manyD, SeqAt.shaped, PyData.canLay0, PyData.canLayAll0, PyData.depth, PyData.depthAll, s_many]
theorem many_two_refl : PyData.eqv (.list [manyD, manyD]) (.list [manyD, manyD]) = true := PySem.SeqAt.eqv_refl _ (SeqAt.canLay_of_shaped many_two_shaped)
theorem let_shaped : SeqAt.shaped (.str "let") = true := by
  simp [SeqAt.shaped, PyData.canLay0, PyData.depth, s_let]
theorem due_let {dm dt : PyData} : (!PyData.eqv (dueD dm dt) (.str "let")) = true → dueD dm dt ≠ .str "let" := fun h e => by
  rw [e] at h
  simp [PyData.eqv] at h
section
variable {P : Program} {w : World} {K : PySem.W.Frag} {mg : Str → Option Value} {base : Heap} (T : Txt K mg)
-- law: 0 _law_script  1 _law_pool_here  2 _law_turn  3 _law_many  4 _law_book  5 _law_thing  6 _law_size  7 _law_due_here  8 _law_at  9 _law_which
theorem sc_law : FnScope ["_law_script", "_law_pool_here", "_law_turn", "_law_many", "_law_book", "_law_thing", "_law_size", "_law_due_here", "_law_at", "_law_which"] ["_law_script"] (defScope (topS 49)) := ⟨rfl, rfl, rfl, by decide +kernel, rfl, by decide +kernel, by decide +kernel⟩
def spLaw (K : PySem.W.Frag) : Sp := fun vs H Q _ => ∃ (a : Addr) (ns : List Int), vs = [.ref a] ∧ SqL K H a (ns.map V.int) ∧ ns.length ≤ 63 ∧ ∀ H', Q (.bl true) H'
theorem ok_law (Y : XTxt K mg) (Z : WTxt Y) : FnG P w K mg base 11 T.law.f T.law.fd ["_law_script"] (spLaw K) := by
  have G_law_draw : FnOk P w K mg base CX0 1 T.law_draw.f T.law_draw.fd ["_law_pool_here", "_law_many"] spDraw := ok_law_draw T
  have G_law_pool : FnOk P w K mg base CX0 1 T.law_pool.f T.law_pool.fd ["_law_script"] (spPool K) := ok_law_pool T
  have G_law_pairs : FnOk P w K mg base CX0 2 T.law_pairs.f T.law_pairs.fd ["_law_pool_here", "_law_many", "_law_most"] (spPairs K) := ok_law_pairs T
  have G_law_bent : FnOk P w K mg base CX0 2 T.law_bent.f T.law_bent.fd ["_law_pool_here", "_law_many", "_law_book"] (spBent K) := ok_law_bent T
  have G_law_due : FnOk P w K mg base CX0 2 T.law_due.f T.law_due.fd ["_law_many", "_law_thing"] (spDue K) := ok_law_due T
  have G_count_orders : FnOk P w K mg base (L2.CX P w) 7 T.count_orders.f T.count_orders.fd ["many", "book"] (spCount Y) := ok_count_orders T Y
  have G_law_word : FnOk P w K mg base CX0 9 T.law_word.f T.law_word.fd ["_law_which", "_law_many", "_law_thing", "_law_more"] (spWord K) := ok_law_word T Y Z
  have G_law_told_right : FnG P w K mg base 8 T.law_told_right.f T.law_told_right.fd ["_law_pool_here", "_law_many", "_law_book"] (spTold K) := ok_law_told_right T Y
  have G_law_orders_right : FnG P w K mg base 10 T.law_orders_right.f T.law_orders_right.fd ["_law_pool_here", "_law_many", "_law_book"] (spOrdR K) := ok_law_orders_right T Y Z
  refine okG T.law.F sc_law (fun vs H Q E h => ?_) (fun cdv A outer s H vs Q E hr hgu h => ?_)
  · obtain ⟨a, ns, rfl, _⟩ := h
    rfl
  · obtain ⟨a, ns, rfl, hs, hl, q⟩ := h
    -- from the bent book on
    obtain ⟨tr7, d7, q7⟩ : ∃ t, PSs (cxOf CX0 P w K mg base ["_law_script", "_law_pool_here", "_law_turn", "_law_many", "_law_book", "_law_thing", "_law_size", "_law_due_here", "_law_at", "_law_which"] "law" (defScope (topS 49)) T.law.f cdv A outer s H E).nox (lawB 7) t ∧
        ∀ (D : Ends) (σ : L2.St) (p c : Addr) (m : Nat) (b : Addr) (B : Edges) (H2 : Hp), (∃ y2 y5 y6 y7 y8 y9, σ = [some (.ref a), some (.ref p), y2, some (iV m), some (.ref b), y5, y6, y7, y8, y9]) → 1 ≤ m → m ≤ 40 → PoolAt H2 p c → Bk m B → B.length ≤ 9 → Dp K (cut p c H2) (.ref b) (.tuple (B.map pD)) →
          (∀ σ' H', (∃ y2 y3 y4 y5 y6 y7 y8 y9, σ' = [some (.ref a), some (.ref p), y2, y3, y4, y5, y6, y7, y8, y9]) → PoolAt H' p c → D.nx σ' H') → t D σ H2 := by
      refine ⟨_, (pss_cons (ps_set (i := 5) sc_law.nd rfl (.inr rfl) (pe_call G_law_bent (hr.mono (by decide)) (by rfl) T.law_bent.g T.law_bent.F.kp T.law_bent.b .nil pass0 (pa_cons (pv 1) (pa_cons (pv 3) (pa_cons (pv 4) pa_nil)))))
    (pss_cons (ps_set (i := 6) sc_law.nd rfl (.inr rfl) (pe_ix ix_list (pe_lst (pa_cons (pv 3) (pa_cons (pv 3) (pa_cons (pv 3) (pa_cons pe_int (pa_cons pe_int (pa_cons pe_bl (pa_cons pe_non (pa_cons pe_str pa_nil))))))))) (pe_call G_law_draw (hr.mono (by decide)) (by rfl) T.law_draw.g T.law_draw.F.kp T.law_draw.b .nil pass0 (pa_cons (pv 1) (pa_cons pe_int pa_nil))) (fun _ _ => rfl)))
    (pss_cons (ps_set (i := 7) sc_law.nd rfl (.inr rfl) (pe_call G_law_due (hr.mono (by decide)) (by rfl) T.law_due.g T.law_due.F.kp T.law_due.b .nil pass0 (pa_cons (pv 6) (pa_cons (pv 5) pa_nil))))
    (pss_cons (ps_if (pt_not (pt_val (pe_callB (cr_all rfl) (by rfl) T.m_all boot_all (pa_cons (pe_lc (own := [("_law_which", 9)]) rfl sc_law.nd (pi_range1 (by rfl) T.m_range (pa_cons pe_int pa_nil)) (blkOk_by (own := [("_law_which", 9)]) (N := ["_law_script", "_law_pool_here", "_law_turn", "_law_many", "_law_book", "_law_thing", "_law_size", "_law_due_here", "_law_at", "_law_which"]) (sc := defScope (topS 49)) (by decide +kernel)) (fun _ _ _ _ _ => (pg_name (i := 9) sc_law.nd rfl (.inl rfl))) (fun _ _ _ _ _ => pts_nil) (fun _ _ _ _ _ => (pe_cmpR (r := rEqD K) (op_eqD hr.units) (pe_call G_law_word (hr.mono (by decide)) (by rfl) T.law_word.g T.law_word.F.kp T.law_word.b .nil pass0 (pa_cons (pv 9) (pa_cons (pv 6) (pa_cons (pv 5) (pa_cons pe_int pa_nil))))) (pv 7) (nomark _)))) pa_nil)))) (pss_one (ps_ret pe_bl)) pss_nil)
    (pss_one (ps_if (PW.pt (pw_and (pt_cmpR (op_neD hr.units) (pv 7) pe_str (nomark _)) (pw_and1 (pt_cmpR (op_neD hr.units) (pe_lst (pa_cons (pe_call G_law_word (hr.mono (by decide)) (by rfl) T.law_word.g T.law_word.F.kp T.law_word.b .nil pass0 (pa_cons pe_int (pa_cons (pv 6) (pa_cons (pv 5) (pa_cons pe_int pa_nil))))) (pa_cons (pe_call G_law_word (hr.mono (by decide)) (by rfl) T.law_word.g T.law_word.F.kp T.law_word.b .nil pass0 (pa_cons pe_int (pa_cons (pv 6) (pa_cons (pv 5) (pa_cons pe_int pa_nil))))) pa_nil))) (pe_lst (pa_cons (pv 7) (pa_cons (pv 7) pa_nil))) (nomark _))))) (pss_one (ps_ret pe_bl)) pss_nil)))))), ?_⟩
      rintro D σ p c m b B H2 ⟨y2, y5, y6, y7, y8, y9, rfl⟩ m1 m2 hp hbk hBl hb hD
      refine ⟨_, rfl, _, rfl, _, rfl, p, c, m, b, B, rfl, hp, m1, by omega, hb, fun v d H3 hp3 e3 hdx hld => ?_⟩
      refine ⟨_, rfl, _, rfl, _, rfl, by simp [sizeLine_eq], fun L hL => ?_⟩
      have nL := hp3.p1 hL
      refine ⟨_, rfl, p, c, 8, rfl, hp3.upd nL.1 nL.2, by decide, by decide, fun d1 H4 hd1 hp4 e4 => ?_⟩
      obtain ⟨os, eos⟩ : ∃ os : List V, os = [iV m, iV m, iV m, V.int 0, V.int 41, V.bl true, V.non, V.str "3"] := ⟨_, rfl⟩
      have hL4 : H4 L = some (.lst os) := by
        rw [eos]
        exact ex_cut_get e4 upd_same nL.1 nL.2
      obtain ⟨vm, hvm⟩ : ∃ v, os[d1]? = some v := ⟨_, List.getElem?_eq_getElem (by rw [eos]; exact hd1)⟩
      obtain ⟨dm, hdm⟩ : ∃ dm, ∀ H', Dx K H' vm dm := by
        have hm := List.mem_of_getElem? hvm
        rw [eos] at hm
        simp only [List.mem_cons, List.not_mem_nil, or_false] at hm
        rcases hm with z | z | z | z | z | z | z | z
        · exact z ▸ ⟨_, fun H' => .inl (.int _)⟩
        · exact z ▸ ⟨_, fun H' => .inl (.int _)⟩
        · exact z ▸ ⟨_, fun H' => .inl (.int _)⟩
        · exact z ▸ ⟨_, fun H' => .inl (.int _)⟩
        · exact z ▸ ⟨_, fun H' => .inl (.int _)⟩
        · exact z ▸ ⟨_, fun H' => .inl (.bl _)⟩
        · exact z ▸ ⟨_, fun H' => .inl .non⟩
        · exact z ▸ ⟨_, fun H' => .inl (.str _)⟩
      refine ⟨L, os, (d1 : Int), vm, rfl, rfl, SqL.of hL4, atI_nat hvm, ?_⟩
      have e34 : Ex (cut p c H3) (cut p c H4) := (cut_ex (Ex.new hL)).trans e4
      have hv4 : Dx K H4 v d := (hdx.ex e34).ex cut_le
      have h0x : ∀ {H' : Hp}, Dx K H' (V.int 0) (.int 0) := fun {H'} => .inl (.int 0)
      refine ⟨_, rfl, _, rfl, vm, dm, v, d, rfl, hdm _, hv4, hld, fun u H5 e5 hu => ?_⟩
      refine ⟨3, rfl, by decide, by decide, fun D2 hD2 => ?_⟩
      refine lc_range (lo := 0) (n := 3) (fun i H6 => Ex H5 H6 ∧ H6 D2 = some (.lst ((List.replicate i true).map V.bl))) ⟨Ex.new hD2, upd_same⟩ (fun i H6 hi pp => ?_) (fun H6 pp => ?_)
      · obtain ⟨e6, hac⟩ := pp
        have hi3 : i < 3 := hi
        have z0 : V.int (0 + (i : Int)) = iV i := by
          rw [Int.zero_add]
          rfl
        rw [z0]
        refine ⟨rfl, yes_go ⟨_, rfl, _, rfl, _, rfl, i, vm, dm, v, d, V.int 0, .int 0, rfl, by omega, hdm _, hv4.ex (e5.trans e6), h0x, hld, Nat.zero_le _, fun u2 H7 e7 hu2 => ?_⟩⟩
        rw [word_due (.inl hi3)] at hu2
        refine ⟨_, rfl, _, _, hu2, dp_ex (e6.trans e7) _ _ hu, due_shaped, due_shaped, ?_⟩
        rw [due_refl]
        refine ⟨_, e7 _ _ hac, ?_, Ex.mut (e6.trans e7) hD2, ?_⟩
        · rw [List.length_map, List.length_replicate, sizeLine_eq]
          omega
        · rw [upd_same, List.replicate_succ', List.map_append]
          rfl
      · obtain ⟨e6, hac⟩ := pp
        refine ⟨D2, _, rfl, SqL.of hac, _, rfl, bran (fun z => nomatch z) (fun _ => ?_)⟩
        have hp6 := (hp4.ex e5).ex e6
        have hu6 := dp_ex e6 _ _ hu
        refine ⟨_, rfl, _, _, hu6, .str _, due_shaped, let_shaped, _, rfl, bran (fun hne => ?_) (fun _ => hD _ _ ⟨_, _, _, _, _, _, _, _, rfl⟩ hp6)⟩
        have hnl := due_let hne
        refine ⟨_, rfl, _, rfl, 3, vm, dm, v, d, V.int 0, .int 0, rfl, by decide, hdm _, hv4.ex (e5.trans e6), h0x, hld, Nat.zero_le _, fun u3 H7 e7 hu3 => ?_⟩
        refine ⟨_, rfl, _, rfl, 4, vm, dm, v, d, V.int 0, .int 0, rfl, by decide, hdm _, hv4.ex ((e5.trans e6).trans e7), h0x, hld, Nat.zero_le _, fun u4 H8 e8 hu4 => ?_⟩
        rw [word_due (.inr hnl)] at hu3 hu4
        refine ⟨by simp [sizeLine_eq], fun L1 hL1 => ⟨_, rfl, _, rfl, by simp [sizeLine_eq], fun L2 hL2 => ?_⟩⟩
        have f1 := (Ex.new (o := .lst [u3, u4]) hL1).trans (Ex.new (o := .lst [u, u]) hL2)
        refine ⟨_, _, .lst (SqL.of ((Ex.new hL2) _ _ upd_same)) (.cons (dp_ex (e8.trans f1) _ _ hu3) (.cons (dp_ex f1 _ _ hu4) .nil)), .lst (SqL.of upd_same) (.cons (dp_ex ((e7.trans e8).trans f1) _ _ hu6) (.cons (dp_ex ((e7.trans e8).trans f1) _ _ hu6) .nil)), due_two_shaped, due_two_shaped, ?_⟩
        rw [due_two_refl]
        exact ⟨_, rfl, bran (fun z => nomatch z) (fun _ => hD _ _ ⟨_, _, _, _, _, _, _, _, rfl⟩ (hp6.ex ((e7.trans e8).trans f1)))⟩
    -- from the test for more than fourteen on
    obtain ⟨tr6, d6, q6⟩ : ∃ t, PSs (cxOf CX0 P w K mg base ["_law_script", "_law_pool_here", "_law_turn", "_law_many", "_law_book", "_law_thing", "_law_size", "_law_due_here", "_law_at", "_law_which"] "law" (defScope (topS 49)) T.law.f cdv A outer s H E).nox (lawB 6) t ∧
        ∀ (D : Ends) (σ : L2.St) (p c : Addr) (m : Nat) (b : Addr) (B : Edges) (H2 : Hp), (∃ y2 y5 y6 y7 y8 y9, σ = [some (.ref a), some (.ref p), y2, some (iV m), some (.ref b), y5, y6, y7, y8, y9]) → 1 ≤ m → m ≤ 40 → PoolAt H2 p c → Bk m B → B.length ≤ 9 → Dp K (cut p c H2) (.ref b) (.tuple (B.map pD)) →
          (∀ σ' H', (∃ y2 y3 y4 y5 y6 y7 y8 y9, σ' = [some (.ref a), some (.ref p), y2, y3, y4, y5, y6, y7, y8, y9]) → PoolAt H' p c → D.nx σ' H') → t D σ H2 := by
      refine ⟨_, (pss_cons (ps_if (PW.pt (pw_and (pt_cmpR op_gt (pv 3) pe_int (nomark _)) (pw_and1 (pt_cmpR (op_neD hr.units) (pe_lst (pa_cons (pe_call G_law_word (hr.mono (by decide)) (by rfl) T.law_word.g T.law_word.F.kp T.law_word.b .nil pass0 (pa_cons pe_int (pa_cons (pv 3) (pa_cons (pv 4) (pa_cons pe_int pa_nil))))) (pa_cons (pe_call G_law_word (hr.mono (by decide)) (by rfl) T.law_word.g T.law_word.F.kp T.law_word.b .nil pass0 (pa_cons pe_int (pa_cons (pv 3) (pa_cons (pv 4) (pa_cons pe_non pa_nil))))) pa_nil))) (pe_op op_rep (pe_lst (pa_cons (pe_tup (pa_cons pe_str (pa_cons pe_int pa_nil))) pa_nil)) pe_int) (nomark _))))) (pss_one (ps_ret pe_bl)) pss_nil)
    d7), ?_⟩
      rintro D σ p c m b B H2 ⟨y2, y5, y6, y7, y8, y9, rfl⟩ m1 m2 hp hbk hBl hb hD
      have hbx : ∀ {H' : Hp}, Ex H2 H' → Dx K H' (.ref b) (.tuple (B.map pD)) := fun e => .inl (dp_ex e _ _ (dp_ex cut_le _ _ hb))
      have hmx : ∀ {H' : Hp}, Dx K H' (iV m) (.int (m : Int)) := fun {H'} => .inl (.int _)
      have hlB : lenD (.tuple (B.map pD)) ≤ 1000 := by
        show (B.map pD).length ≤ 1000
        rw [List.length_map]
        omega
      have R : RightB (.int (m : Int)) (.tuple (B.map pD)) m B := ⟨rfl, m1, m2, rfl, hbk, by omega⟩
      refine ⟨_, rfl, _, _, rfl, rfl, _, rfl, bran (fun h14 => ?_) (fun _ => q7 D _ p c m b B H2 ⟨_, _, _, _, _, _, rfl⟩ m1 m2 hp hbk hBl hb hD)⟩
      have hm14 : 14 < (m : Int) := of_decide_eq_true h14
      have ew : ∀ wh dx, 3 ≤ wh → wordD wh (.int (m : Int)) (.tuple (B.map pD)) dx = manyD := fun wh dx h3 => by
        obtain ⟨h1, h2⟩ := bk_pairs R
        unfold wordD
        rw [h2]
        dsimp only
        rw [h1]
        dsimp only
        rw [if_neg (by omega), if_pos hm14]
        rfl
      refine ⟨_, rfl, _, rfl, 3, iV m, .int (m : Int), .ref b, .tuple (B.map pD), V.int 0, .int 0, rfl, by decide, hmx, hbx (Ex.refl _), .inl (.int 0), hlB, Nat.zero_le _, fun u3 H3 e3 hu3 => ?_⟩
      refine ⟨_, rfl, _, rfl, 4, iV m, .int (m : Int), .ref b, .tuple (B.map pD), V.non, .none, rfl, by decide, hmx, hbx e3, .inl .non, hlB, Nat.zero_le _, fun u4 H4 e4 hu4 => ?_⟩
      rw [ew 3 _ (by decide)] at hu3
      rw [ew 4 _ (by decide)] at hu4
      refine ⟨by simp [sizeLine_eq], fun L1 hL1 => ⟨by simp [sizeLine_eq], fun t1 ht1 => ⟨by simp [sizeLine_eq], fun L2 hL2 => ?_⟩⟩⟩
      refine ⟨L2, 2, [.ref t1], rfl, rfl, upd_same, by decide, by decide, by simp [sizeLine_eq], fun L3 hL3 => ?_⟩
      have f3 := Ex.new (o := .lst (List.replicate (2 : Int).toNat [V.ref t1]).flatten) hL3
      have f2 := (Ex.new (o := .lst [.ref t1]) hL2).trans f3
      have f1 := (Ex.new (o := .tup [.str "many", .int 14]) ht1).trans f2
      have f0 := (Ex.new (o := .lst [u3, u4]) hL1).trans f1
      have hmd : Dp K _ (.ref t1) manyD := .tup (Evl.ex_t f2 (SqT.of upd_same)) (.cons (.str _) (.cons (.int _) .nil))
      refine ⟨_, _, .lst (SqL.of (f1 _ _ upd_same)) (.cons (dp_ex (e4.trans f0) _ _ hu3) (.cons (dp_ex f0 _ _ hu4) .nil)), .lst (SqL.of upd_same) (.cons hmd (.cons hmd .nil)), many_two_shaped, many_two_shaped, ?_⟩
      rw [many_two_refl]
      have e5 := (e3.trans e4).trans f0
      exact ⟨_, rfl, bran (fun z => nomatch z) (fun _ => q7 D _ p c m b B _ ⟨_, _, _, _, _, _, rfl⟩ m1 m2 (hp.ex e5) hbk hBl (dp_ex (cut_ex e5) _ _ hb) hD)⟩
    -- from the test for fourteen on
    obtain ⟨tr5, d5, q5⟩ : ∃ t, PSs (cxOf CX0 P w K mg base ["_law_script", "_law_pool_here", "_law_turn", "_law_many", "_law_book", "_law_thing", "_law_size", "_law_due_here", "_law_at", "_law_which"] "law" (defScope (topS 49)) T.law.f cdv A outer s H E).nox (lawB 5) t ∧
        ∀ (D : Ends) (σ : L2.St) (p c : Addr) (m : Nat) (b : Addr) (B : Edges) (H2 : Hp), (∃ y2 y5 y6 y7 y8 y9, σ = [some (.ref a), some (.ref p), y2, some (iV m), some (.ref b), y5, y6, y7, y8, y9]) → 1 ≤ m → m ≤ 40 → PoolAt H2 p c → Bk m B → B.length ≤ 9 → Dp K (cut p c H2) (.ref b) (.tuple (B.map pD)) →
          (∀ σ' H', (∃ y2 y3 y4 y5 y6 y7 y8 y9, σ' = [some (.ref a), some (.ref p), y2, y3, y4, y5, y6, y7, y8, y9]) → PoolAt H' p c → D.nx σ' H') → t D σ H2 := by
      refine ⟨_, (pss_cons (ps_if (PW.pt (pw_and (pt_cmpR op_eq (pv 3) pe_int (nomark _)) (pw_and1 (PW.pt (pw_or (pt_cmpR op_ne (pe_call G_count_orders (hr.mono (by decide)) (by rfl) T.count_orders.g T.count_orders.F.kp T.count_orders.b .nil passL (pa_cons pe_int (pa_cons (pe_callTy call_tuple_of (by rfl) T.m_tuple boot_tuple (pa_cons (pe_lc (own := [("_law_at", 8)]) rfl sc_law.nd (pi_range1 (by rfl) T.m_range (pa_cons pe_int pa_nil)) (blkOk_by (own := [("_law_at", 8)]) (N := ["_law_script", "_law_pool_here", "_law_turn", "_law_many", "_law_book", "_law_thing", "_law_size", "_law_due_here", "_law_at", "_law_which"]) (sc := defScope (topS 49)) (by decide +kernel)) (fun _ _ _ _ _ => (pg_name (i := 8) sc_law.nd rfl (.inl rfl))) (fun _ _ _ _ _ => pts_nil) (fun _ _ _ _ _ => (pe_tup (pa_cons (pv 8) (pa_cons (pe_op op_add (pv 8) pe_int) pa_nil))))) pa_nil)) pa_nil))) pe_int (nomark _)) (pw_or1 (pt_cmpR op_ne (pe_call G_count_orders (hr.mono (by decide)) (by rfl) T.count_orders.g T.count_orders.F.kp T.count_orders.b .nil passL (pa_cons pe_int (pa_cons (pe_tup pa_nil) pa_nil))) pe_int (nomark _)))))))) (pss_one (ps_ret pe_bl)) pss_nil)
    d6), ?_⟩
      rintro D σ p c m b B H2 ⟨y2, y5, y6, y7, y8, y9, rfl⟩ m1 m2 hp hbk hBl hb hD
      refine ⟨_, rfl, rfl, _, rfl, bran (fun h14 => ?_) (fun _ => q6 D _ p c m b B H2 ⟨_, _, _, _, _, _, rfl⟩ m1 m2 hp hbk hBl hb hD)⟩
      have R1 : RightB (.int ((14 : Nat) : Int)) (.tuple ((chain 13).map pD)) 14 (chain 13) := ⟨rfl, by decide, by decide, rfl, bk_chain, by decide⟩
      have R2 : RightB (.int ((14 : Nat) : Int)) (.tuple (([] : Edges).map pD)) 14 [] := ⟨rfl, by decide, by decide, rfl, ⟨fun p hp => (by cases hp), .nil⟩, by decide⟩
      refine ⟨13, rfl, by decide, by decide, fun D2 hD2 => ?_⟩
      refine lc_range (lo := 0) (n := 13) (fun i H3 => Ex H2 H3 ∧ ∃ acc, H3 D2 = some (.lst acc) ∧ acc.length = i ∧ DpAll K H3 acc (((List.range i).map fun k => (k, k + 1)).map pD)) ⟨Ex.new hD2, [], upd_same, rfl, .nil⟩ (fun i H3 hi pp => ?_) (fun H3 pp => ?_)
      · obtain ⟨e3, acc, hac, hal, hA⟩ := pp
        have z0 : V.int (0 + (i : Int)) = iV i := by
          rw [Int.zero_add]
          rfl
        rw [z0]
        refine ⟨rfl, yes_go ⟨_, rfl, _, rfl, _, _, rfl, rfl, by simp [sizeLine_eq], fun t ht => ?_⟩⟩
        have hDt : D2 ≠ t := Ne.symm (ne_of_fresh ht hac)
        have hac2 : (upd H3 t (.tup [iV i, iV (i + 1)])) D2 = some (.lst acc) := by
          rw [upd_ne hDt]
          exact hac
        refine ⟨acc, hac2, by rw [sizeLine_eq]; omega, Ex.mut (e3.trans (Ex.new ht)) hD2, acc ++ [.ref t], upd_same, by rw [List.length_append, hal]; rfl, ?_⟩
        have tx1 : Tx (upd H3 t (.tup [iV i, iV (i + 1)])) (upd (upd H3 t (.tup [iV i, iV (i + 1)])) D2 (.lst (acc ++ [.ref t]))) := Tx.mut hac2
        have hti : SqT K (upd H3 t (.tup [iV i, iV (i + 1)])) t [iV i, iV (i + 1)] := SqT.of upd_same
        rw [List.range_succ, List.map_append, List.map_append]
        exact dpAll_snoc (dpAll_pD_tx ((Tx.of (Ex.new ht)).trans tx1) hA) (dp_pD_tx (p := (i, i + 1)) tx1 (.tup hti (.cons (.int _) (.cons (.int _) .nil))))
      · obtain ⟨e3, acc, hac, hal, hA⟩ := pp
        refine ⟨D2, acc, rfl, .inl ⟨SqL.of hac, fun t1 ht1 => ?_⟩⟩
        have hdt : Dx K (upd H3 t1 (.tup acc)) (.ref t1) (.tuple ((chain 13).map pD)) := .inl (.tup (SqT.of upd_same) (dpAll_ex (Ex.new ht1) _ _ hA))
        refine ⟨V.int 14, .int ((14 : Nat) : Int), .ref t1, .tuple ((chain 13).map pD), rfl, .inl (.int _), hdt, by decide, no_err Y R1, fun n' B' R' => ?_⟩
        obtain ⟨rfl, rfl⟩ := right_inj R'
        refine ⟨fun z => absurd z (by decide), fun _ H4 e4 => ?_⟩
        rw [fourteen_chain]
        refine ⟨rfl, _, rfl, bran (fun z => nomatch z) (fun _ => ?_)⟩
        refine ⟨by simp [sizeLine_eq], fun t2 ht2 => ?_⟩
        have hdt2 : Dx K (upd H4 t2 (.tup [])) (.ref t2) (.tuple (([] : Edges).map pD)) := .inl (.tup (SqT.of upd_same) .nil)
        refine ⟨V.int 14, .int ((14 : Nat) : Int), .ref t2, .tuple (([] : Edges).map pD), rfl, .inl (.int _), hdt2, by decide, no_err Y R2, fun n' B' R' => ?_⟩
        obtain ⟨rfl, rfl⟩ := right_inj R'
        refine ⟨fun z => absurd z (by decide), fun _ H5 e5 => ?_⟩
        rw [fourteen_empty]
        have e6 := (((e3.trans (Ex.new (o := .tup acc) ht1)).trans e4).trans (Ex.new (o := .tup []) ht2)).trans e5
        exact ⟨rfl, _, rfl, bran (fun z => nomatch z) (fun _ => q6 D _ p c m b B _ ⟨_, _, _, _, _, _, rfl⟩ m1 m2 (hp.ex e6) hbk hBl (dp_ex (cut_ex e6) _ _ hb) hD)⟩
    -- from the drawn book on
    obtain ⟨tr2, d2, q2⟩ : ∃ t, PSs (cxOf CX0 P w K mg base ["_law_script", "_law_pool_here", "_law_turn", "_law_many", "_law_book", "_law_thing", "_law_size", "_law_due_here", "_law_at", "_law_which"] "law" (defScope (topS 49)) T.law.f cdv A outer s H E).nox (lawB 2) t ∧
        ∀ (D : Ends) (σ : L2.St) (p c : Addr) (m : Nat) (H2 : Hp), (∃ y2 y4 y5 y6 y7 y8 y9, σ = [some (.ref a), some (.ref p), y2, some (iV m), y4, y5, y6, y7, y8, y9]) → 1 ≤ m → m ≤ 40 → PoolAt H2 p c →
          (∀ σ' H', (∃ y2 y3 y4 y5 y6 y7 y8 y9, σ' = [some (.ref a), some (.ref p), y2, y3, y4, y5, y6, y7, y8, y9]) → PoolAt H' p c → D.nx σ' H') → t D σ H2 := by
      refine ⟨_, (pss_cons (ps_set (i := 4) sc_law.nd rfl (.inl rfl) (pe_call G_law_pairs (hr.mono (by decide)) (by rfl) T.law_pairs.g T.law_pairs.F.kp T.law_pairs.b .nil pass0 (pa_cons (pv 1) (pa_cons (pv 3) (pa_cons pe_int pa_nil)))))
    (pss_cons (ps_if (pt_not (pt_val (pe_callG G_law_told_right (hr.mono (by decide)) hgu (by rfl) T.law_told_right.g T.law_told_right.F.kp T.law_told_right.b (pa_cons (pv 1) (pa_cons (pv 3) (pa_cons (pv 4) pa_nil)))))) (pss_one (ps_ret pe_bl)) pss_nil)
    (pss_cons (ps_if (PW.pt (pw_and (pt_cmpR op_lt (pv 3) pe_int (nomark _)) (pw_and1 (pt_not (pt_val (pe_callG G_law_orders_right (hr.mono (by decide)) hgu (by rfl) T.law_orders_right.g T.law_orders_right.F.kp T.law_orders_right.b (pa_cons (pv 1) (pa_cons (pv 3) (pa_cons (pv 4) pa_nil))))))))) (pss_one (ps_ret pe_bl)) pss_nil)
    d5))), ?_⟩
      rintro D σ p c m H2 ⟨y2, y4, y5, y6, y7, y8, y9, rfl⟩ m1 m2 hp hD
      refine ⟨_, rfl, _, rfl, p, c, m, 9, rfl, hp, m1, m2, by decide, fun b B H3 hp3 e3 hb hbk hBl => ?_⟩
      refine ⟨_, rfl, _, rfl, _, rfl, p, c, m, b, B, rfl, hp3, m1, m2, hbk, by omega, hb, fun H4 hp4 e4 => ⟨_, rfl, bran (fun z => nomatch z) (fun _ => ?_)⟩⟩
      have hb4 := dp_ex e4 _ _ hb
      refine ⟨_, rfl, _, _, rfl, rfl, _, rfl, bran (fun h7 => ?_) (fun _ => q5 D _ p c m b B H4 ⟨_, _, _, _, _, _, rfl⟩ m1 m2 hp4 hbk hBl hb4 hD)⟩
      have hm7 : (m : Int) < 7 := of_decide_eq_true h7
      refine ⟨_, rfl, _, rfl, _, rfl, p, c, m, b, B, rfl, hp4, m1, by omega, hbk, by omega, hb4, fun H5 hp5 e5 => ⟨_, rfl, bran (fun z => nomatch z) (fun _ => ?_)⟩⟩
      exact q5 D _ p c m b B H5 ⟨_, _, _, _, _, _, rfl⟩ m1 m2 hp5 hbk hBl (dp_ex e5 _ _ hb4) hD
    refine ⟨_, (pss_cons (ps_set (i := 1) sc_law.nd rfl (.inl rfl) (pe_call G_law_pool (hr.mono (by decide)) (by rfl) T.law_pool.g T.law_pool.F.kp T.law_pool.b .nil pass0 (pa_cons (pv 0) pa_nil)))
    (pss_cons (ps_for PassesOwn.never rfl (pi_range1 (by rfl) T.m_range (pa_cons pe_int pa_nil)) (pg_name (i := 2) sc_law.nd rfl (.inl rfl)) (pss_cons (ps_set (i := 3) sc_law.nd rfl (.inl rfl) (pe_op op_add pe_int (pe_call G_law_draw (hr.mono (by decide)) (by rfl) T.law_draw.g T.law_draw.F.kp T.law_draw.b .nil pass0 (pa_cons (pv 1) (pa_cons pe_int pa_nil)))))
    (pss_cons (ps_if (PW.pt (pw_and (pt_cmpR op_eq (pv 2) pe_int (nomark _)) (pw_and1 (pt_cmpR op_eq (pe_call G_law_draw (hr.mono (by decide)) (by rfl) T.law_draw.g T.law_draw.F.kp T.law_draw.b .nil pass0 (pa_cons (pv 1) (pa_cons pe_int pa_nil))) pe_int (nomark _))))) (pss_one (ps_set (i := 3) sc_law.nd rfl (.inl rfl) (pe_ix ix_list (pe_lst (pa_cons pe_int (pa_cons pe_int (pa_cons pe_int pa_nil)))) (pe_call G_law_draw (hr.mono (by decide)) (by rfl) T.law_draw.g T.law_draw.F.kp T.law_draw.b .nil pass0 (pa_cons (pv 1) (pa_cons pe_int pa_nil))) (fun _ _ => rfl)))) pss_nil)
    d2)))
    (pss_one (ps_ret pe_bl)))), ?_⟩
    refine ⟨_, rfl, a, ns, rfl, hs, hl, fun p c H1 e1 hpn hcn hp => ?_⟩
    refine ⟨4, rfl, by decide, by decide, ?_⟩
    refine for_range (lo := 0) (n := 4) (fun i σ H2 => (∃ y2 y3 y4 y5 y6 y7 y8 y9, σ = [some (.ref a), some (.ref p), y2, y3, y4, y5, y6, y7, y8, y9]) ∧ PoolAt H2 p c) ⟨⟨_, _, _, _, _, _, _, _, rfl⟩, hp⟩ (fun i σ H2 hi pp => ?_) (fun σ H2 pp => q H2)
    obtain ⟨⟨y2, y3, y4, y5, y6, y7, y8, y9, rfl⟩, hp2⟩ := pp
    refine ⟨_, rfl, p, c, 6, rfl, hp2, by decide, by decide, fun d1 H3 hd1 hp3 e3 => ⟨_, _, rfl, rfl, ?_⟩⟩
    refine ⟨_, rfl, rfl, _, rfl, bran (fun h0 => ?_) (fun _ => q2 _ _ p c (1 + d1) H3 ⟨_, _, _, _, _, _, _, rfl⟩ (by omega) (by omega) hp3 (fun σ' H' z1 z2 => ⟨z1, z2⟩))⟩
    refine ⟨_, rfl, p, c, 40, rfl, hp3, by decide, by decide, fun d2 H4 hd2 hp4 e4 => ⟨rfl, _, rfl, bran (fun h1 => ?_) (fun _ => q2 _ _ p c (1 + d1) H4 ⟨_, _, _, _, _, _, _, rfl⟩ (by omega) (by omega) hp4 (fun σ' H' z1 z2 => ⟨z1, z2⟩))⟩⟩
    refine ⟨by simp [sizeLine_eq], fun L hL => ?_⟩
    have nL := hp4.p1 hL
    refine ⟨_, rfl, p, c, 3, rfl, hp4.upd nL.1 nL.2, by decide, by decide, fun d3 H5 hd3 hp5 e5 => ?_⟩
    obtain ⟨os, eos⟩ : ∃ os : List V, os = [V.int 14, V.int 15, V.int 40] := ⟨_, rfl⟩
    have hL5 : H5 L = some (.lst os) := by
      rw [eos]
      exact ex_cut_get e5 upd_same nL.1 nL.2
    obtain ⟨v, hv⟩ : ∃ v, os[d3]? = some v := ⟨_, List.getElem?_eq_getElem (by rw [eos]; exact hd3)⟩
    obtain ⟨m, em, m1, m2⟩ : ∃ m : Nat, v = iV m ∧ 1 ≤ m ∧ m ≤ 40 := by
      have hm := List.mem_of_getElem? hv
      rw [eos] at hm
      simp only [List.mem_cons, List.not_mem_nil, or_false] at hm
      rcases hm with z | z | z
      · exact ⟨14, z, by decide, by decide⟩
      · exact ⟨15, z, by decide, by decide⟩
      · exact ⟨40, z, by decide, by decide⟩
    subst em
    exact ⟨L, os, (d3 : Int), _, rfl, rfl, SqL.of hL5, atI_nat hv, q2 _ _ p c m H5 ⟨_, _, _, _, _, _, _, rfl⟩ m1 m2 hp5 (fun σ' H' z1 z2 => ⟨z1, z2⟩)⟩
end
end K3
set_option Elab.async false
set_option linter.all false
set_option maxRecDepth 100000
set_option maxHeartbeats 4000000
/-! The law's call with no guard standing; from the written part to what the walks ask. -/
namespace K3
open PySem PySem.Spec PyProof.Rows L2
open Evl (Ex)
theorem law_callG {P : Program} {w : World} {K : PySem.W.Frag} {mg mb : Str → Option Value} {k : Nat} {fa a : Addr} {fd : FuncData} {x : Str} {sp : Sp} {s₁ : Shared} {vs : List Value} {ns : List Int}
    (KX : K.In s₁.heap) (hns : s₁.heap.Ns mainGlobals mg) (hb : s₁.heap.Ns builtinsNs mb) (hbb : ∀ x : Str, x ≠ "__name__" → mb x = bootBuiltins x) (hlim : s₁.heap.NoLimit) (hg : s₁.gens = #[])
    (ha : s₁.heap.get? a = some { cls := .type "list", data := .seq vs.toArray }) (hi : IntsAre vs ns) (hl : ns.length ≤ sizeLine) (hr : Room k callerA)
    (F : ∀ base : Heap, K.In base → base.Ns mainGlobals mg → FnG P w K mg base k fa fd [x] sp) (hbind : Binds K fd [x] [])
    (hsp : ∀ H : Hp, SqL K H a (ns.map V.int) → sp [.ref a] H (fun v _ => v = .bl true) fun _ _ _ => False) :
    codeAny (model P w) callerA (.call (.ref fa) ⟨[.ref a], []⟩) (fun r s' => r = .ok (.ret (.bool true)) ∧ OldK s₁.heap s'.heap ∧ s'.os = s₁.os ∧ AllBare s'.gens) s₁ := by
  have rv := vals_ints hi
  have lenV := hi.length
  have hbd : BindsTo s₁ fd ⟨[.ref a], []⟩ [(x, .ref a)] := by
    have z := hbind s₁ [.ref a] KX rfl
    simpa using z
  have core : ∀ H : Hp, Only H → SqL K H a (ns.map V.int) → HOk P w H s₁.heap → (∀ b, H b ≠ none → b = a) → (H a ≠ none → K.lookup a = none) →
      codeAny (model P w) callerA (.call (.ref fa) ⟨[.ref a], []⟩) (fun r s' => r = .ok (.ret (.bool true)) ∧ OldK s₁.heap s'.heap ∧ s'.os = s₁.os ∧ AllBare s'.gens) s₁ := by
    intro H hO hS hok hA hK
    have base_of : ∀ {b : Addr} {o : Obj}, s₁.heap.get? b = some o → H b = none → (hidT s₁.heap H).get? b = some o := fun e n => hidT_get e n
    have noA : ∀ {b : Addr} {o : Obj} {es : Array DictEntry} {ep : Nat}, s₁.heap.get? b = some o → o.data = .dict es ep → H b = none := fun {b o es ep} e d => by
      cases q : H b with
      | none => rfl
      | some u =>
        have e' : b = a := hA b (by rw [q]; simp)
        subst e'
        rw [ha] at e; cases e
        have d' : Data.seq vs.toArray _ = Data.dict es ep := d
        cases d'
    have nsK : ∀ {b : Addr} {m : Str → Option Value}, s₁.heap.Ns b m → (hidT s₁.heap H).Ns b m := fun {b m} ⟨o, es, ep, e, d, r⟩ => ⟨o, es, ep, base_of e (noA e d), d, r⟩
    have hKb : K.In (hidT s₁.heap H) := fun b o e => base_of (KX b o e) (by
      cases q : H b with
      | none => rfl
      | some u =>
        have e' : b = a := hA b (by rw [q]; simp)
        subst e'
        rw [hK (by rw [q]; simp)] at e; cases e)
    have hM : Mod K mg (hidT s₁.heap H) := ⟨hKb, nsK hns, ⟨mb, nsK hb, hbb⟩, let ⟨mc, h1, h2⟩ := hlim; ⟨mc, nsK h1, h2⟩⟩
    have e0 : Env0 P w K mg (hidT s₁.heap H) callerA [] s₁ H := ⟨rfl, hM, fun b o e => of_hidT e, Nat.le_of_eq (hidT_size _ _), trivial, fun b hb => absurd (show b ∈ ([] : List Addr) from hb) (by simp), hok, .of_eq hg⟩
    refine codeAny_mono ((F _ hKb (nsK hns)).run callerA [] s₁ H ⟨[.ref a], []⟩ [.ref a] [.ref a] _ _ hr rfl e0 hbd (.cons rfl .nil) (hsp H hS)) fun r s' h => ?_
    cases r with
    | error e => exact h.elim
    | ok fl =>
      cases fl with
      | next => exact False.elim h
      | brk => exact False.elim h
      | cont => exact False.elim h
      | ret u =>
        obtain ⟨v, H', os, bare, un, hok', r', q⟩ := h
        have q' : v = .bl true := q
        subst q'
        obtain rfl : u = Value.bool true := r'
        refine ⟨rfl, OldK.of_keep fun b o e => ?_, os, bare⟩
        cases q : H b with
        | none => exact un.keep b o e q (by intro z; exact absurd (show b ∈ ([] : List Addr) from z) (by simp)) (by simp)
        | some u =>
          rcases hO b with z | ⟨ob, xs, z⟩
          · rw [q] at z; cases z
          · have z2 := un.frzs b ob _ z
            obtain ⟨e1, _⟩ := hok b _ z
            obtain ⟨e2, _⟩ := hok' b _ z2
            rw [e] at e1; cases e1
            exact e2
  cases hk : K.lookup a with
  | some o =>
    have e := KX a o hk
    rw [ha] at e
    cases e
    refine core (fun _ => none) (fun _ => .inl rfl) (.inr ⟨_, vs.toArray, _, hk, rfl, rfl, rfl, by rw [List.size_toArray, lenV]; exact hl, by simpa using rv⟩) (fun b u z => by have z' : (none : Option HO) = some u := z; cases z') (fun b z => absurd rfl z) fun z => absurd rfl z
  | none =>
    refine core (fun b => if b = a then some (.frz { cls := .type "list", data := .seq vs.toArray } (.lst (ns.map V.int))) else none) (fun b => ?_) (.inl (.inr ⟨{ cls := .type "list", data := .seq vs.toArray }, if_pos rfl⟩)) (fun b u z => ?_) (fun b z => ?_) fun _ => hk
    · by_cases hb : b = a
      · exact .inr ⟨_, _, if_pos hb⟩
      · exact .inl (if_neg hb)
    · by_cases hb : b = a
      · have z' := (if_pos hb).symm.trans z
        cases z'
        subst hb
        exact ⟨ha, by rw [List.length_map]; exact hl, vs, _, rv, ha⟩
      · have z' := (if_neg hb).symm.trans z
        cases z'
    · by_cases hb : b = a
      · exact hb
      · exact absurd (if_neg hb) z
theorem walk {l : PySem.W.OpenLaw} {q : Program} {loose : List Str} {XP : (Str → Option Value) → Heap → Prop} {YP : World → Heap → Prop} {d : DefRec} {K : Params → PySem.W.Frag} (hn : l.most = some 63) (hdf : d.params.defaults = [])
    (hY : ∀ (w : World) (h : Heap), YP w h → (K w.params).In h)
    (F : ∀ (w : World) (mg : Str → Option Value) (fa : Addr) (h : Heap), (K w.params).In h → h.Ns mainGlobals mg → mg d.name = some (.ref fa) →
      ∃ fd : FuncData, Binds (K w.params) fd ["_law_script"] [] ∧ ∀ base : Heap, (K w.params).In base → base.Ns mainGlobals mg → FnG l.prog w (K w.params) mg base 11 fa fd ["_law_script"] (spLaw (K w.params))) :
    PySem.W.WalkO q loose XP YP l.row.toRowW d [] (fun f vs => PySem.call f vs) := by
  refine Att.attach_call hn hdf fun w s₀ s₁ mg mb fa o pm cd doc a vs ns G Y ho hd hcd hmg hobj hints hlen hg => ?_
  have KX := hY w _ Y
  obtain ⟨fd, hb, hF⟩ := F w mg fa _ KX G.T.g hmg
  exact law_callG KX G.T.g G.T.b G.T.builtins G.T.nolimit hg hobj hints (Nat.le_trans hlen (by decide)) ⟨rfl, by decide, by decide⟩ hF hb (fun H hS => ⟨a, ns, rfl, hS, hlen, fun _ => rfl⟩)
theorem kit_ref {K : PySem.W.Frag} {B S : Addr} (h1 : PySem.W.hasDictIn K S = true) (h2 : PySem.W.typeIn K (.ref S) = some (.type "type")) (h3 : PySem.W.subIn K (.ref B) (.ref S) = some true) : PySem.W.kitOne K (.ref B) (.ref S) = some true := by
  obtain ⟨cd, hc, _⟩ := PySem.W.any_some h1
  have e2 : ((PySem.W.clsIn K S).isSome && PySem.W.typeIn K (.ref S) == some (.type "type")) = true := by rw [hc, h2] <;> rfl
  unfold PySem.W.kitOne
  by_cases h : (Value.ref B == Value.ref S) = true
  · rw [if_pos h]
  · rw [if_neg h]
    show (if ((PySem.W.clsIn K S).isSome && PySem.W.typeIn K (.ref S) == some (.type "type")) = true then PySem.W.subIn K (.ref B) (.ref S) else none) = some true
    rw [if_pos e2]
    exact h3
theorem kit_VE {K : PySem.W.Frag} {B : Addr} (h3 : PySem.W.subIn K (.ref B) (.type "ValueError") = some true) : PySem.W.kitOne K (.ref B) (.type "ValueError") = some true := by
  unfold PySem.W.kitOne
  rw [if_neg (show ¬ (Value.ref B == Value.type "ValueError") = true from fun z => nomatch z)]
  show (if PySem.W.kitMeta "ValueError" = true then PySem.W.subIn K (.ref B) (.type "ValueError") else none) = some true
  rw [if_pos (by decide +kernel)]
  exact h3
/-- a def of the text from its row in the written part -/
def fn_mk {K : PySem.W.Frag} {h : Heap} {mg : Str → Option Value} {x : Str} {st : Stmt} {ps : List Str} {f : Addr} {od an : Option Addr} {sl : Array (Option Value)} {oc kV dc pm cd ct : Value} (X : K.In h) (G : h.Ns mainGlobals mg)
    (a : PySem.W.nsIn K mainGlobals x = some (some (.ref f))) (l : K.lookup f = some ⟨oc, od, .func (PySem.W.fnOf x x (defArgs st) (defBody st) (defScope st) .none kV dc pm an cd ct), sl⟩) (c : PySem.W.codeIn K cd x = true) (k : PySem.W.keepIn K (.ref f) = true)
    (hb : ∀ (kV doc pm : Value) (an : Option Addr) (cdv ct : Value) (us : List Value), us.length = ps.length → bindArgs (PySem.W.fnOf x x (defArgs st) (defBody st) (defScope st) .none kV doc pm an cdv ct) ⟨us, []⟩ = pure (ps.zip us)) : Fn K mg x st ps :=
  ⟨f, _, fun_mk l c k, PySem.W.mg_of X G a, (fun_mk (st := st) l c k).binds hb⟩
theorem all_mk {P : Program} {w : World} {K : PySem.W.Frag} {h : Heap} {mg : Str → Option Value} {fa CS CB CM CN : Addr} {tMB tMO : Tok} (X : K.In h) (G : h.Ns mainGlobals mg) (hfa : mg "law" = some (.ref fa))
    {f6 f7 f8 f9 f10 f14 f15 f16 f17 f18 f19 f20 f21 f22 f23 f24 f25 f26 f27 f28 f29 f30 f32 f33 f34 f35 f36 f37 f38 f39 f40 f41 f42 f43 f44 f45 f46 f47 f48 f49 fB fM : Addr} {od6 an6 od7 an7 od8 an8 od9 an9 od10 an10 od14 an14 od15 an15 od16 an16 od17 an17 od18 an18 od19 an19 od20 an20 od21 an21 od22 an22 od23 an23 od24 an24 od25 an25 od26 an26 od27 an27 od28 an28 od29 an29 od30 an30 od32 an32 od33 an33 od34 an34 od35 an35 od36 an36 od37 an37 od38 an38 od39 an39 od40 an40 od41 an41 od42 an42 od43 an43 od44 an44 od45 an45 od46 an46 od47 an47 od48 an48 od49 an49 odB anB odM anM : Option Addr} {sl6 sl7 sl8 sl9 sl10 sl14 sl15 sl16 sl17 sl18 sl19 sl20 sl21 sl22 sl23 sl24 sl25 sl26 sl27 sl28 sl29 sl30 sl32 sl33 sl34 sl35 sl36 sl37 sl38 sl39 sl40 sl41 sl42 sl43 sl44 sl45 sl46 sl47 sl48 sl49 slB slM : Array (Option Value)} {oc6 kV6 dc6 pm6 cd6 ct6 oc7 kV7 dc7 pm7 cd7 ct7 oc8 kV8 dc8 pm8 cd8 ct8 oc9 kV9 dc9 pm9 cd9 ct9 oc10 kV10 dc10 pm10 cd10 ct10 oc14 kV14 dc14 pm14 cd14 ct14 oc15 kV15 dc15 pm15 cd15 ct15 oc16 kV16 dc16 pm16 cd16 ct16 oc17 kV17 dc17 pm17 cd17 ct17 oc18 kV18 dc18 pm18 cd18 ct18 oc19 kV19 dc19 pm19 cd19 ct19 oc20 kV20 dc20 pm20 cd20 ct20 oc21 kV21 dc21 pm21 cd21 ct21 oc22 kV22 dc22 pm22 cd22 ct22 oc23 kV23 dc23 pm23 cd23 ct23 oc24 kV24 dc24 pm24 cd24 ct24 oc25 kV25 dc25 pm25 cd25 ct25 oc26 kV26 dc26 pm26 cd26 ct26 oc27 kV27 dc27 pm27 cd27 ct27 oc28 kV28 dc28 pm28 cd28 ct28 oc29 kV29 dc29 pm29 cd29 ct29 oc30 kV30 dc30 pm30 cd30 ct30 oc32 kV32 dc32 pm32 cd32 ct32 oc33 kV33 dc33 pm33 cd33 ct33 oc34 kV34 dc34 pm34 cd34 ct34 oc35 kV35 dc35 pm35 cd35 ct35 oc36 kV36 dc36 pm36 cd36 ct36 oc37 kV37 dc37 pm37 cd37 ct37 oc38 kV38 dc38 pm38 cd38 ct38 oc39 kV39 dc39 pm39 cd39 ct39 oc40 kV40 dc40 pm40 cd40 ct40 oc41 kV41 dc41 pm41 cd41 ct41 oc42 kV42 dc42 pm42 cd42 ct42 oc43 kV43 dc43 pm43 cd43 ct43 oc44 kV44 dc44 pm44 cd44 ct44 oc45 kV45 dc45 pm45 cd45 ct45 oc46 kV46 dc46 pm46 cd46 ct46 oc47 kV47 dc47 pm47 cd47 ct47 oc48 kV48 dc48 pm48 cd48 ct48 oc49 kV49 dc49 pm49 cd49 ct49 ocB kVB dcB pmB cdB ctB ocM kVM dcM pmM cdM ctM : Value}
    {nmB qB nmM qM : Str} {NB NM : Addr} {bsB bsM : List Value} {snB snM : List Str} {subB subM : List Value} {abB abM : Bool} {colB colM : Option Bool} {ddB ddM : Option Addr} {m0B m1B m2B m3B m5B m0M m1M m2M m3M m5M : Option Value}
    (a6 : PySem.W.nsIn K mainGlobals "is_integer" = some (some (.ref f6)))
    (l6 : K.lookup f6 = some ⟨oc6, od6, .func (PySem.W.fnOf "is_integer" "is_integer" (defArgs (topS 6)) (defBody (topS 6)) (defScope (topS 6)) .none kV6 dc6 pm6 an6 cd6 ct6), sl6⟩)
    (c6 : PySem.W.codeIn K cd6 "is_integer" = true)
    (k6 : PySem.W.keepIn K (.ref f6) = true)
    (a7 : PySem.W.nsIn K mainGlobals "is_within" = some (some (.ref f7)))
    (l7 : K.lookup f7 = some ⟨oc7, od7, .func (PySem.W.fnOf "is_within" "is_within" (defArgs (topS 7)) (defBody (topS 7)) (defScope (topS 7)) .none kV7 dc7 pm7 an7 cd7 ct7), sl7⟩)
    (c7 : PySem.W.codeIn K cd7 "is_within" = true)
    (k7 : PySem.W.keepIn K (.ref f7) = true)
    (a8 : PySem.W.nsIn K mainGlobals "is_below" = some (some (.ref f8)))
    (l8 : K.lookup f8 = some ⟨oc8, od8, .func (PySem.W.fnOf "is_below" "is_below" (defArgs (topS 8)) (defBody (topS 8)) (defScope (topS 8)) .none kV8 dc8 pm8 an8 cd8 ct8), sl8⟩)
    (c8 : PySem.W.codeIn K cd8 "is_below" = true)
    (k8 : PySem.W.keepIn K (.ref f8) = true)
    (a9 : PySem.W.nsIn K mainGlobals "is_pair" = some (some (.ref f9)))
    (l9 : K.lookup f9 = some ⟨oc9, od9, .func (PySem.W.fnOf "is_pair" "is_pair" (defArgs (topS 9)) (defBody (topS 9)) (defScope (topS 9)) .none kV9 dc9 pm9 an9 cd9 ct9), sl9⟩)
    (c9 : PySem.W.codeIn K cd9 "is_pair" = true)
    (k9 : PySem.W.keepIn K (.ref f9) = true)
    (a10 : PySem.W.nsIn K mainGlobals "check_number" = some (some (.ref f10)))
    (l10 : K.lookup f10 = some ⟨oc10, od10, .func (PySem.W.fnOf "check_number" "check_number" (defArgs (topS 10)) (defBody (topS 10)) (defScope (topS 10)) .none kV10 dc10 pm10 an10 cd10 ct10), sl10⟩)
    (c10 : PySem.W.codeIn K cd10 "check_number" = true)
    (k10 : PySem.W.keepIn K (.ref f10) = true)
    (a14 : PySem.W.nsIn K mainGlobals "is_entry" = some (some (.ref f14)))
    (l14 : K.lookup f14 = some ⟨oc14, od14, .func (PySem.W.fnOf "is_entry" "is_entry" (defArgs (topS 14)) (defBody (topS 14)) (defScope (topS 14)) .none kV14 dc14 pm14 an14 cd14 ct14), sl14⟩)
    (c14 : PySem.W.codeIn K cd14 "is_entry" = true)
    (k14 : PySem.W.keepIn K (.ref f14) = true)
    (a15 : PySem.W.nsIn K mainGlobals "first_wrong" = some (some (.ref f15)))
    (l15 : K.lookup f15 = some ⟨oc15, od15, .func (PySem.W.fnOf "first_wrong" "first_wrong" (defArgs (topS 15)) (defBody (topS 15)) (defScope (topS 15)) .none kV15 dc15 pm15 an15 cd15 ct15), sl15⟩)
    (c15 : PySem.W.codeIn K cd15 "first_wrong" = true)
    (k15 : PySem.W.keepIn K (.ref f15) = true)
    (a16 : PySem.W.nsIn K mainGlobals "check_book" = some (some (.ref f16)))
    (l16 : K.lookup f16 = some ⟨oc16, od16, .func (PySem.W.fnOf "check_book" "check_book" (defArgs (topS 16)) (defBody (topS 16)) (defScope (topS 16)) .none kV16 dc16 pm16 an16 cd16 ct16), sl16⟩)
    (c16 : PySem.W.codeIn K cd16 "check_book" = true)
    (k16 : PySem.W.keepIn K (.ref f16) = true)
    (a17 : PySem.W.nsIn K mainGlobals "followers" = some (some (.ref f17)))
    (l17 : K.lookup f17 = some ⟨oc17, od17, .func (PySem.W.fnOf "followers" "followers" (defArgs (topS 17)) (defBody (topS 17)) (defScope (topS 17)) .none kV17 dc17 pm17 an17 cd17 ct17), sl17⟩)
    (c17 : PySem.W.codeIn K cd17 "followers" = true)
    (k17 : PySem.W.keepIn K (.ref f17) = true)
    (a18 : PySem.W.nsIn K mainGlobals "ring_from" = some (some (.ref f18)))
    (l18 : K.lookup f18 = some ⟨oc18, od18, .func (PySem.W.fnOf "ring_from" "ring_from" (defArgs (topS 18)) (defBody (topS 18)) (defScope (topS 18)) .none kV18 dc18 pm18 an18 cd18 ct18), sl18⟩)
    (c18 : PySem.W.codeIn K cd18 "ring_from" = true)
    (k18 : PySem.W.keepIn K (.ref f18) = true)
    (a19 : PySem.W.nsIn K mainGlobals "begun_least" = some (some (.ref f19)))
    (l19 : K.lookup f19 = some ⟨oc19, od19, .func (PySem.W.fnOf "begun_least" "begun_least" (defArgs (topS 19)) (defBody (topS 19)) (defScope (topS 19)) .none kV19 dc19 pm19 an19 cd19 ct19), sl19⟩)
    (c19 : PySem.W.codeIn K cd19 "begun_least" = true)
    (k19 : PySem.W.keepIn K (.ref f19) = true)
    (a20 : PySem.W.nsIn K mainGlobals "ring_of" = some (some (.ref f20)))
    (l20 : K.lookup f20 = some ⟨oc20, od20, .func (PySem.W.fnOf "ring_of" "ring_of" (defArgs (topS 20)) (defBody (topS 20)) (defScope (topS 20)) .none kV20 dc20 pm20 an20 cd20 ct20), sl20⟩)
    (c20 : PySem.W.codeIn K cd20 "ring_of" = true)
    (k20 : PySem.W.keepIn K (.ref f20) = true)
    (a21 : PySem.W.nsIn K mainGlobals "ring" = some (some (.ref f21)))
    (l21 : K.lookup f21 = some ⟨oc21, od21, .func (PySem.W.fnOf "ring" "ring" (defArgs (topS 21)) (defBody (topS 21)) (defScope (topS 21)) .none kV21 dc21 pm21 an21 cd21 ct21), sl21⟩)
    (c21 : PySem.W.codeIn K cd21 "ring" = true)
    (k21 : PySem.W.keepIn K (.ref f21) = true)
    (a22 : PySem.W.nsIn K mainGlobals "is_ring_of" = some (some (.ref f22)))
    (l22 : K.lookup f22 = some ⟨oc22, od22, .func (PySem.W.fnOf "is_ring_of" "is_ring_of" (defArgs (topS 22)) (defBody (topS 22)) (defScope (topS 22)) .none kV22 dc22 pm22 an22 cd22 ct22), sl22⟩)
    (c22 : PySem.W.codeIn K cd22 "is_ring_of" = true)
    (k22 : PySem.W.keepIn K (.ref f22) = true)
    (a23 : PySem.W.nsIn K mainGlobals "is_ring" = some (some (.ref f23)))
    (l23 : K.lookup f23 = some ⟨oc23, od23, .func (PySem.W.fnOf "is_ring" "is_ring" (defArgs (topS 23)) (defBody (topS 23)) (defScope (topS 23)) .none kV23 dc23 pm23 an23 cd23 ct23), sl23⟩)
    (c23 : PySem.W.codeIn K cd23 "is_ring" = true)
    (k23 : PySem.W.keepIn K (.ref f23) = true)
    (a24 : PySem.W.nsIn K mainGlobals "reached" = some (some (.ref f24)))
    (l24 : K.lookup f24 = some ⟨oc24, od24, .func (PySem.W.fnOf "reached" "reached" (defArgs (topS 24)) (defBody (topS 24)) (defScope (topS 24)) .none kV24 dc24 pm24 an24 cd24 ct24), sl24⟩)
    (c24 : PySem.W.codeIn K cd24 "reached" = true)
    (k24 : PySem.W.keepIn K (.ref f24) = true)
    (a25 : PySem.W.nsIn K mainGlobals "passed_on" = some (some (.ref f25)))
    (l25 : K.lookup f25 = some ⟨oc25, od25, .func (PySem.W.fnOf "passed_on" "passed_on" (defArgs (topS 25)) (defBody (topS 25)) (defScope (topS 25)) .none kV25 dc25 pm25 an25 cd25 ct25), sl25⟩)
    (c25 : PySem.W.codeIn K cd25 "passed_on" = true)
    (k25 : PySem.W.keepIn K (.ref f25) = true)
    (a26 : PySem.W.nsIn K mainGlobals "masks_ahead" = some (some (.ref f26)))
    (l26 : K.lookup f26 = some ⟨oc26, od26, .func (PySem.W.fnOf "masks_ahead" "masks_ahead" (defArgs (topS 26)) (defBody (topS 26)) (defScope (topS 26)) .none kV26 dc26 pm26 an26 cd26 ct26), sl26⟩)
    (c26 : PySem.W.codeIn K cd26 "masks_ahead" = true)
    (k26 : PySem.W.keepIn K (.ref f26) = true)
    (a27 : PySem.W.nsIn K mainGlobals "ways_on" = some (some (.ref f27)))
    (l27 : K.lookup f27 = some ⟨oc27, od27, .func (PySem.W.fnOf "ways_on" "ways_on" (defArgs (topS 27)) (defBody (topS 27)) (defScope (topS 27)) .none kV27 dc27 pm27 an27 cd27 ct27), sl27⟩)
    (c27 : PySem.W.codeIn K cd27 "ways_on" = true)
    (k27 : PySem.W.keepIn K (.ref f27) = true)
    (a28 : PySem.W.nsIn K mainGlobals "check_few" = some (some (.ref f28)))
    (l28 : K.lookup f28 = some ⟨oc28, od28, .func (PySem.W.fnOf "check_few" "check_few" (defArgs (topS 28)) (defBody (topS 28)) (defScope (topS 28)) .none kV28 dc28 pm28 an28 cd28 ct28), sl28⟩)
    (c28 : PySem.W.codeIn K cd28 "check_few" = true)
    (k28 : PySem.W.keepIn K (.ref f28) = true)
    (a29 : PySem.W.nsIn K mainGlobals "count_orders" = some (some (.ref f29)))
    (l29 : K.lookup f29 = some ⟨oc29, od29, .func (PySem.W.fnOf "count_orders" "count_orders" (defArgs (topS 29)) (defBody (topS 29)) (defScope (topS 29)) .none kV29 dc29 pm29 an29 cd29 ct29), sl29⟩)
    (c29 : PySem.W.codeIn K cd29 "count_orders" = true)
    (k29 : PySem.W.keepIn K (.ref f29) = true)
    (a30 : PySem.W.nsIn K mainGlobals "order_at" = some (some (.ref f30)))
    (l30 : K.lookup f30 = some ⟨oc30, od30, .func (PySem.W.fnOf "order_at" "order_at" (defArgs (topS 30)) (defBody (topS 30)) (defScope (topS 30)) .none kV30 dc30 pm30 an30 cd30 ct30), sl30⟩)
    (c30 : PySem.W.codeIn K cd30 "order_at" = true)
    (k30 : PySem.W.keepIn K (.ref f30) = true)
    (a32 : PySem.W.nsIn K mainGlobals "_law_pool" = some (some (.ref f32)))
    (l32 : K.lookup f32 = some ⟨oc32, od32, .func (PySem.W.fnOf "_law_pool" "_law_pool" (defArgs (topS 32)) (defBody (topS 32)) (defScope (topS 32)) .none kV32 dc32 pm32 an32 cd32 ct32), sl32⟩)
    (c32 : PySem.W.codeIn K cd32 "_law_pool" = true)
    (k32 : PySem.W.keepIn K (.ref f32) = true)
    (a33 : PySem.W.nsIn K mainGlobals "_law_draw" = some (some (.ref f33)))
    (l33 : K.lookup f33 = some ⟨oc33, od33, .func (PySem.W.fnOf "_law_draw" "_law_draw" (defArgs (topS 33)) (defBody (topS 33)) (defScope (topS 33)) .none kV33 dc33 pm33 an33 cd33 ct33), sl33⟩)
    (c33 : PySem.W.codeIn K cd33 "_law_draw" = true)
    (k33 : PySem.W.keepIn K (.ref f33) = true)
    (a34 : PySem.W.nsIn K mainGlobals "_law_deep" = some (some (.ref f34)))
    (l34 : K.lookup f34 = some ⟨oc34, od34, .func (PySem.W.fnOf "_law_deep" "_law_deep" (defArgs (topS 34)) (defBody (topS 34)) (defScope (topS 34)) .none kV34 dc34 pm34 an34 cd34 ct34), sl34⟩)
    (c34 : PySem.W.codeIn K cd34 "_law_deep" = true)
    (k34 : PySem.W.keepIn K (.ref f34) = true)
    (a35 : PySem.W.nsIn K mainGlobals "_law_flag" = some (some (.ref f35)))
    (l35 : K.lookup f35 = some ⟨oc35, od35, .func (PySem.W.fnOf "_law_flag" "_law_flag" (defArgs (topS 35)) (defBody (topS 35)) (defScope (topS 35)) .none kV35 dc35 pm35 an35 cd35 ct35), sl35⟩)
    (c35 : PySem.W.codeIn K cd35 "_law_flag" = true)
    (k35 : PySem.W.keepIn K (.ref f35) = true)
    (a36 : PySem.W.nsIn K mainGlobals "_law_is" = some (some (.ref f36)))
    (l36 : K.lookup f36 = some ⟨oc36, od36, .func (PySem.W.fnOf "_law_is" "_law_is" (defArgs (topS 36)) (defBody (topS 36)) (defScope (topS 36)) .none kV36 dc36 pm36 an36 cd36 ct36), sl36⟩)
    (c36 : PySem.W.codeIn K cd36 "_law_is" = true)
    (k36 : PySem.W.keepIn K (.ref f36) = true)
    (a37 : PySem.W.nsIn K mainGlobals "_law_is_int" = some (some (.ref f37)))
    (l37 : K.lookup f37 = some ⟨oc37, od37, .func (PySem.W.fnOf "_law_is_int" "_law_is_int" (defArgs (topS 37)) (defBody (topS 37)) (defScope (topS 37)) .none kV37 dc37 pm37 an37 cd37 ct37), sl37⟩)
    (c37 : PySem.W.codeIn K cd37 "_law_is_int" = true)
    (k37 : PySem.W.keepIn K (.ref f37) = true)
    (a38 : PySem.W.nsIn K mainGlobals "_law_has_ring" = some (some (.ref f38)))
    (l38 : K.lookup f38 = some ⟨oc38, od38, .func (PySem.W.fnOf "_law_has_ring" "_law_has_ring" (defArgs (topS 38)) (defBody (topS 38)) (defScope (topS 38)) .none kV38 dc38 pm38 an38 cd38 ct38), sl38⟩)
    (c38 : PySem.W.codeIn K cd38 "_law_has_ring" = true)
    (k38 : PySem.W.keepIn K (.ref f38) = true)
    (a39 : PySem.W.nsIn K mainGlobals "_law_pairs" = some (some (.ref f39)))
    (l39 : K.lookup f39 = some ⟨oc39, od39, .func (PySem.W.fnOf "_law_pairs" "_law_pairs" (defArgs (topS 39)) (defBody (topS 39)) (defScope (topS 39)) .none kV39 dc39 pm39 an39 cd39 ct39), sl39⟩)
    (c39 : PySem.W.codeIn K cd39 "_law_pairs" = true)
    (k39 : PySem.W.keepIn K (.ref f39) = true)
    (a40 : PySem.W.nsIn K mainGlobals "_law_due" = some (some (.ref f40)))
    (l40 : K.lookup f40 = some ⟨oc40, od40, .func (PySem.W.fnOf "_law_due" "_law_due" (defArgs (topS 40)) (defBody (topS 40)) (defScope (topS 40)) .none kV40 dc40 pm40 an40 cd40 ct40), sl40⟩)
    (c40 : PySem.W.codeIn K cd40 "_law_due" = true)
    (k40 : PySem.W.keepIn K (.ref f40) = true)
    (a41 : PySem.W.nsIn K mainGlobals "_law_ways" = some (some (.ref f41)))
    (l41 : K.lookup f41 = some ⟨oc41, od41, .func (PySem.W.fnOf "_law_ways" "_law_ways" (defArgs (topS 41)) (defBody (topS 41)) (defScope (topS 41)) .none kV41 dc41 pm41 an41 cd41 ct41), sl41⟩)
    (c41 : PySem.W.codeIn K cd41 "_law_ways" = true)
    (k41 : PySem.W.keepIn K (.ref f41) = true)
    (a42 : PySem.W.nsIn K mainGlobals "_law_orders" = some (some (.ref f42)))
    (l42 : K.lookup f42 = some ⟨oc42, od42, .func (PySem.W.fnOf "_law_orders" "_law_orders" (defArgs (topS 42)) (defBody (topS 42)) (defScope (topS 42)) .none kV42 dc42 pm42 an42 cd42 ct42), sl42⟩)
    (c42 : PySem.W.codeIn K cd42 "_law_orders" = true)
    (k42 : PySem.W.keepIn K (.ref f42) = true)
    (a43 : PySem.W.nsIn K mainGlobals "_law_is_ring" = some (some (.ref f43)))
    (l43 : K.lookup f43 = some ⟨oc43, od43, .func (PySem.W.fnOf "_law_is_ring" "_law_is_ring" (defArgs (topS 43)) (defBody (topS 43)) (defScope (topS 43)) .none kV43 dc43 pm43 an43 cd43 ct43), sl43⟩)
    (c43 : PySem.W.codeIn K cd43 "_law_is_ring" = true)
    (k43 : PySem.W.keepIn K (.ref f43) = true)
    (a44 : PySem.W.nsIn K mainGlobals "_law_call" = some (some (.ref f44)))
    (l44 : K.lookup f44 = some ⟨oc44, od44, .func (PySem.W.fnOf "_law_call" "_law_call" (defArgs (topS 44)) (defBody (topS 44)) (defScope (topS 44)) .none kV44 dc44 pm44 an44 cd44 ct44), sl44⟩)
    (c44 : PySem.W.codeIn K cd44 "_law_call" = true)
    (k44 : PySem.W.keepIn K (.ref f44) = true)
    (a45 : PySem.W.nsIn K mainGlobals "_law_word" = some (some (.ref f45)))
    (l45 : K.lookup f45 = some ⟨oc45, od45, .func (PySem.W.fnOf "_law_word" "_law_word" (defArgs (topS 45)) (defBody (topS 45)) (defScope (topS 45)) .none kV45 dc45 pm45 an45 cd45 ct45), sl45⟩)
    (c45 : PySem.W.codeIn K cd45 "_law_word" = true)
    (k45 : PySem.W.keepIn K (.ref f45) = true)
    (a46 : PySem.W.nsIn K mainGlobals "_law_bent" = some (some (.ref f46)))
    (l46 : K.lookup f46 = some ⟨oc46, od46, .func (PySem.W.fnOf "_law_bent" "_law_bent" (defArgs (topS 46)) (defBody (topS 46)) (defScope (topS 46)) .none kV46 dc46 pm46 an46 cd46 ct46), sl46⟩)
    (c46 : PySem.W.codeIn K cd46 "_law_bent" = true)
    (k46 : PySem.W.keepIn K (.ref f46) = true)
    (a47 : PySem.W.nsIn K mainGlobals "_law_told_right" = some (some (.ref f47)))
    (l47 : K.lookup f47 = some ⟨oc47, od47, .func (PySem.W.fnOf "_law_told_right" "_law_told_right" (defArgs (topS 47)) (defBody (topS 47)) (defScope (topS 47)) .none kV47 dc47 pm47 an47 cd47 ct47), sl47⟩)
    (c47 : PySem.W.codeIn K cd47 "_law_told_right" = true)
    (k47 : PySem.W.keepIn K (.ref f47) = true)
    (a48 : PySem.W.nsIn K mainGlobals "_law_orders_right" = some (some (.ref f48)))
    (l48 : K.lookup f48 = some ⟨oc48, od48, .func (PySem.W.fnOf "_law_orders_right" "_law_orders_right" (defArgs (topS 48)) (defBody (topS 48)) (defScope (topS 48)) .none kV48 dc48 pm48 an48 cd48 ct48), sl48⟩)
    (c48 : PySem.W.codeIn K cd48 "_law_orders_right" = true)
    (k48 : PySem.W.keepIn K (.ref f48) = true)
    (a49 : PySem.W.nsIn K mainGlobals "law" = some (some (.ref f49)))
    (l49 : K.lookup f49 = some ⟨oc49, od49, .func (PySem.W.fnOf "law" "law" (defArgs (topS 49)) (defBody (topS 49)) (defScope (topS 49)) .none kV49 dc49 pm49 an49 cd49 ct49), sl49⟩)
    (c49 : PySem.W.codeIn K cd49 "law" = true)
    (k49 : PySem.W.keepIn K (.ref f49) = true)
    (z_len : PySem.W.nsIn K mainGlobals "len" = some none)
    (z_isinstance : PySem.W.nsIn K mainGlobals "isinstance" = some none)
    (z_range : PySem.W.nsIn K mainGlobals "range" = some none)
    (z_list : PySem.W.nsIn K mainGlobals "list" = some none)
    (z_tuple : PySem.W.nsIn K mainGlobals "tuple" = some none)
    (z_sorted : PySem.W.nsIn K mainGlobals "sorted" = some none)
    (z_set : PySem.W.nsIn K mainGlobals "set" = some none)
    (z_min : PySem.W.nsIn K mainGlobals "min" = some none)
    (z_max : PySem.W.nsIn K mainGlobals "max" = some none)
    (z_int : PySem.W.nsIn K mainGlobals "int" = some none)
    (z_bool : PySem.W.nsIn K mainGlobals "bool" = some none)
    (z_abs : PySem.W.nsIn K mainGlobals "abs" = some none)
    (z_sum : PySem.W.nsIn K mainGlobals "sum" = some none)
    (z_all : PySem.W.nsIn K mainGlobals "all" = some none)
    (z_repr : PySem.W.nsIn K mainGlobals "repr" = some none)
    (z_enumerate : PySem.W.nsIn K mainGlobals "enumerate" = some none)
    (z_ValueError : PySem.W.nsIn K mainGlobals "ValueError" = some none)
    (aMB : PySem.W.nsIn K mainGlobals "MOST_BOXES" = some (some (.int 40 tMB)))
    (aMO : PySem.W.nsIn K mainGlobals "MOST_ORDERED" = some (some (.int 14 tMO)))
    (aS : PySem.W.nsIn K mainGlobals "StrokeError" = some (some (.ref CS)))
    (aB : PySem.W.nsIn K mainGlobals "BadBook" = some (some (.ref CB)))
    (xB : K.lookup CB = some (excClassObj nmB qB CB NB bsB (.ref CS :: [.type "ValueError", .type "Exception", .type "BaseException", .type "object"]) true snB subB abB colB ddB m0B m1B m2B m3B m5B "ValueError.__new__"))
    (iB : PySem.W.findIn K (.ref CB) "__init__" = some (some (.ref fB)))
    (tB : PySem.W.typeIn K (.ref fB) = some (.type "function"))
    (lB : K.lookup fB = some ⟨ocB, odB, .func (PySem.W.fnOf "__init__" "BadBook.__init__" (defArgs (inClass (topS 3) 0)) (defBody (inClass (topS 3) 0)) (defScope (inClass (topS 3) 0)) .none kVB dcB pmB anB cdB ctB), slB⟩)
    (cB : PySem.W.codeIn K cdB "BadBook.__init__" = true)
    (kB : PySem.W.keepIn K (.ref fB) = true)
    (nB : PySem.W.findIn K (.ref CB) "index" = some none)
    (aM : PySem.W.nsIn K mainGlobals "TooMany" = some (some (.ref CM)))
    (xM : K.lookup CM = some (excClassObj nmM qM CM NM bsM (.ref CS :: [.type "ValueError", .type "Exception", .type "BaseException", .type "object"]) true snM subM abM colM ddM m0M m1M m2M m3M m5M "ValueError.__new__"))
    (iM : PySem.W.findIn K (.ref CM) "__init__" = some (some (.ref fM)))
    (tM : PySem.W.typeIn K (.ref fM) = some (.type "function"))
    (lM : K.lookup fM = some ⟨ocM, odM, .func (PySem.W.fnOf "__init__" "TooMany.__init__" (defArgs (inClass (topS 4) 0)) (defBody (inClass (topS 4) 0)) (defScope (inClass (topS 4) 0)) .none kVM dcM pmM anM cdM ctM), slM⟩)
    (cM : PySem.W.codeIn K cdM "TooMany.__init__" = true)
    (kM : PySem.W.keepIn K (.ref fM) = true)
    (nM : PySem.W.findIn K (.ref CM) "most" = some none)
    (aN : PySem.W.nsIn K mainGlobals "NoNumber" = some (some (.ref CN)))
    (xN : PySem.W.excIn K CN [.type "ValueError", .type "Exception", .type "BaseException", .type "object"] "ValueError.__new__" = true)
    (saB : PySem.W.findIn K (.ref CB) "__setattr__" = some (some (.builtin "object.__setattr__")))
    (gaB : PySem.W.findIn K (.ref CB) "__getattribute__" = some (some (.builtin "BaseException.__getattribute__")))
    (ggB : PySem.W.findIn K (.ref CB) "__getattr__" = some none)
    (beB : PySem.W.subIn K (.ref CB) (.type "BaseException") = some true)
    (tyB : PySem.W.typeIn K (.ref CB) = some (.type "type"))
    (kcB : PySem.W.keepIn K (.ref CB) = true)
    (hdB : PySem.W.hasDictIn K CB = true)
    (clB : PySem.W.findIn K (.ref CB) "__class__" = some (some (.builtin "object.__class__")))
    (mrB : PySem.W.mroIn K CB (.type "object") = some true)
    (veB : PySem.W.subIn K (.ref CB) (.type "ValueError") = some true)
    (seB : PySem.W.subIn K (.ref CB) (.ref CS) = some true)
    (saM : PySem.W.findIn K (.ref CM) "__setattr__" = some (some (.builtin "object.__setattr__")))
    (gaM : PySem.W.findIn K (.ref CM) "__getattribute__" = some (some (.builtin "BaseException.__getattribute__")))
    (ggM : PySem.W.findIn K (.ref CM) "__getattr__" = some none)
    (beM : PySem.W.subIn K (.ref CM) (.type "BaseException") = some true)
    (tyM : PySem.W.typeIn K (.ref CM) = some (.type "type"))
    (kcM : PySem.W.keepIn K (.ref CM) = true)
    (hdM : PySem.W.hasDictIn K CM = true)
    (clM : PySem.W.findIn K (.ref CM) "__class__" = some (some (.builtin "object.__class__")))
    (mrM : PySem.W.mroIn K CM (.type "object") = some true)
    (veM : PySem.W.subIn K (.ref CM) (.type "ValueError") = some true)
    (seM : PySem.W.subIn K (.ref CM) (.ref CS) = some true)
    (saN : PySem.W.findIn K (.ref CN) "__setattr__" = some (some (.builtin "object.__setattr__")))
    (gaN : PySem.W.findIn K (.ref CN) "__getattribute__" = some (some (.builtin "BaseException.__getattribute__")))
    (ggN : PySem.W.findIn K (.ref CN) "__getattr__" = some none)
    (beN : PySem.W.subIn K (.ref CN) (.type "BaseException") = some true)
    (tyN : PySem.W.typeIn K (.ref CN) = some (.type "type"))
    (kcN : PySem.W.keepIn K (.ref CN) = true)
    (hdN : PySem.W.hasDictIn K CN = true)
    (clN : PySem.W.findIn K (.ref CN) "__class__" = some (some (.builtin "object.__class__")))
    (mrN : PySem.W.mroIn K CN (.type "object") = some true)
    (veN : PySem.W.subIn K (.ref CN) (.type "ValueError") = some true)
    (seN : PySem.W.subIn K (.ref CN) (.ref CS) = some true)
    (spG : PySem.W.specialIn K (.builtin "object.__class__") "__get__" = some (some (.builtin "getset_descriptor.__get__")))
    (tkG : PySem.W.takesIn K (.builtin "object.__class__") = some true)
    (tyS : PySem.W.typeIn K (.ref CS) = some (.type "type"))
    (hdS : PySem.W.hasDictIn K CS = true)
    (uBB : PySem.W.subIn K (.ref CB) (.ref CB) = some true)
    (uMB : PySem.W.subIn K (.ref CM) (.ref CB) = some false)
    (uMM : PySem.W.subIn K (.ref CM) (.ref CM) = some true)
    (uNB : PySem.W.subIn K (.ref CN) (.ref CB) = some false)
    (uNM : PySem.W.subIn K (.ref CN) (.ref CM) = some false)
    (uNN : PySem.W.subIn K (.ref CN) (.ref CN) = some true) :
    ∃ fd : FuncData, Binds K fd ["_law_script"] [] ∧ ∀ base : Heap, K.In base → base.Ns mainGlobals mg → FnG P w K mg base 11 fa fd ["_law_script"] (spLaw K) := by
  have T : Txt K mg := {
    is_integer := fn_mk (st := topS 6) (ps := ["thing"]) X G a6 l6 c6 k6 (fun _ _ _ _ _ _ us hl => match us, hl with | [_], _ => rfl)
    is_within := fn_mk (st := topS 7) (ps := ["thing", "least", "most"]) X G a7 l7 c7 k7 (fun _ _ _ _ _ _ us hl => match us, hl with | [_, _, _], _ => rfl)
    is_below := fn_mk (st := topS 8) (ps := ["thing", "many"]) X G a8 l8 c8 k8 (fun _ _ _ _ _ _ us hl => match us, hl with | [_, _], _ => rfl)
    is_pair := fn_mk (st := topS 9) (ps := ["thing"]) X G a9 l9 c9 k9 (fun _ _ _ _ _ _ us hl => match us, hl with | [_], _ => rfl)
    check_number := fn_mk (st := topS 10) (ps := ["thing", "least", "most"]) X G a10 l10 c10 k10 (fun _ _ _ _ _ _ us hl => match us, hl with | [_, _, _], _ => rfl)
    is_entry := fn_mk (st := topS 14) (ps := ["many", "thing"]) X G a14 l14 c14 k14 (fun _ _ _ _ _ _ us hl => match us, hl with | [_, _], _ => rfl)
    first_wrong := fn_mk (st := topS 15) (ps := ["many", "thing"]) X G a15 l15 c15 k15 (fun _ _ _ _ _ _ us hl => match us, hl with | [_, _], _ => rfl)
    check_book := fn_mk (st := topS 16) (ps := ["many", "thing"]) X G a16 l16 c16 k16 (fun _ _ _ _ _ _ us hl => match us, hl with | [_, _], _ => rfl)
    followers := fn_mk (st := topS 17) (ps := ["many", "pairs"]) X G a17 l17 c17 k17 (fun _ _ _ _ _ _ us hl => match us, hl with | [_, _], _ => rfl)
    ring_from := fn_mk (st := topS 18) (ps := ["behind", "first"]) X G a18 l18 c18 k18 (fun _ _ _ _ _ _ us hl => match us, hl with | [_, _], _ => rfl)
    begun_least := fn_mk (st := topS 19) (ps := ["items"]) X G a19 l19 c19 k19 (fun _ _ _ _ _ _ us hl => match us, hl with | [_], _ => rfl)
    ring_of := fn_mk (st := topS 20) (ps := ["many", "pairs"]) X G a20 l20 c20 k20 (fun _ _ _ _ _ _ us hl => match us, hl with | [_, _], _ => rfl)
    ring := fn_mk (st := topS 21) (ps := ["many", "book"]) X G a21 l21 c21 k21 (fun _ _ _ _ _ _ us hl => match us, hl with | [_, _], _ => rfl)
    is_ring_of := fn_mk (st := topS 22) (ps := ["many", "pairs", "thing"]) X G a22 l22 c22 k22 (fun _ _ _ _ _ _ us hl => match us, hl with | [_, _, _], _ => rfl)
    is_ring := fn_mk (st := topS 23) (ps := ["many", "book", "thing"]) X G a23 l23 c23 k23 (fun _ _ _ _ _ _ us hl => match us, hl with | [_, _, _], _ => rfl)
    reached := fn_mk (st := topS 24) (ps := ["behind", "first"]) X G a24 l24 c24 k24 (fun _ _ _ _ _ _ us hl => match us, hl with | [_, _], _ => rfl)
    passed_on := fn_mk (st := topS 25) (ps := ["many", "book"]) X G a25 l25 c25 k25 (fun _ _ _ _ _ _ us hl => match us, hl with | [_, _], _ => rfl)
    masks_ahead := fn_mk (st := topS 26) (ps := ["many", "pairs"]) X G a26 l26 c26 k26 (fun _ _ _ _ _ _ us hl => match us, hl with | [_, _], _ => rfl)
    ways_on := fn_mk (st := topS 27) (ps := ["many", "pairs"]) X G a27 l27 c27 k27 (fun _ _ _ _ _ _ us hl => match us, hl with | [_, _], _ => rfl)
    check_few := fn_mk (st := topS 28) (ps := ["many"]) X G a28 l28 c28 k28 (fun _ _ _ _ _ _ us hl => match us, hl with | [_], _ => rfl)
    count_orders := fn_mk (st := topS 29) (ps := ["many", "book"]) X G a29 l29 c29 k29 (fun _ _ _ _ _ _ us hl => match us, hl with | [_, _], _ => rfl)
    order_at := fn_mk (st := topS 30) (ps := ["many", "book", "number"]) X G a30 l30 c30 k30 (fun _ _ _ _ _ _ us hl => match us, hl with | [_, _, _], _ => rfl)
    law_pool := fn_mk (st := topS 32) (ps := ["_law_script"]) X G a32 l32 c32 k32 (fun _ _ _ _ _ _ us hl => match us, hl with | [_], _ => rfl)
    law_draw := fn_mk (st := topS 33) (ps := ["_law_pool_here", "_law_many"]) X G a33 l33 c33 k33 (fun _ _ _ _ _ _ us hl => match us, hl with | [_, _], _ => rfl)
    law_deep := fn_mk (st := topS 34) (ps := []) X G a34 l34 c34 k34 (fun _ _ _ _ _ _ us hl => match us, hl with | [], _ => rfl)
    law_flag := fn_mk (st := topS 35) (ps := ["_law_thing", "_law_due_here"]) X G a35 l35 c35 k35 (fun _ _ _ _ _ _ us hl => match us, hl with | [_, _], _ => rfl)
    law_is := fn_mk (st := topS 36) (ps := ["_law_told", "_law_due_here"]) X G a36 l36 c36 k36 (fun _ _ _ _ _ _ us hl => match us, hl with | [_, _], _ => rfl)
    law_is_int := fn_mk (st := topS 37) (ps := ["_law_thing", "_law_least", "_law_most"]) X G a37 l37 c37 k37 (fun _ _ _ _ _ _ us hl => match us, hl with | [_, _, _], _ => rfl)
    law_has_ring := fn_mk (st := topS 38) (ps := ["_law_many", "_law_pairs_here"]) X G a38 l38 c38 k38 (fun _ _ _ _ _ _ us hl => match us, hl with | [_, _], _ => rfl)
    law_pairs := fn_mk (st := topS 39) (ps := ["_law_pool_here", "_law_many", "_law_most"]) X G a39 l39 c39 k39 (fun _ _ _ _ _ _ us hl => match us, hl with | [_, _, _], _ => rfl)
    law_due := fn_mk (st := topS 40) (ps := ["_law_many", "_law_thing"]) X G a40 l40 c40 k40 (fun _ _ _ _ _ _ us hl => match us, hl with | [_, _], _ => rfl)
    law_ways := fn_mk (st := topS 41) (ps := ["_law_many", "_law_pairs_here"]) X G a41 l41 c41 k41 (fun _ _ _ _ _ _ us hl => match us, hl with | [_, _], _ => rfl)
    law_orders := fn_mk (st := topS 42) (ps := ["_law_many", "_law_pairs_here"]) X G a42 l42 c42 k42 (fun _ _ _ _ _ _ us hl => match us, hl with | [_, _], _ => rfl)
    law_is_ring := fn_mk (st := topS 43) (ps := ["_law_many", "_law_pairs_here", "_law_thing"]) X G a43 l43 c43 k43 (fun _ _ _ _ _ _ us hl => match us, hl with | [_, _, _], _ => rfl)
    law_call := fn_mk (st := topS 44) (ps := ["_law_which", "_law_many", "_law_thing", "_law_more"]) X G a44 l44 c44 k44 (fun _ _ _ _ _ _ us hl => match us, hl with | [_, _, _, _], _ => rfl)
    law_word := fn_mk (st := topS 45) (ps := ["_law_which", "_law_many", "_law_thing", "_law_more"]) X G a45 l45 c45 k45 (fun _ _ _ _ _ _ us hl => match us, hl with | [_, _, _, _], _ => rfl)
    law_bent := fn_mk (st := topS 46) (ps := ["_law_pool_here", "_law_many", "_law_book"]) X G a46 l46 c46 k46 (fun _ _ _ _ _ _ us hl => match us, hl with | [_, _, _], _ => rfl)
    law_told_right := fn_mk (st := topS 47) (ps := ["_law_pool_here", "_law_many", "_law_book"]) X G a47 l47 c47 k47 (fun _ _ _ _ _ _ us hl => match us, hl with | [_, _, _], _ => rfl)
    law_orders_right := fn_mk (st := topS 48) (ps := ["_law_pool_here", "_law_many", "_law_book"]) X G a48 l48 c48 k48 (fun _ _ _ _ _ _ us hl => match us, hl with | [_, _, _], _ => rfl)
    law := fn_mk (st := topS 49) (ps := ["_law_script"]) X G a49 l49 c49 k49 (fun _ _ _ _ _ _ us hl => match us, hl with | [_], _ => rfl)
    m_len := PySem.W.mg_none_of X G z_len
    m_isinstance := PySem.W.mg_none_of X G z_isinstance
    m_range := PySem.W.mg_none_of X G z_range
    m_list := PySem.W.mg_none_of X G z_list
    m_tuple := PySem.W.mg_none_of X G z_tuple
    m_sorted := PySem.W.mg_none_of X G z_sorted
    m_set := PySem.W.mg_none_of X G z_set
    m_min := PySem.W.mg_none_of X G z_min
    m_max := PySem.W.mg_none_of X G z_max
    m_int := PySem.W.mg_none_of X G z_int
    m_bool := PySem.W.mg_none_of X G z_bool
    m_abs := PySem.W.mg_none_of X G z_abs
    m_sum := PySem.W.mg_none_of X G z_sum
    m_all := PySem.W.mg_none_of X G z_all
    m_repr := PySem.W.mg_none_of X G z_repr
    m_enumerate := PySem.W.mg_none_of X G z_enumerate
    m_ValueError := PySem.W.mg_none_of X G z_ValueError
    t_MOST_BOXES := tMB, g_MOST_BOXES := PySem.W.mg_of X G aMB, t_MOST_ORDERED := tMO, g_MOST_ORDERED := PySem.W.mg_of X G aMO }
  have FB := fun_mk (st := inClass (topS 3) 0) lB cB kB
  have bB := FB.binds (ps := ["self", "index"]) (fun _ _ _ _ _ _ us hl => match us, hl with | [_, _], _ => rfl)
  have oB : OexC K CB := ⟨⟨nmB, qB, NB, bsB, _, snB, subB, abB, colB, ddB, m0B, m1B, m2B, m3B, m5B, xB, by rfl⟩, saB, beB, tyB, kcB⟩
  have FM := fun_mk (st := inClass (topS 4) 0) lM cM kM
  have bM := FM.binds (ps := ["self", "most"]) (fun _ _ _ _ _ _ us hl => match us, hl with | [_, _], _ => rfl)
  have oM : OexC K CM := ⟨⟨nmM, qM, NM, bsM, _, snM, subM, abM, colM, ddM, m0M, m1M, m2M, m3M, m5M, xM, by rfl⟩, saM, beM, tyM, kcM⟩
  have Y0 : ∃ Y : XTxt K mg, Y.B.C = CB ∧ Y.M.C = CM ∧ Y.N = CN := ⟨{
    B := ⟨CB, fB, _, FB, bB, PySem.W.mg_of X G aB, oB, iB, tB, nB, ⟨gaB, ggB, beB, hdB⟩⟩
    M := ⟨CM, fM, _, FM, bM, PySem.W.mg_of X G aM, oM, iM, tM, nM, ⟨gaM, ggM, beM, hdM⟩⟩
    N := CN, g_NoNumber := PySem.W.mg_of X G aN, xN := xN, kN := kcN, bN := beN, tN := tyN }, rfl, rfl, rfl⟩
  obtain ⟨Y, eB, eM, eN⟩ := Y0
  have Z : WTxt Y := {
    S := CS, gS := PySem.W.mg_of X G aS
    cB := by rw [eB]; exact ⟨gaB, ggB, beB, hdB, clB, spG, tkG, mrB⟩
    cM := by rw [eM]; exact ⟨gaM, ggM, beM, hdM, clM, spG, tkG, mrM⟩
    cN := by rw [eN]; exact ⟨gaN, ggN, beN, hdN, clN, spG, tkG, mrN⟩
    bb := by rw [eB]; exact PySem.W.exm_ref beB hdB tyB uBB
    mb := by rw [eM, eB]; exact PySem.W.exm_ref beB hdB tyB uMB
    mm := by rw [eM]; exact PySem.W.exm_ref beM hdM tyM uMM
    nb := by rw [eN, eB]; exact PySem.W.exm_ref beB hdB tyB uNB
    nm := by rw [eN, eM]; exact PySem.W.exm_ref beM hdM tyM uNM
    nn := by rw [eN]; exact PySem.W.exm_ref beN hdN tyN uNN
    sB := by rw [eB]; exact kit_ref hdS tyS seB
    vB := by rw [eB]; exact kit_VE veB
    sM := by rw [eM]; exact kit_ref hdS tyS seM
    vM := by rw [eM]; exact kit_VE veM
    sN := by rw [eN]; exact kit_ref hdS tyS seN
    vN := by rw [eN]; exact kit_VE veN
    }
  have e := hfa.symm.trans T.law.g
  have e2 : fa = T.law.f := by
    have z := Option.some.inj e
    injection z
  rw [e2]
  exact ⟨T.law.fd, T.law.b, fun base _ _ => ok_law T Y Z⟩
end K3
set_option Elab.async false
set_option linter.all false
set_option maxRecDepth 100000
open PySem PySem.W PyProof.Rows
set_option maxRecDepth 100000 in
set_option maxHeartbeats 0 in
theorem PySem.Challenge.cw_fourstrokes_k03_whole_books_rings_orders_holds : PySem.Challenge.rw_fourstrokes_k03_whole_books_rings_orders.Holds := by
  w_on; o_law; k_head; (case hw => w_witness2)
  k_fill
  refine K3.walk (l := PySem.Challenge.rw_fourstrokes_k03_whole_books_rings_orders) rfl rfl (fun w h Y => PySem.W.kIn_of Y) ?F
  case F =>
    intro w mg fa h KX G hmg
    refine' K3.all_mk KX G hmg ?a6 ?l6 ?c6 ?k6 ?a7 ?l7 ?c7 ?k7 ?a8 ?l8 ?c8 ?k8 ?a9 ?l9 ?c9 ?k9 ?a10 ?l10 ?c10 ?k10 ?a14 ?l14 ?c14 ?k14 ?a15 ?l15 ?c15 ?k15 ?a16 ?l16 ?c16 ?k16 ?a17 ?l17 ?c17 ?k17 ?a18 ?l18 ?c18 ?k18 ?a19 ?l19 ?c19 ?k19 ?a20 ?l20 ?c20 ?k20 ?a21 ?l21 ?c21 ?k21 ?a22 ?l22 ?c22 ?k22 ?a23 ?l23 ?c23 ?k23 ?a24 ?l24 ?c24 ?k24 ?a25 ?l25 ?c25 ?k25 ?a26 ?l26 ?c26 ?k26 ?a27 ?l27 ?c27 ?k27 ?a28 ?l28 ?c28 ?k28 ?a29 ?l29 ?c29 ?k29 ?a30 ?l30 ?c30 ?k30 ?a32 ?l32 ?c32 ?k32 ?a33 ?l33 ?c33 ?k33 ?a34 ?l34 ?c34 ?k34 ?a35 ?l35 ?c35 ?k35 ?a36 ?l36 ?c36 ?k36 ?a37 ?l37 ?c37 ?k37 ?a38 ?l38 ?c38 ?k38 ?a39 ?l39 ?c39 ?k39 ?a40 ?l40 ?c40 ?k40 ?a41 ?l41 ?c41 ?k41 ?a42 ?l42 ?c42 ?k42 ?a43 ?l43 ?c43 ?k43 ?a44 ?l44 ?c44 ?k44 ?a45 ?l45 ?c45 ?k45 ?a46 ?l46 ?c46 ?k46 ?a47 ?l47 ?c47 ?k47 ?a48 ?l48 ?c48 ?k48 ?a49 ?l49 ?c49 ?k49 ?z_len ?z_isinstance ?z_range ?z_list ?z_tuple ?z_sorted ?z_set ?z_min ?z_max ?z_int ?z_bool ?z_abs ?z_sum ?z_all ?z_repr ?z_enumerate ?z_ValueError ?aMB ?aMO ?aS ?aB ?xB ?iB ?tB ?lB ?cB ?kB ?nB ?aM ?xM ?iM ?tM ?lM ?cM ?kM ?nM ?aN ?xN ?saB ?gaB ?ggB ?beB ?tyB ?kcB ?hdB ?clB ?mrB ?veB ?seB ?saM ?gaM ?ggM ?beM ?tyM ?kcM ?hdM ?clM ?mrM ?veM ?seM ?saN ?gaN ?ggN ?beN ?tyN ?kcN ?hdN ?clN ?mrN ?veN ?seN ?spG ?tkG ?tyS ?hdS ?uBB ?uMB ?uMM ?uNB ?uNM ?uNN
    (case a6 => k_is)
    (case l6 => k_is)
    (case c6 => k_is)
    (case k6 => k_is)
    (case a7 => k_is)
    (case l7 => k_is)
    (case c7 => k_is)
    (case k7 => k_is)
    (case a8 => k_is)
    (case l8 => k_is)
    (case c8 => k_is)
    (case k8 => k_is)
    (case a9 => k_is)
    (case l9 => k_is)
    (case c9 => k_is)
    (case k9 => k_is)
    (case a10 => k_is)
    (case l10 => k_is)
    (case c10 => k_is)
    (case k10 => k_is)
    (case a14 => k_is)
    (case l14 => k_is)
    (case c14 => k_is)
    (case k14 => k_is)
    (case a15 => k_is)
    (case l15 => k_is)
    (case c15 => k_is)
    (case k15 => k_is)
    (case a16 => k_is)
    (case l16 => k_is)
    (case c16 => k_is)
    (case k16 => k_is)
    (case a17 => k_is)
    (case l17 => k_is)
    (case c17 => k_is)
    (case k17 => k_is)
    (case a18 => k_is)
    (case l18 => k_is)
    (case c18 => k_is)
    (case k18 => k_is)
    (case a19 => k_is)
    (case l19 => k_is)
    (case c19 => k_is)
    (case k19 => k_is)
    (case a20 => k_is)
    (case l20 => k_is)
    (case c20 => k_is)
    (case k20 => k_is)
    (case a21 => k_is)
    (case l21 => k_is)
    (case c21 => k_is)
    (case k21 => k_is)
    (case a22 => k_is)
    (case l22 => k_is)
    (case c22 => k_is)
    (case k22 => k_is)
    (case a23 => k_is)
    (case l23 => k_is)
    (case c23 => k_is)
    (case k23 => k_is)
    (case a24 => k_is)
    (case l24 => k_is)
    (case c24 => k_is)
    (case k24 => k_is)
    (case a25 => k_is)
    (case l25 => k_is)
    (case c25 => k_is)
    (case k25 => k_is)
    (case a26 => k_is)
    (case l26 => k_is)
    (case c26 => k_is)
    (case k26 => k_is)
    (case a27 => k_is)
    (case l27 => k_is)
    (case c27 => k_is)
    (case k27 => k_is)
    (case a28 => k_is)
    (case l28 => k_is)
    (case c28 => k_is)
    (case k28 => k_is)
    (case a29 => k_is)
    (case l29 => k_is)
    (case c29 => k_is)
    (case k29 => k_is)
    (case a30 => k_is)
    (case l30 => k_is)
    (case c30 => k_is)
    (case k30 => k_is)
    (case a32 => k_is)
    (case l32 => k_is)
    (case c32 => k_is)
    (case k32 => k_is)
    (case a33 => k_is)
    (case l33 => k_is)
    (case c33 => k_is)
    (case k33 => k_is)
    (case a34 => k_is)
    (case l34 => k_is)
    (case c34 => k_is)
    (case k34 => k_is)
    (case a35 => k_is)
    (case l35 => k_is)
    (case c35 => k_is)
    (case k35 => k_is)
    (case a36 => k_is)
    (case l36 => k_is)
    (case c36 => k_is)
    (case k36 => k_is)
    (case a37 => k_is)
    (case l37 => k_is)
    (case c37 => k_is)
    (case k37 => k_is)
    (case a38 => k_is)
    (case l38 => k_is)
    (case c38 => k_is)
    (case k38 => k_is)
    (case a39 => k_is)
    (case l39 => k_is)
    (case c39 => k_is)
    (case k39 => k_is)
    (case a40 => k_is)
    (case l40 => k_is)
    (case c40 => k_is)
    (case k40 => k_is)
    (case a41 => k_is)
    (case l41 => k_is)
    (case c41 => k_is)
    (case k41 => k_is)
    (case a42 => k_is)
    (case l42 => k_is)
    (case c42 => k_is)
    (case k42 => k_is)
    (case a43 => k_is)
    (case l43 => k_is)
    (case c43 => k_is)
    (case k43 => k_is)
    (case a44 => k_is)
    (case l44 => k_is)
    (case c44 => k_is)
    (case k44 => k_is)
    (case a45 => k_is)
    (case l45 => k_is)
    (case c45 => k_is)
    (case k45 => k_is)
    (case a46 => k_is)
    (case l46 => k_is)
    (case c46 => k_is)
    (case k46 => k_is)
    (case a47 => k_is)
    (case l47 => k_is)
    (case c47 => k_is)
    (case k47 => k_is)
    (case a48 => k_is)
    (case l48 => k_is)
    (case c48 => k_is)
    (case k48 => k_is)
    (case a49 => k_is)
    (case l49 => k_is)
    (case c49 => k_is)
    (case k49 => k_is)
    (case z_len => k_is)
    (case z_isinstance => k_is)
    (case z_range => k_is)
    (case z_list => k_is)
    (case z_tuple => k_is)
    (case z_sorted => k_is)
    (case z_set => k_is)
    (case z_min => k_is)
    (case z_max => k_is)
    (case z_int => k_is)
    (case z_bool => k_is)
    (case z_abs => k_is)
    (case z_sum => k_is)
    (case z_all => k_is)
    (case z_repr => k_is)
    (case z_enumerate => k_is)
    (case z_ValueError => k_is)
    (case aMB => k_is)
    (case aMO => k_is)
    (case aS => k_is)
    (case aB => k_is)
    (case xB => k_is)
    (case iB => k_is)
    (case tB => k_is)
    (case lB => k_is)
    (case cB => k_is)
    (case kB => k_is)
    (case nB => k_is)
    (case aM => k_is)
    (case xM => k_is)
    (case iM => k_is)
    (case tM => k_is)
    (case lM => k_is)
    (case cM => k_is)
    (case kM => k_is)
    (case nM => k_is)
    (case aN => k_is)
    (case xN => k_exc)
    (case saB => k_is)
    (case gaB => k_is)
    (case ggB => k_is)
    (case beB => k_is)
    (case tyB => k_is)
    (case kcB => k_is)
    (case hdB => k_is)
    (case clB => k_is)
    (case mrB => k_is)
    (case veB => k_is)
    (case seB => k_is)
    (case saM => k_is)
    (case gaM => k_is)
    (case ggM => k_is)
    (case beM => k_is)
    (case tyM => k_is)
    (case kcM => k_is)
    (case hdM => k_is)
    (case clM => k_is)
    (case mrM => k_is)
    (case veM => k_is)
    (case seM => k_is)
    (case saN => k_is)
    (case gaN => k_is)
    (case ggN => k_is)
    (case beN => k_is)
    (case tyN => k_is)
    (case kcN => k_is)
    (case hdN => k_is)
    (case clN => k_is)
    (case mrN => k_is)
    (case veN => k_is)
    (case seN => k_is)
    (case spG => k_is)
    (case tkG => k_is)
    (case tyS => k_is)
    (case hdS => k_is)
    (case uBB => first | rfl | k_is)
    (case uMB => k_is)
    (case uMM => first | rfl | k_is)
    (case uNB => k_is)
    (case uNM => k_is)
    (case uNN => first | rfl | k_is)
