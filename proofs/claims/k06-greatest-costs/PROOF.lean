import PyProof.Rows.All
import Wide.All
import OpenK.AllK
import Wide.FinOn
import HandS.ForMost
import HandS.Defaults
import KE.GoesMore
import KE.GoesEnum
import HandS.Walk
import HandS.Zip
import HandS.SetFor
import HandS.Conv
import KE.GoesZip
import KE.KMinKey
import KE.KLam
import HandS.Exc
import HandS.Codes
import HandS.TryOnly
import HandS.Lambda
import HandS.Evl
import HandS.IsInst
import HandS.Deep
import KE.KStateDown
import Lean
import HandS.Head0
import HandS.Head1
import HandS.Head2
import HandS.HeadEnd
import HandS.HeadHook1
import HandS.HeadHook2
import HandS.HeadHook4
import HandS.Rev
import KE.KTupSum
import HandS.TupAny
import KE.KNestM
import HandS.HeadWalk
import PySem.Challenge.RW_shoporders_k06_whole_greatest_costs
set_option linter.all false
/-! The mathematics, in plain Lean: orders, ends, Lawler's rule, lowered due days. -/
namespace K6
/-- the pairs (one, other): one stands ahead of other -/
abbrev Prs := List (Nat × Nat)
/-! ### lists -/
theorem perm_of : forall {o L : List Nat}, o.Nodup -> L.Nodup -> (forall j, j ∈ o -> j ∈ L) -> o.length = L.length -> o.Perm L
  | [], L, _, _, _, h => by
    have e : L = [] := List.length_eq_zero_iff.mp h.symm
    rw [e]
  | j :: r, L, h1, h2, h3, h => by
    have hj : j ∈ L := h3 j List.mem_cons_self
    obtain ⟨hn, hr⟩ := List.nodup_cons.mp h1
    have hl : (L.erase j).length = L.length - 1 := List.length_erase_of_mem hj
    have hp : 0 < L.length := List.length_pos_of_mem hj
    have ih := perm_of (o := r) (L := L.erase j) hr (h2.erase j) (fun x hx => by
      have hne : x ≠ j := fun e => hn (e ▸ hx)
      exact (List.mem_erase_of_ne hne).mpr (h3 x (List.mem_cons_of_mem _ hx))) (by
      rw [hl]
      have : (j :: r).length = r.length + 1 := rfl
      omega)
    exact (List.Perm.cons j ih).trans (List.perm_cons_erase hj).symm
theorem nil_or_snoc (l : List Nat) : l = [] ∨ exists pre x, l = pre ++ [x] := by
  rcases List.eq_nil_or_concat l with z | ⟨a, b, z⟩
  · exact .inl z
  · exact .inr ⟨a, b, by rw [z, List.concat_eq_append]⟩
def sumT (t : Nat -> Int) : List Nat -> Int
  | [] => 0
  | j :: r => t j + sumT t r
theorem sumT_perm {t : Nat -> Int} {a b : List Nat} (h : a.Perm b) : sumT t a = sumT t b := by
  induction h with
  | nil => rfl
  | cons x _ ih => show t x + sumT t _ = t x + sumT t _; rw [ih]
  | swap x y l => show t y + (t x + sumT t l) = t x + (t y + sumT t l); omega
  | trans _ _ h1 h2 => exact h1.trans h2
theorem sumT_app {t : Nat -> Int} : forall (a b : List Nat), sumT t (a ++ b) = sumT t a + sumT t b
  | [], b => by show sumT t b = 0 + sumT t b; omega
  | j :: r, b => by
    have ih := sumT_app (t := t) r b
    show t j + sumT t (r ++ b) = (t j + sumT t r) + sumT t b
    omega
/-! ### orders that obey pairs -/
def Ob (ps : Prs) (o : List Nat) : Prop := forall pre j post, o = pre ++ j :: post -> forall p, p ∈ ps -> p.2 = j -> p.1 ∈ pre
theorem ob_nil {ps : Prs} : Ob ps [] := fun pre j post h => by
  have := congrArg List.length h
  simp at this
theorem ob_snoc {ps : Prs} {o : List Nat} {j : Nat} : Ob ps (o ++ [j]) <-> Ob ps o ∧ forall p, p ∈ ps -> p.2 = j -> p.1 ∈ o := by
  constructor
  · intro h
    refine ⟨fun pre x post e => h pre x (post ++ [j]) (by rw [e]; simp), fun p hp e => h o j [] rfl p hp e⟩
  · rintro ⟨h1, h2⟩ pre x post e p hp ep
    rcases nil_or_snoc post with z | ⟨post', y, z⟩
    · subst z
      have e2 := List.append_inj' e rfl
      have e3 : j = x := by simpa using e2.2
      rw [← e2.1]
      exact h2 p hp (by rw [ep, e3])
    · subst z
      have e1 : o ++ [j] = (pre ++ x :: post') ++ [y] := by rw [e]; simp
      have e2 := List.append_inj' e1 rfl
      exact h1 pre x post' e2.1 p hp ep
/-- a job without followers in an order is taken out -/
theorem ob_drop {ps : Prs} {xs ys : List Nat} {l : Nat} (h : Ob ps (xs ++ l :: ys)) (hl : forall p, p ∈ ps -> p.1 = l -> p.2 ∉ xs ++ ys) : Ob ps (xs ++ ys) := by
  intro pre j post e p hp ep
  have hj : j ∈ xs ++ ys := by rw [e]; simp
  have hne : p.1 ≠ l := fun z => hl p hp z (by rw [ep]; exact hj)
  rcases List.append_eq_append_iff.mp e with ⟨as, h1, h2⟩ | ⟨bs, h1, h2⟩
  · -- pre = xs ++ as, ys = as ++ j :: post
    have e1 : xs ++ l :: ys = (xs ++ l :: as) ++ j :: post := by rw [h2]; simp
    have hm := h _ _ _ e1 p hp ep
    rw [h1]
    simp only [List.mem_append, List.mem_cons] at hm ⊢
    rcases hm with hm | hm | hm
    · exact .inl hm
    · exact absurd hm hne
    · exact .inr hm
  · -- xs = pre ++ bs, j :: post = bs ++ ys
    cases bs with
    | nil =>
      have h2' : ys = j :: post := by simpa using h2.symm
      have h1' : xs = pre := by simpa using h1
      have e1 : xs ++ l :: ys = (xs ++ [l]) ++ j :: post := by rw [h2']; simp
      have hm := h _ _ _ e1 p hp ep
      rw [← h1']
      simp only [List.mem_append, List.mem_cons, List.not_mem_nil, or_false] at hm
      rcases hm with hm | hm
      · exact hm
      · exact absurd hm hne
    | cons b bs =>
      have e0 : j = b := by
        have := congrArg List.head? h2
        simpa using this
      have e1 : xs ++ l :: ys = pre ++ j :: (bs ++ l :: ys) := by rw [h1, e0]; simp
      exact h _ _ _ e1 p hp ep
/-! ### the orders as the law makes them -/
def fits (ps : Prs) (part : List Nat) (j : Nat) : Bool := !part.contains j && (ps.filter fun p => decide (p.2 = j) && !part.contains p.1).isEmpty
def grow (n : Nat) (ps : Prs) (part : List Nat) : List (List Nat) := ((List.range n).filter (fits ps part)).map fun j => part ++ [j]
def orders (n : Nat) (ps : Prs) : Nat -> List (List Nat)
  | 0 => [[]]
  | k + 1 => (orders n ps k).flatMap (grow n ps)
theorem fits_iff {ps : Prs} {part : List Nat} {j : Nat} : fits ps part j = true <-> j ∉ part ∧ forall p, p ∈ ps -> p.2 = j -> p.1 ∈ part := by
  unfold fits
  rw [Bool.and_eq_true, Bool.not_eq_true', List.isEmpty_iff, List.filter_eq_nil_iff]
  constructor
  · rintro ⟨h1, h2⟩
    refine ⟨fun z => ?_, fun p hp e => ?_⟩
    · rw [List.contains_iff_mem.mpr z] at h1
      cases h1
    · have h := h2 p hp
      by_cases z : p.1 ∈ part
      · exact z
      · exact absurd (by simp [e, z]) h
  · rintro ⟨h1, h2⟩
    refine ⟨?_, fun p hp z => ?_⟩
    · cases q : part.contains j with
      | false => rfl
      | true => exact absurd (List.contains_iff_mem.mp q) h1
    · simp only [Bool.and_eq_true, decide_eq_true_eq, Bool.not_eq_true'] at z
      have := h2 p hp z.1
      rw [List.contains_iff_mem.mpr this] at z
      cases z.2
theorem mem_orders {n : Nat} {ps : Prs} : forall (k : Nat) {o : List Nat}, o ∈ orders n ps k <-> o.length = k ∧ o.Nodup ∧ (forall j, j ∈ o -> j < n) ∧ Ob ps o
  | 0, o => by
    show o ∈ [[]] <-> _
    rw [List.mem_singleton]
    constructor
    · rintro rfl
      exact ⟨rfl, List.nodup_nil, fun j h => absurd h List.not_mem_nil, ob_nil⟩
    · rintro ⟨h, _⟩
      exact List.length_eq_zero_iff.mp h
  | k + 1, o => by
    show o ∈ (orders n ps k).flatMap (grow n ps) <-> _
    rw [List.mem_flatMap]
    constructor
    · rintro ⟨part, h1, h2⟩
      obtain ⟨a1, a2, a3, a4⟩ := (mem_orders k).mp h1
      obtain ⟨j, hj, rfl⟩ := List.mem_map.mp h2
      obtain ⟨hr, hf⟩ := List.mem_filter.mp hj
      obtain ⟨f1, f2⟩ := fits_iff.mp hf
      refine ⟨by rw [List.length_append, a1]; rfl, ?_, fun x hx => ?_, ob_snoc.mpr ⟨a4, f2⟩⟩
      · rw [List.nodup_append]
        refine ⟨a2, by simp, fun a ha b hb => ?_⟩
        rw [List.mem_singleton] at hb
        rintro rfl
        exact f1 (hb ▸ ha)
      · rcases List.mem_append.mp hx with hx | hx
        · exact a3 x hx
        · rw [List.mem_singleton.mp hx]
          exact List.mem_range.mp hr
    · rintro ⟨h1, h2, h3, h4⟩
      rcases nil_or_snoc o with z | ⟨part, j, z⟩
      · rw [z] at h1
        cases h1
      · subst z
        obtain ⟨b1, b2⟩ := ob_snoc.mp h4
        rw [List.nodup_append] at h2
        refine ⟨part, (mem_orders k).mpr ⟨by simpa using h1, h2.1, fun x hx => h3 x (List.mem_append_left _ hx), b1⟩, List.mem_map.mpr ⟨j, List.mem_filter.mpr ⟨List.mem_range.mpr (h3 j (by simp)), fits_iff.mpr ⟨fun z => ?_, b2⟩⟩, rfl⟩⟩
        exact h2.2.2 j z j (by simp) rfl
/-- all orders of n jobs that obey -/
def Feas (n : Nat) (ps : Prs) (o : List Nat) : Prop := o.Perm (List.range n) ∧ Ob ps o
theorem mem_every {n : Nat} {ps : Prs} {o : List Nat} : o ∈ orders n ps n <-> Feas n ps o := by
  rw [mem_orders]
  constructor
  · rintro ⟨h1, h2, h3, h4⟩
    exact ⟨perm_of h2 List.nodup_range (fun j hj => List.mem_range.mpr (h3 j hj)) (by rw [h1, List.length_range]), h4⟩
  · rintro ⟨h1, h2⟩
    exact ⟨by rw [h1.length_eq, List.length_range], h1.nodup_iff.mpr List.nodup_range, fun j hj => List.mem_range.mp (h1.mem_iff.mp hj), h2⟩
theorem orders_len (n : Nat) (ps : Prs) : forall k, (orders n ps k).length <= n ^ k
  | 0 => by show 1 <= n ^ 0; rw [Nat.pow_zero]; exact Nat.le_refl _
  | k + 1 => by
    show ((orders n ps k).flatMap (grow n ps)).length <= n ^ (k + 1)
    have key : forall l : List (List Nat), (l.flatMap (grow n ps)).length <= l.length * n := by
      intro l
      induction l with
      | nil => simp
      | cons a r ih =>
        rw [List.flatMap_cons, List.length_append, List.length_cons, Nat.succ_mul]
        have h1 : (grow n ps a).length <= n := by
          unfold grow
          rw [List.length_map]
          have := List.length_filter_le (fits ps a) (List.range n)
          rw [List.length_range] at this
          exact this
        omega
    refine Nat.le_trans (key _) ?_
    rw [Nat.pow_succ]
    exact Nat.mul_le_mul_right n (orders_len n ps k)
/-! ### ends -/
def endOf (t : Nat -> Int) (day : Int) : List Nat -> Nat -> Int
  | [], _ => 0
  | k :: r, j => if j = k then day + t k else endOf t (day + t k) r j
theorem endOf_at {t : Nat -> Int} {j : Nat} : forall {pre post : List Nat} {day : Int}, j ∉ pre -> endOf t day (pre ++ j :: post) j = day + sumT t pre + t j
  | [], post, day, _ => by
    show (if j = j then day + t j else _) = day + 0 + t j
    rw [if_pos rfl]
    omega
  | k :: r, post, day, h => by
    have hk : ¬ j = k := fun e => h (by rw [e]; exact List.mem_cons_self)
    show (if j = k then _ else endOf t (day + t k) (r ++ j :: post) j) = day + (t k + sumT t r) + t j
    rw [if_neg hk, endOf_at (pre := r) (fun z => h (List.mem_cons_of_mem _ z))]
    omega
/-- every job of the order ends within c -/
def Und (f : Nat -> Int -> Int) (t : Nat -> Int) (c : Int) (day : Int) : List Nat -> Prop
  | [] => True
  | j :: r => f j (day + t j) <= c ∧ Und f t c (day + t j) r
section
variable {f : Nat -> Int -> Int} {t : Nat -> Int} {c : Int}
theorem und_app : forall {xs ys : List Nat} {day : Int}, Und f t c day (xs ++ ys) <-> Und f t c day xs ∧ Und f t c (day + sumT t xs) ys
  | [], ys, day => by
    show Und f t c day ys <-> True ∧ Und f t c (day + 0) ys
    rw [Int.add_zero]
    simp
  | j :: r, ys, day => by
    show (f j (day + t j) <= c ∧ Und f t c (day + t j) (r ++ ys)) <-> (f j (day + t j) <= c ∧ Und f t c (day + t j) r) ∧ Und f t c (day + (t j + sumT t r)) ys
    rw [und_app (xs := r), show day + (t j + sumT t r) = day + t j + sumT t r by omega, and_assoc]
theorem und_mono (hm : forall j a b, a <= b -> f j a <= f j b) : forall {xs : List Nat} {a b : Int}, a <= b -> Und f t c b xs -> Und f t c a xs
  | [], _, _, _, _ => trivial
  | j :: r, a, b, h, ⟨h1, h2⟩ => ⟨Int.le_trans (hm j _ _ (by omega)) h1, und_mono hm (xs := r) (by omega) h2⟩
theorem und_iff : forall {o : List Nat} {day : Int}, o.Nodup -> (Und f t c day o <-> forall j, j ∈ o -> f j (endOf t day o j) <= c)
  | [], day, _ => by simp [Und]
  | k :: r, day, h => by
    obtain ⟨h1, h2⟩ := List.nodup_cons.mp h
    show (f k (day + t k) <= c ∧ Und f t c (day + t k) r) <-> _
    rw [und_iff (o := r) h2]
    constructor
    · rintro ⟨a, b⟩ j hj
      show f j (if j = k then day + t k else endOf t (day + t k) r j) <= c
      by_cases e : j = k
      · rw [if_pos e, e]
        exact a
      · rw [if_neg e]
        rcases List.mem_cons.mp hj with z | z
        · exact absurd z e
        · exact b j z
    · intro q
      refine ⟨?_, fun j hj => ?_⟩
      · have := q k List.mem_cons_self
        rw [show endOf t day (k :: r) k = day + t k from if_pos rfl] at this
        exact this
      · have := q j (List.mem_cons_of_mem _ hj)
        have e : ¬ j = k := fun e => h1 (e ▸ hj)
        rw [show endOf t day (k :: r) j = endOf t (day + t k) r j from if_neg e] at this
        exact this
end
/-! ### Lawler's rule: from the back -/
/-- left: the jobs that are not placed; suf: those placed, from the back -/
structure Law (n : Nat) (ps : Prs) (f : Nat -> Int -> Int) (t : Nat -> Int) (left suf : List Nat) : Prop where
  nd : left.Nodup
  closed : forall p, p ∈ ps -> p.2 ∈ left -> p.1 ∈ left
  fit : forall o, o.Perm left -> Ob ps o -> Feas n ps (o ++ suf)
  best : forall c o, Feas n ps o -> Und f t c 0 o -> exists o', o'.Perm left ∧ Ob ps o' ∧ Und f t c 0 (o' ++ suf)
theorem law_start {n : Nat} {ps : Prs} {f : Nat -> Int -> Int} {t : Nat -> Int} (hps : forall p, p ∈ ps -> p.1 < n ∧ p.2 < n) : Law n ps f t (List.range n) [] where
  nd := List.nodup_range
  closed := fun p hp _ => List.mem_range.mpr (hps p hp).1
  fit := fun o h1 h2 => by
    rw [List.append_nil]
    exact ⟨h1, h2⟩
  best := fun c o h1 h2 => ⟨o, h1.1, h1.2, by rw [List.append_nil]; exact h2⟩
def ableB (ps : Prs) (left : List Nat) (j : Nat) : Bool := !ps.any fun p => decide (p.1 = j) && left.contains p.2
theorem ableB_iff {ps : Prs} {left : List Nat} {j : Nat} : ableB ps left j = true <-> forall p, p ∈ ps -> p.1 = j -> p.2 ∉ left := by
  unfold ableB
  rw [Bool.not_eq_true', List.any_eq_false]
  constructor
  · intro h p hp e z
    exact h p hp (by simp [e, z])
  · intro h p hp z
    simp only [Bool.and_eq_true, decide_eq_true_eq, List.contains_iff_mem] at z
    exact h p hp z.1 z.2
theorem law_step {n : Nat} {ps : Prs} {f : Nat -> Int -> Int} {t : Nat -> Int} {left suf : List Nat} {l : Nat} (hm : forall j a b, a <= b -> f j a <= f j b) (ht : forall j, 0 <= t j) (L : Law n ps f t left suf)
    (hl : l ∈ left) (ha : ableB ps left l = true) (hmin : forall k, k ∈ left -> ableB ps left k = true -> f l (sumT t left) <= f k (sumT t left)) (hne : forall p, p ∈ ps -> p.1 ≠ p.2) : Law n ps f t (left.filter fun j => decide (j ≠ l)) (l :: suf) := by
  have al := ableB_iff.mp ha
  have hf : left.filter (fun j => decide (j ≠ l)) = left.erase l := by
    rw [L.nd.erase_eq_filter]
    congr 1
    funext x
    by_cases e : x = l
    · subst e
      simp
    · simp [e]
  rw [hf]
  have hpl := List.perm_cons_erase hl
  refine ⟨L.nd.erase l, fun p hp h => ?_, fun o h1 h2 => ?_, fun c o h1 h2 => ?_⟩
  · have h3 : p.2 ∈ left := List.mem_of_mem_erase h
    have h4 := L.closed p hp h3
    have h5 : p.1 ≠ l := fun e => al p hp e h3
    exact (List.mem_erase_of_ne h5).mpr h4
  · have hp : (o ++ [l]).Perm left := (List.perm_append_comm.trans (List.Perm.cons l h1)).trans hpl.symm
    have := L.fit (o ++ [l]) hp (ob_snoc.mpr ⟨h2, fun p hp e => ?_⟩)
    · rw [List.append_assoc] at this
      exact this
    · have h3 := L.closed p hp (by rw [e]; exact hl)
      have h4 : p.1 ≠ l := fun z => hne p hp (z.trans e.symm)
      exact h1.mem_iff.mpr ((List.mem_erase_of_ne h4).mpr h3)
  · obtain ⟨o', p1, p2, p3⟩ := L.best c o h1 h2
    have nd' : o'.Nodup := p1.nodup_iff.mpr L.nd
    have hlo : l ∈ o' := p1.mem_iff.mpr hl
    obtain ⟨u1, u2⟩ := und_app.mp p3
    -- the last job of o'
    rcases nil_or_snoc o' with z | ⟨pre, k, z⟩
    · rw [z] at hlo
      exact absurd hlo List.not_mem_nil
    · have hko : k ∈ o' := by rw [z]; simp
      have hkl : k ∈ left := p1.mem_iff.mp hko
      have hka : ableB ps left k = true := ableB_iff.mpr fun p hp e q => by
        have hq : p.2 ∈ o' := p1.mem_iff.mpr q
        obtain ⟨a, b, e2⟩ := List.append_of_mem hq
        have hk : p.1 ∈ a := p2 a p.2 b e2 p hp rfl
        rw [e] at hk
        rw [e2] at z nd'
        rcases nil_or_snoc b with zb | ⟨b', y, zb⟩
        · rw [zb] at z
          have := List.append_inj' z rfl
          have e3 : p.2 = k := by simpa using this.2
          exact hne p hp (e.trans e3.symm)
        · rw [zb] at z nd'
          have e4 : a ++ p.2 :: (b' ++ [y]) = (a ++ p.2 :: b') ++ [y] := by simp
          rw [e4] at z
          have := List.append_inj' z rfl
          have e3 : y = k := by simpa using this.2
          rw [e4, List.nodup_append] at nd'
          exact nd'.2.2 k (List.mem_append_left _ hk) y (by simp) e3.symm
      have hcost : f k (0 + sumT t o') <= c := by
        rw [z] at u1
        have u3 := (und_app.mp u1).2.1
        rw [z, sumT_app]
        show f k (0 + (sumT t pre + (t k + 0))) <= c
        rw [show 0 + (sumT t pre + (t k + 0)) = 0 + sumT t pre + t k by omega]
        exact u3
      have hS : sumT t o' = sumT t left := sumT_perm p1
      obtain ⟨xs, ys, e2⟩ := List.append_of_mem hlo
      have hperm : (xs ++ ys).Perm (left.erase l) := by
        have a1 : (l :: (xs ++ ys)).Perm o' := by
          rw [e2]
          exact List.perm_middle.symm
        have a2 := (a1.trans p1).trans hpl
        exact (List.perm_cons l).mp a2
      refine ⟨xs ++ ys, hperm, ?_, ?_⟩
      · refine ob_drop (l := l) (by rw [← e2]; exact p2) fun p hp e q => al p hp e ?_
        exact List.mem_of_mem_erase (hperm.mem_iff.mp q)
      · rw [und_app]
        rw [e2] at u1
        obtain ⟨v1, v2, v3⟩ := und_app.mp u1
        have s1 : sumT t o' = sumT t xs + (t l + sumT t ys) := by
          rw [e2, sumT_app]
          rfl
        have s2 := sumT_app (t := t) xs ys
        have hl0 := ht l
        refine ⟨und_app.mpr ⟨v1, und_mono hm (by omega) v3⟩, ?_, ?_⟩
        · rw [show 0 + sumT t (xs ++ ys) + t l = sumT t left by omega]
          have h6 := hmin k hkl hka
          rw [hS] at hcost
          have h7 : (0 : Int) + sumT t left = sumT t left := by omega
          rw [h7] at hcost
          exact Int.le_trans h6 hcost
        · rw [show 0 + sumT t (xs ++ ys) + t l = 0 + sumT t o' by omega]
          exact u2
/-- at the end -/
theorem law_end {n : Nat} {ps : Prs} {f : Nat -> Int -> Int} {t : Nat -> Int} {suf : List Nat} (L : Law n ps f t [] suf) : Feas n ps suf ∧ forall c o, Feas n ps o -> Und f t c 0 o -> Und f t c 0 suf := by
  refine ⟨L.fit [] (List.Perm.refl _) ob_nil, fun c o h1 h2 => ?_⟩
  obtain ⟨o', p1, _, p3⟩ := L.best c o h1 h2
  have e : o' = [] := p1.eq_nil
  rw [e] at p3
  exact p3
/-- a job without followers is left -/
theorem able_some {ps : Prs} {rk : Nat -> Nat} (hrk : forall p, p ∈ ps -> rk p.1 < rk p.2) : forall (left : List Nat), left ≠ [] -> exists j, j ∈ left ∧ ableB ps left j = true := by
  intro left hne
  have hmax : forall l : List Nat, l ≠ [] -> exists j, j ∈ l ∧ forall k, k ∈ l -> rk k <= rk j := by
    intro l
    induction l with
    | nil => intro h; exact absurd rfl h
    | cons a r ih =>
      intro _
      by_cases hr : r = []
      · subst hr
        refine ⟨a, by simp, fun k hk => ?_⟩
        rw [List.mem_singleton.mp hk]
        exact Nat.le_refl _
      · obtain ⟨j, hj, hm⟩ := ih hr
        by_cases h : rk j <= rk a
        · refine ⟨a, by simp, fun k hk => ?_⟩
          rcases List.mem_cons.mp hk with z | z
          · rw [z]
            exact Nat.le_refl _
          · exact Nat.le_trans (hm k z) h
        · refine ⟨j, List.mem_cons_of_mem _ hj, fun k hk => ?_⟩
          rcases List.mem_cons.mp hk with z | z
          · rw [z]
            omega
          · exact hm k z
  obtain ⟨j, hj, hm⟩ := hmax left hne
  refine ⟨j, hj, ableB_iff.mpr fun p hp e q => ?_⟩
  have h1 := hm _ q
  have h2 := hrk p hp
  rw [e] at h2
  omega
/-! ### the same from the front: able_jobs -/
def frontB (ps : Prs) (left : List Nat) (j : Nat) : Bool := !ps.any fun p => decide (p.2 = j) && left.contains p.1
theorem frontB_iff {ps : Prs} {left : List Nat} {j : Nat} : frontB ps left j = true <-> forall p, p ∈ ps -> p.2 = j -> p.1 ∉ left := by
  unfold frontB
  rw [Bool.not_eq_true', List.any_eq_false]
  constructor
  · intro h p hp e z
    exact h p hp (by simp [e, z])
  · intro h p hp z
    simp only [Bool.and_eq_true, decide_eq_true_eq, List.contains_iff_mem] at z
    exact h p hp z.1 z.2
theorem front_some {ps : Prs} {rk : Nat -> Nat} (hrk : forall p, p ∈ ps -> rk p.1 < rk p.2) : forall (left : List Nat), left ≠ [] -> exists j, j ∈ left ∧ frontB ps left j = true := by
  intro left hne
  have hmin : forall l : List Nat, l ≠ [] -> exists j, j ∈ l ∧ forall k, k ∈ l -> rk j <= rk k := by
    intro l
    induction l with
    | nil => intro h; exact absurd rfl h
    | cons a r ih =>
      intro _
      by_cases hr : r = []
      · subst hr
        refine ⟨a, by simp, fun k hk => ?_⟩
        rw [List.mem_singleton.mp hk]
        exact Nat.le_refl _
      · obtain ⟨j, hj, hm⟩ := ih hr
        by_cases h : rk a <= rk j
        · refine ⟨a, by simp, fun k hk => ?_⟩
          rcases List.mem_cons.mp hk with z | z
          · rw [z]
            exact Nat.le_refl _
          · exact Nat.le_trans h (hm k z)
        · refine ⟨j, List.mem_cons_of_mem _ hj, fun k hk => ?_⟩
          rcases List.mem_cons.mp hk with z | z
          · rw [z]
            omega
          · exact hm k z
  obtain ⟨j, hj, hm⟩ := hmin left hne
  refine ⟨j, hj, frontB_iff.mpr fun p hp e q => ?_⟩
  have h1 := hm _ q
  have h2 := hrk p hp
  rw [e] at h2
  omega
/-! ### lowered due days -/
section
variable {n : Nat} {ps : Prs} {t D : Nat -> Int} {rk : Nat -> Nat}
def imin (a b : Int) : Int := if b < a then b else a
theorem imin_le1 (a b : Int) : imin a b <= a := by unfold imin; split <;> omega
theorem imin_le2 (a b : Int) : imin a b <= b := by unfold imin; split <;> omega
theorem imin_ge {a b c : Int} (h1 : c <= a) (h2 : c <= b) : c <= imin a b := by unfold imin; split <;> omega
theorem imin_or (a b : Int) : imin a b = a ∨ imin a b = b := by unfold imin; split <;> simp
/-- found[one] = min(found[one], found[other] - times[other]) -/
def rel1 (t : Nat -> Int) (F : Nat -> Int) (p : Nat × Nat) : Nat -> Int := fun j => if j = p.1 then imin (F p.1) (F p.2 - t p.2) else F j
def relAll (t : Nat -> Int) (ps : Prs) (F : Nat -> Int) : Nat -> Int := ps.foldl (rel1 t) F
def relN (t D : Nat -> Int) (ps : Prs) : Nat -> Nat -> Int
  | 0 => D
  | r + 1 => relAll t ps (relN t D ps r)
/-- the lowered days by the depth of what follows -/
def low (t D : Nat -> Int) (ps : Prs) : Nat -> Nat -> Int
  | 0, j => D j
  | f + 1, j => ps.foldl (fun m p => if p.1 = j then imin m (low t D ps f p.2 - t p.2) else m) (D j)
theorem fold_le (g : Nat × Nat -> Int) (j : Nat) : forall (l : Prs) (m : Int), l.foldl (fun m p => if p.1 = j then imin m (g p) else m) m <= m
  | [], m => Int.le_refl _
  | p :: r, m => by
    show r.foldl _ (if p.1 = j then imin m (g p) else m) <= m
    refine Int.le_trans (fold_le g j r _) ?_
    split
    · exact imin_le1 _ _
    · exact Int.le_refl _
theorem fold_le2 (g : Nat × Nat -> Int) (j : Nat) : forall (l : Prs) (m : Int) (p : Nat × Nat), p ∈ l -> p.1 = j -> l.foldl (fun m p => if p.1 = j then imin m (g p) else m) m <= g p
  | [], m, p, h, _ => absurd h List.not_mem_nil
  | q :: r, m, p, h, e => by
    show r.foldl _ (if q.1 = j then imin m (g q) else m) <= g p
    rcases List.mem_cons.mp h with z | z
    · subst z
      refine Int.le_trans (fold_le g j r _) ?_
      rw [if_pos e]
      exact imin_le2 _ _
    · exact fold_le2 g j r _ p z e
theorem fold_or (g : Nat × Nat -> Int) (j : Nat) : forall (l : Prs) (m : Int), l.foldl (fun m p => if p.1 = j then imin m (g p) else m) m = m ∨ exists p, p ∈ l ∧ p.1 = j ∧ l.foldl (fun m p => if p.1 = j then imin m (g p) else m) m = g p
  | [], m => .inl rfl
  | q :: r, m => by
    show r.foldl _ (if q.1 = j then imin m (g q) else m) = m ∨ exists p, p ∈ q :: r ∧ p.1 = j ∧ r.foldl _ (if q.1 = j then imin m (g q) else m) = g p
    rcases fold_or g j r (if q.1 = j then imin m (g q) else m) with z | ⟨p, h1, h2, h3⟩
    · by_cases e : q.1 = j
      · rw [z, if_pos e]
        rcases imin_or m (g q) with y | y
        · exact .inl y
        · exact .inr ⟨q, by simp, e, y⟩
      · rw [z, if_neg e]
        exact .inl rfl
    · exact .inr ⟨p, List.mem_cons_of_mem _ h1, h2, h3⟩
theorem fold_congr {g h : Nat × Nat -> Int} {j : Nat} : forall {l : Prs} {m : Int}, (forall p, p ∈ l -> p.1 = j -> g p = h p) -> l.foldl (fun m p => if p.1 = j then imin m (g p) else m) m = l.foldl (fun m p => if p.1 = j then imin m (h p) else m) m
  | [], m, _ => rfl
  | q :: r, m, e => by
    show r.foldl _ (if q.1 = j then imin m (g q) else m) = r.foldl _ (if q.1 = j then imin m (h q) else m)
    have e1 : (if q.1 = j then imin m (g q) else m) = (if q.1 = j then imin m (h q) else m) := by
      by_cases z : q.1 = j
      · rw [if_pos z, if_pos z, e q (by simp) z]
      · rw [if_neg z, if_neg z]
    rw [e1]
    exact fold_congr fun p hp => e p (List.mem_cons_of_mem _ hp)
theorem low_stop (hrk : forall p, p ∈ ps -> rk p.1 < rk p.2) (hn : forall p, p ∈ ps -> rk p.2 < n) : forall (f j : Nat), rk j < n -> n - rk j <= f -> low t D ps (f + 1) j = low t D ps f j
  | 0, j, h1, h2 => by omega
  | f + 1, j, h1, h2 => by
    show ps.foldl (fun m p => if p.1 = j then imin m (low t D ps (f + 1) p.2 - t p.2) else m) (D j) = ps.foldl (fun m p => if p.1 = j then imin m (low t D ps f p.2 - t p.2) else m) (D j)
    refine fold_congr (g := fun p => low t D ps (f + 1) p.2 - t p.2) (h := fun p => low t D ps f p.2 - t p.2) fun p hp e => ?_
    have h3 := hrk p hp
    have h4 := hn p hp
    rw [e] at h3
    show low t D ps (f + 1) p.2 - t p.2 = low t D ps f p.2 - t p.2
    rw [low_stop hrk hn f p.2 h4 (by omega)]
/-- what the lowered days are -/
structure Low (n : Nat) (ps : Prs) (t D L : Nat -> Int) : Prop where
  le : forall j, j < n -> L j <= D j
  pair : forall p, p ∈ ps -> L p.1 <= L p.2 - t p.2
  or : forall j, j < n -> L j = D j ∨ exists p, p ∈ ps ∧ p.1 = j ∧ L j = L p.2 - t p.2
theorem low_is (hrk : forall p, p ∈ ps -> rk p.1 < rk p.2) (hn : forall p, p ∈ ps -> rk p.2 < n) (hj : forall j, j < n -> rk j < n) (hps : forall p, p ∈ ps -> p.1 < n ∧ p.2 < n) : Low n ps t D (low t D ps n) := by
  have st : forall j, j < n -> low t D ps n j = ps.foldl (fun m p => if p.1 = j then imin m (low t D ps n p.2 - t p.2) else m) (D j) := fun j h => (low_stop hrk hn n j (hj j h) (by omega)).symm
  refine ⟨fun j h => ?_, fun p hp => ?_, fun j h => ?_⟩
  · rw [st j h]
    exact fold_le (fun p => low t D ps n p.2 - t p.2) j ps (D j)
  · have h := st p.1 (hps p hp).1
    have h2 := fold_le2 (fun p => low t D ps n p.2 - t p.2) p.1 ps (D p.1) p hp rfl
    rw [← h] at h2
    exact h2
  · have h2 := fold_or (fun p => low t D ps n p.2 - t p.2) j ps (D j)
    rw [← st j h] at h2
    exact h2
/-- one pass -/
theorem rel_pass {L : Nat -> Int} (hL : forall p, p ∈ ps -> L p.1 <= L p.2 - t p.2) : forall (l : Prs) (F : Nat -> Int), (forall p, p ∈ l -> p ∈ ps) -> (forall j, L j <= F j) ->
    (forall j, relAll t l F j <= F j) ∧ (forall j, L j <= relAll t l F j) ∧ forall p, p ∈ l -> F p.2 = L p.2 -> relAll t l F p.1 <= L p.2 - t p.2
  | [], F, _, h => ⟨fun j => Int.le_refl _, h, fun p hp => absurd hp List.not_mem_nil⟩
  | q :: r, F, hs, h => by
    have h1 : forall j, rel1 t F q j <= F j := fun j => by
      unfold rel1
      by_cases e : j = q.1
      · rw [if_pos e, e]
        exact imin_le1 _ _
      · rw [if_neg e]
        exact Int.le_refl _
    have h2 : forall j, L j <= rel1 t F q j := fun j => by
      unfold rel1
      by_cases e : j = q.1
      · rw [if_pos e, e]
        refine imin_ge (h q.1) ?_
        have a := hL q (hs q (by simp))
        have b := h q.2
        omega
      · rw [if_neg e]
        exact h j
    obtain ⟨i1, i2, i3⟩ := rel_pass hL r (rel1 t F q) (fun p hp => hs p (List.mem_cons_of_mem _ hp)) h2
    refine ⟨fun j => Int.le_trans (i1 j) (h1 j), i2, fun p hp e => ?_⟩
    rcases List.mem_cons.mp hp with z | z
    · subst z
      refine Int.le_trans (i1 p.1) ?_
      show rel1 t F p p.1 <= _
      unfold rel1
      rw [if_pos rfl, ← e]
      exact imin_le2 _ _
    · refine i3 p z ?_
      have a := h1 p.2
      have b := h2 p.2
      omega
theorem relN_ok {L : Nat -> Int} (hl : Low n ps t D L) (hout : forall j, n <= j -> L j = D j) (hrk : forall p, p ∈ ps -> rk p.1 < rk p.2) (hj : forall j, j < n -> rk j < n) (hps : forall p, p ∈ ps -> p.1 < n ∧ p.2 < n) : forall r,
    (forall j, relN t D ps r j <= D j) ∧ (forall j, L j <= relN t D ps r j) ∧ forall j, j < n -> n - rk j <= r -> relN t D ps r j = L j
  | 0 => ⟨fun j => Int.le_refl _, fun j => by
      show L j <= D j
      by_cases h : j < n
      · exact hl.le j h
      · rw [hout j (by omega)]
        exact Int.le_refl _, fun j h1 h2 => by
      have := hj j h1
      omega⟩
  | r + 1 => by
    obtain ⟨a, b, c⟩ := relN_ok hl hout hrk hj hps r
    obtain ⟨p1, p2, p3⟩ := rel_pass hl.pair ps (relN t D ps r) (fun p hp => hp) b
    refine ⟨fun j => Int.le_trans (p1 j) (a j), p2, fun j h1 h2 => ?_⟩
    show relAll t ps (relN t D ps r) j = L j
    have g1 := p2 j
    rcases hl.or j h1 with e | ⟨p, hp, e1, e2⟩
    · have g2 := p1 j
      have g3 := a j
      omega
    · have h3 := hrk p hp
      rw [e1] at h3
      have g2 := p3 p hp (c p.2 (hps p hp).2 (by omega))
      rw [e1] at g2
      omega
theorem low_out (hps : forall p, p ∈ ps -> p.1 < n ∧ p.2 < n) : forall (f : Nat) {j : Nat}, n <= j -> low t D ps f j = D j
  | 0, j, _ => rfl
  | f + 1, j, h => by
    show ps.foldl (fun m p => if p.1 = j then imin m (low t D ps f p.2 - t p.2) else m) (D j) = D j
    rcases fold_or (fun p => low t D ps f p.2 - t p.2) j ps (D j) with z | ⟨p, h1, h2, _⟩
    · exact z
    · have := (hps p h1).1
      omega
/-- the relaxation gives the lowered days -/
theorem relN_is (hrk : forall p, p ∈ ps -> rk p.1 < rk p.2) (hj : forall j, j < n -> rk j < n) (hps : forall p, p ∈ ps -> p.1 < n ∧ p.2 < n) : Low n ps t D (relN t D ps n) := by
  have hn : forall p, p ∈ ps -> rk p.2 < n := fun p hp => hj _ (hps p hp).2
  have hl := low_is (t := t) (D := D) hrk hn hj hps
  obtain ⟨a, b, c⟩ := relN_ok hl (fun j h => low_out hps n h) hrk hj hps n
  have e : forall j, j < n -> relN t D ps n j = low t D ps n j := fun j h => c j h (by omega)
  refine ⟨fun j h => a j, fun p hp => ?_, fun j h => ?_⟩
  · rw [e _ (hps p hp).1, e _ (hps p hp).2]
    exact hl.pair p hp
  · rw [e j h]
    rcases hl.or j h with z | ⟨p, h1, h2, h3⟩
    · exact .inl z
    · exact .inr ⟨p, h1, h2, by rw [e _ (hps p h1).2]; exact h3⟩
/-! ### lateness -/
theorem ends_pair {o : List Nat} (ht : forall j, 0 <= t j) (F : Feas n ps o) (hps : forall p, p ∈ ps -> p.1 < n ∧ p.2 < n) {p : Nat × Nat} (hp : p ∈ ps) : endOf t 0 o p.1 + t p.2 <= endOf t 0 o p.2 := by
  obtain ⟨h1, h2⟩ := F
  have nd : o.Nodup := h1.nodup_iff.mpr List.nodup_range
  have hm : p.2 ∈ o := h1.mem_iff.mpr (List.mem_range.mpr (hps p hp).2)
  obtain ⟨a, b, e⟩ := List.append_of_mem hm
  have ha : p.1 ∈ a := h2 a p.2 b e p hp rfl
  obtain ⟨c, d, e2⟩ := List.append_of_mem ha
  subst e
  subst e2
  have nd2 := nd
  rw [List.nodup_append] at nd
  obtain ⟨n1, n2, n3⟩ := nd
  rw [List.nodup_append] at n1
  have z1 : p.2 ∉ c ++ p.1 :: d := fun z => n3 _ z _ List.mem_cons_self rfl
  have z2 : p.1 ∉ c := fun z => n1.2.2 _ z _ List.mem_cons_self rfl
  rw [endOf_at z1, show (c ++ p.1 :: d) ++ p.2 :: b = c ++ p.1 :: (d ++ p.2 :: b) by simp, endOf_at z2, sumT_app]
  have hd : 0 <= sumT t d := by
    clear nd2 z1 z2 n1 n2 n3 h1 h2 hm ha
    induction d with
    | nil => exact Int.le_refl _
    | cons x r ih =>
      have := ht x
      show 0 <= t x + sumT t r
      omega
  show 0 + sumT t c + t p.1 + t p.2 <= 0 + (sumT t c + (t p.1 + sumT t d)) + t p.2
  omega
theorem late_same {L : Nat -> Int} {o : List Nat} (ht : forall j, 0 <= t j) (F : Feas n ps o) (hl : Low n ps t D L) (hrk : forall p, p ∈ ps -> rk p.1 < rk p.2) (hj : forall j, j < n -> rk j < n) (hps : forall p, p ∈ ps -> p.1 < n ∧ p.2 < n) (c : Int) :
    (forall j, j < n -> endOf t 0 o j - L j <= c) <-> forall j, j < n -> endOf t 0 o j - D j <= c := by
  constructor
  · intro h j hj
    have a := h j hj
    have b := hl.le j hj
    omega
  · intro h
    have key : forall (k j : Nat), j < n -> n - rk j <= k -> endOf t 0 o j - L j <= c := by
      intro k
      induction k with
      | zero =>
        intro j h1 h2
        have := hj j h1
        omega
      | succ k ih =>
        intro j h1 h2
        rcases hl.or j h1 with z | ⟨p, hp, e1, e2⟩
        · rw [z]
          exact h j h1
        · have h3 := hrk p hp
          rw [e1] at h3
          have h4 := hj _ (hps p hp).2
          have h5 := ih p.2 (hps p hp).2 (by omega)
          have h6 := ends_pair ht F hps hp
          rw [e1] at h6
          omega
    exact fun j h1 => key n j h1 (by omega)
end
end K6
set_option Elab.async false
set_option linter.all false
set_option maxRecDepth 100000
/-! The text by places, each def's names. -/
namespace K6
open PySem PySem.Spec PyProof.Rows L2
abbrev Prg : Program := PySem.Challenge.pw_shoporders_k06_whole_greatest_costs
def top (i : Nat) : Stmt := Prg.main.body.getD i (.Pass ⟨0, 0, 0, 0⟩)
abbrev FnP (K : PySem.W.Frag) (x : Str) (st : Stmt) (f : Addr) (fd : FuncData) : Prop := FunD K x x (defArgs st) (defBody st) (defScope st) [] [] f fd
abbrev sIsInteger : Stmt := top 1
abbrev nIsInteger : List Str := ["value"]
theorem scIsInteger : FnScope nIsInteger ["value"] (defScope sIsInteger) := ⟨rfl, rfl, rfl, by decide +kernel, rfl, by decide +kernel, by decide +kernel⟩
theorem biIsInteger {K : PySem.W.Frag} {f : Addr} {fd : FuncData} (F : FnP K "is_integer" sIsInteger f fd) : Binds K fd ["value"] [] := F.bindsN fun _ _ _ _ _ _ us hl => match us, hl with | [_], _ => rfl
abbrev sIsIn : Stmt := top 2
abbrev nIsIn : List Str := ["value", "least", "most"]
theorem scIsIn : FnScope nIsIn ["value", "least", "most"] (defScope sIsIn) := ⟨rfl, rfl, rfl, by decide +kernel, rfl, by decide +kernel, by decide +kernel⟩
theorem biIsIn {K : PySem.W.Frag} {f : Addr} {fd : FuncData} (F : FnP K "is_in" sIsIn f fd) : Binds K fd ["value", "least", "most"] [] := F.bindsN fun _ _ _ _ _ _ us hl => match us, hl with | [_, _, _], _ => rfl
abbrev sIsList : Stmt := top 3
abbrev nIsList : List Str := ["value", "least", "most"]
theorem scIsList : FnScope nIsList ["value", "least", "most"] (defScope sIsList) := ⟨rfl, rfl, rfl, by decide +kernel, rfl, by decide +kernel, by decide +kernel⟩
theorem biIsList {K : PySem.W.Frag} {f : Addr} {fd : FuncData} (F : FnP K "is_list" sIsList f fd) : Binds K fd ["value", "least", "most"] [] := F.bindsN fun _ _ _ _ _ _ us hl => match us, hl with | [_, _, _], _ => rfl
abbrev sFirstBad : Stmt := top 18
abbrev nFirstBad : List Str := ["value", "many", "low", "high", "index", "item"]
theorem scFirstBad : FnScope nFirstBad ["value", "many", "low", "high"] (defScope sFirstBad) := ⟨rfl, rfl, rfl, by decide +kernel, rfl, by decide +kernel, by decide +kernel⟩
theorem biFirstBad {K : PySem.W.Frag} {f : Addr} {fd : FuncData} (F : FnP K "first_bad" sFirstBad f fd) : Binds K fd ["value", "many", "low", "high"] [] := F.bindsN fun _ _ _ _ _ _ us hl => match us, hl with | [_, _, _, _], _ => rfl
abbrev sNeedTimes : Stmt := top 19
abbrev nNeedTimes : List Str := ["times", "index"]
theorem scNeedTimes : FnScope nNeedTimes ["times"] (defScope sNeedTimes) := ⟨rfl, rfl, rfl, by decide +kernel, rfl, by decide +kernel, by decide +kernel⟩
theorem biNeedTimes {K : PySem.W.Frag} {f : Addr} {fd : FuncData} (F : FnP K "need_times" sNeedTimes f fd) : Binds K fd ["times"] [] := F.bindsN fun _ _ _ _ _ _ us hl => match us, hl with | [_], _ => rfl
abbrev sNeedWeights : Stmt := top 20
abbrev nNeedWeights : List Str := ["weights", "many", "index"]
theorem scNeedWeights : FnScope nNeedWeights ["weights", "many"] (defScope sNeedWeights) := ⟨rfl, rfl, rfl, by decide +kernel, rfl, by decide +kernel, by decide +kernel⟩
theorem biNeedWeights {K : PySem.W.Frag} {f : Addr} {fd : FuncData} (F : FnP K "need_weights" sNeedWeights f fd) : Binds K fd ["weights", "many"] [] := F.bindsN fun _ _ _ _ _ _ us hl => match us, hl with | [_, _], _ => rfl
abbrev sNeedDues : Stmt := top 21
abbrev nNeedDues : List Str := ["dues", "many", "index"]
theorem scNeedDues : FnScope nNeedDues ["dues", "many"] (defScope sNeedDues) := ⟨rfl, rfl, rfl, by decide +kernel, rfl, by decide +kernel, by decide +kernel⟩
theorem biNeedDues {K : PySem.W.Frag} {f : Addr} {fd : FuncData} (F : FnP K "need_dues" sNeedDues f fd) : Binds K fd ["dues", "many"] [] := F.bindsN fun _ _ _ _ _ _ us hl => match us, hl with | [_, _], _ => rfl
abbrev sIsOrder : Stmt := top 22
abbrev nIsOrder : List Str := ["value", "many", "job"]
theorem scIsOrder : FnScope nIsOrder ["value", "many"] (defScope sIsOrder) := ⟨rfl, rfl, rfl, by decide +kernel, rfl, by decide +kernel, by decide +kernel⟩
theorem biIsOrder {K : PySem.W.Frag} {f : Addr} {fd : FuncData} (F : FnP K "is_order" sIsOrder f fd) : Binds K fd ["value", "many"] [] := F.bindsN fun _ _ _ _ _ _ us hl => match us, hl with | [_, _], _ => rfl
abbrev sNeedOrder : Stmt := top 23
abbrev nNeedOrder : List Str := ["order", "many"]
theorem scNeedOrder : FnScope nNeedOrder ["order", "many"] (defScope sNeedOrder) := ⟨rfl, rfl, rfl, by decide +kernel, rfl, by decide +kernel, by decide +kernel⟩
theorem biNeedOrder {K : PySem.W.Frag} {f : Addr} {fd : FuncData} (F : FnP K "need_order" sNeedOrder f fd) : Binds K fd ["order", "many"] [] := F.bindsN fun _ _ _ _ _ _ us hl => match us, hl with | [_, _], _ => rfl
abbrev sNeedPairs : Stmt := top 24
abbrev nNeedPairs : List Str := ["pairs", "many", "index", "pair", "job"]
theorem scNeedPairs : FnScope nNeedPairs ["pairs", "many"] (defScope sNeedPairs) := ⟨rfl, rfl, rfl, by decide +kernel, rfl, by decide +kernel, by decide +kernel⟩
theorem biNeedPairs {K : PySem.W.Frag} {f : Addr} {fd : FuncData} (F : FnP K "need_pairs" sNeedPairs f fd) : Binds K fd ["pairs", "many"] [] := F.bindsN fun _ _ _ _ _ _ us hl => match us, hl with | [_, _], _ => rfl
abbrev sFirstOrder : Stmt := top 25
abbrev nFirstOrder : List Str := ["pairs", "many", "found", "able"]
theorem scFirstOrder : FnScope nFirstOrder ["pairs", "many"] (defScope sFirstOrder) := ⟨rfl, rfl, rfl, by decide +kernel, rfl, by decide +kernel, by decide +kernel⟩
theorem biFirstOrder {K : PySem.W.Frag} {f : Addr} {fd : FuncData} (F : FnP K "first_order" sFirstOrder f fd) : Binds K fd ["pairs", "many"] [] := F.bindsN fun _ _ _ _ _ _ us hl => match us, hl with | [_, _], _ => rfl
abbrev sAbleJobs : Stmt := top 26
abbrev nAbleJobs : List Str := ["pairs", "done", "many", "left", "job", "pair"]
theorem scAbleJobs : FnScope nAbleJobs ["pairs", "done", "many"] (defScope sAbleJobs) := ⟨rfl, rfl, rfl, by decide +kernel, rfl, by decide +kernel, by decide +kernel⟩
theorem biAbleJobs {K : PySem.W.Frag} {f : Addr} {fd : FuncData} (F : FnP K "able_jobs" sAbleJobs f fd) : Binds K fd ["pairs", "done", "many"] [] := F.bindsN fun _ _ _ _ _ _ us hl => match us, hl with | [_, _, _], _ => rfl
abbrev sEndsIn : Stmt := top 28
abbrev nEndsIn : List Str := ["times", "order", "found", "day", "job"]
theorem scEndsIn : FnScope nEndsIn ["times", "order"] (defScope sEndsIn) := ⟨rfl, rfl, rfl, by decide +kernel, rfl, by decide +kernel, by decide +kernel⟩
theorem biEndsIn {K : PySem.W.Frag} {f : Addr} {fd : FuncData} (F : FnP K "ends_in" sEndsIn f fd) : Binds K fd ["times", "order"] [] := F.bindsN fun _ _ _ _ _ _ us hl => match us, hl with | [_, _], _ => rfl
abbrev sNeedWeighed : Stmt := top 29
abbrev nNeedWeighed : List Str := ["times", "weights"]
theorem scNeedWeighed : FnScope nNeedWeighed ["times", "weights"] (defScope sNeedWeighed) := ⟨rfl, rfl, rfl, by decide +kernel, rfl, by decide +kernel, by decide +kernel⟩
theorem biNeedWeighed {K : PySem.W.Frag} {f : Addr} {fd : FuncData} (F : FnP K "need_weighed" sNeedWeighed f fd) : Binds K fd ["times", "weights"] [] := F.bindsN fun _ _ _ _ _ _ us hl => match us, hl with | [_, _], _ => rfl
abbrev sNeedCosts : Stmt := top 31
abbrev nNeedCosts : List Str := ["times", "weights", "dues", "pairs"]
theorem scNeedCosts : FnScope nNeedCosts ["times", "weights", "dues", "pairs"] (defScope sNeedCosts) := ⟨rfl, rfl, rfl, by decide +kernel, rfl, by decide +kernel, by decide +kernel⟩
theorem biNeedCosts {K : PySem.W.Frag} {f : Addr} {fd : FuncData} (F : FnP K "need_costs" sNeedCosts f fd) : Binds K fd ["times", "weights", "dues", "pairs"] [] := F.bindsN fun _ _ _ _ _ _ us hl => match us, hl with | [_, _, _, _], _ => rfl
abbrev sCostAt : Stmt := top 32
abbrev nCostAt : List Str := ["weight", "due", "end"]
theorem scCostAt : FnScope nCostAt ["weight", "due", "end"] (defScope sCostAt) := ⟨rfl, rfl, rfl, by decide +kernel, rfl, by decide +kernel, by decide +kernel⟩
theorem biCostAt {K : PySem.W.Frag} {f : Addr} {fd : FuncData} (F : FnP K "cost_at" sCostAt f fd) : Binds K fd ["weight", "due", "end"] [] := F.bindsN fun _ _ _ _ _ _ us hl => match us, hl with | [_, _, _], _ => rfl
abbrev sGreatestIn : Stmt := top 33
abbrev nGreatestIn : List Str := ["times", "weights", "dues", "order", "rows", "weight", "due", "end"]
theorem scGreatestIn : FnScope nGreatestIn ["times", "weights", "dues", "order"] (defScope sGreatestIn) := ⟨rfl, rfl, rfl, by decide +kernel, rfl, by decide +kernel, by decide +kernel⟩
theorem biGreatestIn {K : PySem.W.Frag} {f : Addr} {fd : FuncData} (F : FnP K "greatest_in" sGreatestIn f fd) : Binds K fd ["times", "weights", "dues", "order"] [] := F.bindsN fun _ _ _ _ _ _ us hl => match us, hl with | [_, _, _, _], _ => rfl
abbrev sGreatestCost : Stmt := top 34
abbrev nGreatestCost : List Str := ["times", "weights", "dues", "order"]
theorem scGreatestCost : FnScope nGreatestCost ["times", "weights", "dues", "order"] (defScope sGreatestCost) := ⟨rfl, rfl, rfl, by decide +kernel, rfl, by decide +kernel, by decide +kernel⟩
theorem biGreatestCost {K : PySem.W.Frag} {f : Addr} {fd : FuncData} (F : FnP K "greatest_cost" sGreatestCost f fd) : Binds K fd ["times", "weights", "dues", "order"] [] := F.bindsN fun _ _ _ _ _ _ us hl => match us, hl with | [_, _, _, _], _ => rfl
abbrev sLeastGreatest : Stmt := top 35
abbrev nLeastGreatest : List Str := ["times", "weights", "dues", "pairs", "left", "found", "able", "last", "day", "job", "pair"]
theorem scLeastGreatest : FnScope nLeastGreatest ["times", "weights", "dues", "pairs"] (defScope sLeastGreatest) := ⟨rfl, rfl, rfl, by decide +kernel, rfl, by decide +kernel, by decide +kernel⟩
theorem biLeastGreatest {K : PySem.W.Frag} {f : Addr} {fd : FuncData} (F : FnP K "least_greatest" sLeastGreatest f fd) : Binds K fd ["times", "weights", "dues", "pairs"] [] := F.bindsN fun _ _ _ _ _ _ us hl => match us, hl with | [_, _, _, _], _ => rfl
abbrev sDueDays : Stmt := top 36
abbrev nDueDays : List Str := ["times", "dues", "pairs", "found", "turn", "one", "other"]
theorem scDueDays : FnScope nDueDays ["times", "dues", "pairs"] (defScope sDueDays) := ⟨rfl, rfl, rfl, by decide +kernel, rfl, by decide +kernel, by decide +kernel⟩
theorem biDueDays {K : PySem.W.Frag} {f : Addr} {fd : FuncData} (F : FnP K "due_days" sDueDays f fd) : Binds K fd ["times", "dues", "pairs"] [] := F.bindsN fun _ _ _ _ _ _ us hl => match us, hl with | [_, _, _], _ => rfl
abbrev sTaken : Stmt := top 38
abbrev nTaken : List Str := ["_law_row", "_law_many", "_law_found", "_law_cell"]
theorem scTaken : FnScope nTaken ["_law_row", "_law_many"] (defScope sTaken) := ⟨rfl, rfl, rfl, by decide +kernel, rfl, by decide +kernel, by decide +kernel⟩
theorem biTaken {K : PySem.W.Frag} {f : Addr} {fd : FuncData} (F : FnP K "_law_taken" sTaken f fd) : Binds K fd ["_law_row", "_law_many"] [] := F.bindsN fun _ _ _ _ _ _ us hl => match us, hl with | [_, _], _ => rfl
abbrev sPick : Stmt := top 39
abbrev nPick : List Str := ["_law_row", "_law_things"]
theorem scPick : FnScope nPick ["_law_row", "_law_things"] (defScope sPick) := ⟨rfl, rfl, rfl, by decide +kernel, rfl, by decide +kernel, by decide +kernel⟩
theorem biPick {K : PySem.W.Frag} {f : Addr} {fd : FuncData} (F : FnP K "_law_pick" sPick f fd) : Binds K fd ["_law_row", "_law_things"] [] := F.bindsN fun _ _ _ _ _ _ us hl => match us, hl with | [_, _], _ => rfl
abbrev sAlike : Stmt := top 40
abbrev nAlike : List Str := ["_law_found", "_law_due", "_law_k"]
theorem scAlike : FnScope nAlike ["_law_found", "_law_due"] (defScope sAlike) := ⟨rfl, rfl, rfl, by decide +kernel, rfl, by decide +kernel, by decide +kernel⟩
theorem biAlike {K : PySem.W.Frag} {f : Addr} {fd : FuncData} (F : FnP K "_law_alike" sAlike f fd) : Binds K fd ["_law_found", "_law_due"] [] := F.bindsN fun _ _ _ _ _ _ us hl => match us, hl with | [_, _], _ => rfl
abbrev sJobs : Stmt := top 41
abbrev nJobs : List Str := ["_law_row", "_law_most", "_law_time", "_law_many", "_law_top", "_law_wide", "_law_times", "_law_weights", "_law_last", "_law_dues", "_law_at"]
theorem scJobs : FnScope nJobs ["_law_row", "_law_most", "_law_time"] (defScope sJobs) := ⟨rfl, rfl, rfl, by decide +kernel, rfl, by decide +kernel, by decide +kernel⟩
theorem biJobs {K : PySem.W.Frag} {f : Addr} {fd : FuncData} (F : FnP K "_law_jobs" sJobs f fd) : Binds K fd ["_law_row", "_law_most", "_law_time"] [] := F.bindsN fun _ _ _ _ _ _ us hl => match us, hl with | [_, _, _], _ => rfl
abbrev sOrder : Stmt := top 42
abbrev nOrder : List Str := ["_law_row", "_law_many", "_law_left", "_law_found", "_law_turn"]
theorem scOrder : FnScope nOrder ["_law_row", "_law_many"] (defScope sOrder) := ⟨rfl, rfl, rfl, by decide +kernel, rfl, by decide +kernel, by decide +kernel⟩
theorem biOrder {K : PySem.W.Frag} {f : Addr} {fd : FuncData} (F : FnP K "_law_order" sOrder f fd) : Binds K fd ["_law_row", "_law_many"] [] := F.bindsN fun _ _ _ _ _ _ us hl => match us, hl with | [_, _], _ => rfl
abbrev sOrders : Stmt := top 43
abbrev nOrders : List Str := ["_law_many", "_law_pairs_here", "_law_found", "_law_turn", "_law_longer", "_law_part", "_law_job", "_law_pair"]
theorem scOrders : FnScope nOrders ["_law_many", "_law_pairs_here"] (defScope sOrders) := ⟨rfl, rfl, rfl, by decide +kernel, rfl, by decide +kernel, by decide +kernel⟩
theorem biOrders {K : PySem.W.Frag} {f : Addr} {fd : FuncData} (F : FnP K "_law_orders" sOrders f fd) : Binds K fd ["_law_many", "_law_pairs_here"] [] := F.bindsN fun _ _ _ _ _ _ us hl => match us, hl with | [_, _], _ => rfl
abbrev sEnds : Stmt := top 44
abbrev nEnds : List Str := ["_law_times", "_law_order_here", "_law_found", "_law_day", "_law_job"]
theorem scEnds : FnScope nEnds ["_law_times", "_law_order_here"] (defScope sEnds) := ⟨rfl, rfl, rfl, by decide +kernel, rfl, by decide +kernel, by decide +kernel⟩
theorem biEnds {K : PySem.W.Frag} {f : Addr} {fd : FuncData} (F : FnP K "_law_ends" sEnds f fd) : Binds K fd ["_law_times", "_law_order_here"] [] := F.bindsN fun _ _ _ _ _ _ us hl => match us, hl with | [_, _], _ => rfl
abbrev sLate : Stmt := top 45
abbrev nLate : List Str := ["_law_times", "_law_dues", "_law_order_here", "_law_days", "_law_at"]
theorem scLate : FnScope nLate ["_law_times", "_law_dues", "_law_order_here"] (defScope sLate) := ⟨rfl, rfl, rfl, by decide +kernel, rfl, by decide +kernel, by decide +kernel⟩
theorem biLate {K : PySem.W.Frag} {f : Addr} {fd : FuncData} (F : FnP K "_law_late" sLate f fd) : Binds K fd ["_law_times", "_law_dues", "_law_order_here"] [] := F.bindsN fun _ _ _ _ _ _ us hl => match us, hl with | [_, _, _], _ => rfl
abbrev sPairs : Stmt := top 46
abbrev nPairs : List Str := ["_law_row", "_law_many", "_law_order_here", "_law_found", "_law_dense", "_law_one", "_law_other"]
theorem scPairs : FnScope nPairs ["_law_row", "_law_many"] (defScope sPairs) := ⟨rfl, rfl, rfl, by decide +kernel, rfl, by decide +kernel, by decide +kernel⟩
theorem biPairs {K : PySem.W.Frag} {f : Addr} {fd : FuncData} (F : FnP K "_law_pairs" sPairs f fd) : Binds K fd ["_law_row", "_law_many"] [] := F.bindsN fun _ _ _ _ _ _ us hl => match us, hl with | [_, _], _ => rfl
abbrev sGreatest : Stmt := top 47
abbrev nGreatest : List Str := ["_law_times", "_law_weights", "_law_dues", "_law_order_here", "_law_ends_here", "_law_at"]
theorem scGreatest : FnScope nGreatest ["_law_times", "_law_weights", "_law_dues", "_law_order_here"] (defScope sGreatest) := ⟨rfl, rfl, rfl, by decide +kernel, rfl, by decide +kernel, by decide +kernel⟩
theorem biGreatest {K : PySem.W.Frag} {f : Addr} {fd : FuncData} (F : FnP K "_law_greatest" sGreatest f fd) : Binds K fd ["_law_times", "_law_weights", "_law_dues", "_law_order_here"] [] := F.bindsN fun _ _ _ _ _ _ us hl => match us, hl with | [_, _, _, _], _ => rfl
abbrev sLaw : Stmt := top 48
abbrev nLaw : List Str := ["_law_script", "_law_row", "_law_times", "_law_weights", "_law_dues", "_law_many", "_law_pairs_here", "_law_every", "_law_best", "_law_drawn", "_law_low", "_law_at", "_law_due", "_law_order_here", "_law_one", "_law_other"]
theorem scLaw : FnScope nLaw ["_law_script"] (defScope sLaw) := ⟨rfl, rfl, rfl, by decide +kernel, rfl, by decide +kernel, by decide +kernel⟩
theorem biLaw {K : PySem.W.Frag} {f : Addr} {fd : FuncData} (F : FnP K "law" sLaw f fd) : Binds K fd ["_law_script"] [] := F.bindsN fun _ _ _ _ _ _ us hl => match us, hl with | [_], _ => rfl
end K6
set_option Elab.async false
set_option linter.all false
set_option maxRecDepth 100000
set_option maxHeartbeats 2000000
/-! Rules: enumerate(tuple), len(set(tuple)). -/
namespace K6
open PySem PySem.Spec PyProof.Rows L2
/-! ### enumerate(tuple) -/
def IteT (K : PySem.W.Frag) (a : Addr) : It :=
  ⟨fun i H => ∃ (xs : List V) (x : V), SqT K H a xs ∧ xs[i]? = some x, fun i H v H' => ∃ T x, v = .ref T ∧ H T = none ∧ H' = upd H T (.tup [.int (i : Nat), x]) ∧ ∀ xs, SqT K H a xs → xs[i]? = some x, fun i H => ∃ xs : List V, SqT K H a xs ∧ xs.length = i⟩
theorem turn_enumT {P : Program} {w : World} {K : PySem.W.Frag} {elts : List Expr} {kk : Nat} {tpos : Pos} (a e it : Addr) (hai : a ≠ it) (hae : a ≠ e) :
    Turn P w K (.Tuple elts kk tpos) (IteT K a) [e, it] e (fun i h => (∃ old, IsEnum h e it ((i : Nat) : Int) old) ∧ h.IsTupleIter it a i ∧ e ≠ it) where
  mem := by simp
  obj := fun i h st b hb => by
    obtain ⟨⟨old, he⟩, ⟨o, ho, hc, hd⟩, _⟩ := st
    have e' : b = e ∨ b = it := by simpa using hb
    rcases e' with z | z
    · rw [z]; exact ⟨_, he, fun v q => nomatch q⟩
    · rw [z]; exact ⟨o, ho, fun v q => by rw [hd] at q; cases q⟩
  keep := fun i h h' st k => let ⟨⟨old, he⟩, hi, hne⟩ := st; ⟨⟨old, k e (by simp) _ he⟩, hi.at fun o q => k it (by simp) o q, hne⟩
  item := by
    intro X hP hw hK hc i pins s σ H E I hf st hg
    subst hP hw hK
    obtain ⟨⟨old, he⟩, hit, hne⟩ := st
    obtain ⟨xs, x, hq, hx⟩ := hg
    obtain ⟨its, rv, p, hz⟩ := I.tuple hq
    obtain ⟨u, hu, ru⟩ := rv.get hx
    have hel : e < s.heap.objs.size := Heap.lt_size he
    have hil : it < s.heap.objs.size := by obtain ⟨_, q, _⟩ := hit; exact Heap.lt_size q
    have p' : s.heap.IsTuple a its.toArray := p
    have hlt : i < its.toArray.size := by
      have := (List.getElem?_eq_some_iff.mp hu).1
      simpa using this
    refine wpAny_pyNext_enum_itemD (Draws.tuple (A := X.A.in1) (I.ok.hd hc) it a hai its.toArray) he ⟨hit, p'⟩ hlt hne (by simp [hne, Ne.symm hae]) fun x2 h' tk hP2 ho st' hT hsz hk => ?_
    have ex : x2 = u := by
      have h1 : its.toArray[i]? = some x2 := hP2
      have h2 : its.toArray[i]? = some u := by simpa using hu
      rw [h1] at h2
      exact Option.some.inj h2
    subst ex
    refine ⟨_, rfl, wpAny_letOwnedTupleGo_enum (s := { s with heap := h', toks := tk + 1 }) ho fun h'' he' sb => ?_⟩
    have hT2 : h''.get? s.heap.objs.size = some { cls := .type "tuple", data := .seq #[.int i tk, x2] } := (sb.2 _ (Nat.ne_of_gt hel)).trans hT
    have new : ObjOk X.prog X.w (upd H s.heap.objs.size (.tup [.int (i : Nat), x])) h'' s.heap.objs.size (.tup [.int (i : Nat), x]) :=
      ⟨by show 2 ≤ sizeLine; decide, [.int i tk, x2], .cons ⟨_, rfl⟩ (.cons ru .nil), ⟨_, hT2, rfl, _, rfl⟩⟩
    have I1 : Inv X pins σ (upd H s.heap.objs.size (.tup [.int (i : Nat), x])) { s with heap := h'', toks := tk + 1 } :=
      I.turnedNew (ch := [e, it]) (fun b ob hb q => (sb.2 b (fun z => hb (by simp [z]))).trans (hk b ob (fun z => hb (by simp [z])) (fun z => hb (by simp [z])) q)) hf (Nat.le_refl _) new
    refine ⟨.ref s.heap.objs.size, _, I1, rfl, ⟨_, x, rfl, I.hok.fresh (Nat.le_refl _), rfl, fun ys hy => by rw [I.tuple_inj hy hq]; exact hx⟩, ⟨⟨x2, ?_⟩, st'.1.at fun o q => (sb.2 it (Ne.symm hne)).trans q, hne⟩, fun b hb => ?_⟩
    · have e1 : ((i + 1 : Nat) : Int) = (i : Int) + 1 := by omega
      rw [e1]; exact he'
    · have hb' : b < s.heap.objs.size := by
        have e' : b = e ∨ b = it := by simpa using hb
        rcases e' with z | z
        · rw [z]; exact hel
        · rw [z]; exact hil
      rw [upd_ne (Nat.ne_of_lt hb')]
      exact (hf b hb).1
  done := by
    intro X hP hw hK hc i pins s σ H E I hf st hg
    subst hP hw hK
    obtain ⟨⟨old, he⟩, hit, hne⟩ := st
    obtain ⟨xs, hq, hx⟩ := hg
    obtain ⟨its, rv, p, hz⟩ := I.tuple hq
    obtain ⟨f0, f1, f2, f3, f4, f5⟩ := hf it (by simp)
    have hl := rv.length
    have p' : s.heap.IsTuple a its.toArray := p
    have e0 : i = its.toArray.size := by
      rw [List.size_toArray]
      omega
    subst e0
    exact wpAny_pyNext_enum_endD (Draws.tuple (A := X.A.in1) (I.ok.hd hc) it a hai its.toArray) he ⟨hit, p'⟩ fun h' eb => ⟨rfl, I.turned (t' := s.toks) (fun b o hb q => eb b o hb q) f0 f1 f3 f4 f5⟩
  self := fun A i s Q E st h => let ⟨⟨_, he⟩, _⟩ := st; wpAny_pyIter_enum he h
theorem meets_enum_newT (l : Addr) (items : Array Value) :
    Meets (Builtin.«enumerate.__new__» ⟨[.type "enumerate", .ref l], []⟩) (fun _ R s => s.heap.IsTuple l items ∧
      R (.ok (.ret (.ref (s.heap.push { cls := .type "tuple_iterator", data := .fields #[.ref l, .int 0 0] }).objs.size)))
        { s with heap := (s.heap.push { cls := .type "tuple_iterator", data := .fields #[.ref l, .int 0 0] }).push { cls := .type "enumerate", data := .fields #[.none, .bool false, .ref s.heap.objs.size, rawInt 0, .none, .none] } }) :=
  .of_wp fun prog w A R s h => by
    obtain ⟨hp, g, d, tk, os⟩ := s; obtain ⟨hl, h⟩ := h
    have hsub := sub_enumerate
    have q1 : ∀ {A' : Around} {E : Value → Shared → Prop} {Q : Value → Shared → Prop}, Q (.ref hp.objs.size) ⟨hp.push { cls := .type "tuple_iterator", data := .fields #[.ref l, .int 0 0] }, g, d, tk, os⟩ → wpAny (model prog w) A' (pyIter (.ref l)) Q E ⟨hp, g, d, tk, os⟩ :=
      fun q => wpAny_pyIter_tuple (s := ⟨hp, g, d, tk, os⟩) hl q
    wp_walk using q1
    refine wpAny_stack_any fun st => wpAny_pure ?_
    split
    · rename_i c _ _ _ _ _
      cases (c == Value.type "enumerate")
      · wp_walk using q1
        exact ⟨_, rfl, h⟩
      · wp_walk using q1
        exact ⟨_, rfl, h⟩
    · wp_walk using q1
      exact ⟨_, rfl, h⟩
section
variable {prog : Program} {w : World} {A : Around} {E : Value → Shared → Prop} {s : Shared}
theorem call_enum_tuple {l : Addr} {items : Array Value} {Q : Value → Shared → Prop} (hL : s.heap.IsTuple l items)
    (h : ∀ h', IsEnum h' (s.heap.objs.size + 1) s.heap.objs.size 0 .none → h'.IsTupleIter s.heap.objs.size l 0 → h'.objs.size = s.heap.objs.size + 2 →
      (∀ b o, s.heap.get? b = some o → h'.get? b = some o) → Q (.ref (s.heap.objs.size + 1)) { s with heap := h' }) :
    wpAny (model prog w) A (call (.type "enumerate") [.ref l]) Q E s := by
  refine callType_new F.called_enumerate (by decide) (F.typeCall_enumerate_1 _) (F.newCall_enumerate_1 _) (fun obj => F.args_object_init_2 obj _) F.entry_enumerate_new
    (meets_enum_newT l items) ⟨hL, ?_⟩
  have hz : (s.heap.push { cls := .type "tuple_iterator", data := .fields #[.ref l, .int 0 0] }).objs.size = s.heap.objs.size + 1 := Heap.size_push ..
  show _ ∧ _
  rw [hz]
  have he : IsEnum ((s.heap.push { cls := .type "tuple_iterator", data := .fields #[.ref l, .int 0 0] }).push
      { cls := .type "enumerate", data := .fields #[.none, .bool false, .ref s.heap.objs.size, rawInt 0, .none, .none] }) (s.heap.objs.size + 1) s.heap.objs.size 0 .none := by
    have := Heap.get?_push_size (s.heap.push { cls := .type "tuple_iterator", data := .fields #[.ref l, .int 0 0] })
      (o := { cls := .type "enumerate", data := .fields #[.none, .bool false, .ref s.heap.objs.size, rawInt 0, .none, .none] }) rfl
    rw [hz] at this; exact this
  refine ⟨⟨_, he, rfl⟩, h _ he ⟨_, Heap.get?_push_of_some _ (Heap.get?_push_size _ rfl), rfl, rfl⟩ (by rw [Heap.size_push, hz]) fun b o x => Heap.get?_push_of_some _ (Heap.get?_push_of_some _ x)⟩
end
def iEnumT (K : PySem.W.Frag) (ta : TA) : TI := fun σ H R => ta σ H fun vs H1 => ∃ a xs, vs = [.ref a] ∧ SqT K H1 a xs ∧ R (IteT K a) H1
theorem pi_enumT {X : Cx} {e : Expr} {ta : TA} {p pos tpos : Pos} {elts : List Expr} {kk : Nat} (hg : Gl X "enumerate") (hm : X.mg "enumerate" = none) (ha : PA X [e] ta) (hs : starEach [e] X.env = [(false, eval e X.env)] := by rfl) :
    PI X (.Tuple elts kk tpos) (.Call (.Name "enumerate" p) [e] [] pos) (iEnumT X.K ta) := by
  refine ⟨fun pins s σ H R I h => ?_⟩
  refine Call_ (ld_blt I hg hm boot_enumerate (PyProof.Rows.callWith_type1 (thn (ha.run pos pins s σ H _ I h) fun us s1 ⟨vs, H1, I1, r1, q1⟩ => ?_) hs rfl))
  obtain ⟨a, xs, ex, hq, q⟩ := q1
  subst ex
  cases r1 with
  | cons r rr =>
    cases rr
    cases r
    obtain ⟨its, rv, p', hz⟩ := I1.tuple hq
    have hal : a < s1.heap.objs.size := p'.lt
    refine call_enum_tuple (show s1.heap.IsTuple a its.toArray from p') fun h' he hit hsz hk => wpAny_pyIter_enum he ?_
    have I2 : Inv X pins σ H1 { s1 with heap := h' } := I1.kept (t' := s1.toks) hk
    refine ⟨s1.heap.objs.size + 1, [s1.heap.objs.size + 1, s1.heap.objs.size], _, _, H1, rfl, I2, turn_enumT a (s1.heap.objs.size + 1) s1.heap.objs.size (Nat.ne_of_lt hal) (Nat.ne_of_lt (Nat.lt_succ_of_lt hal)), ⟨⟨.none, he⟩, hit, Nat.succ_ne_self _⟩, fun b hb => ?_, q⟩
    have e' : b = s1.heap.objs.size + 1 ∨ b = s1.heap.objs.size := by simpa using hb
    have hle : s1.heap.objs.size ≤ b := by
      rcases e' with z | z
      · rw [z]; exact Nat.le_add_right _ _
      · rw [z]; exact Nat.le_refl _
    exact I1.fpOk hle (I1.hok.fresh hle)
theorem walk_enumT {K : PySem.W.Frag} {a : Addr} {xs : List V} : Walk (IteT K a) xs.length (fun H => SqT K H a xs) (YPair (fun i => some (.int (i : Nat))) (fun i => xs[i]?)) := by
  refine ⟨fun i _ hi q => ⟨xs, xs[i], q, by simp [hi]⟩, fun _ q => ⟨xs, q, rfl⟩, fun i H v H' _ q y => ?_⟩
  obtain ⟨T, x, h1, h2, h3, h4⟩ := y
  exact ⟨T, .int (i : Nat), x, h1, h2, h3, rfl, h4 xs q⟩
end K6
set_option Elab.async false
set_option linter.all false
set_option maxRecDepth 100000
set_option maxHeartbeats 2000000
/-! Rules: len(set(tuple)). -/
namespace K6
open PySem PySem.Spec PyProof.Rows L2
theorem nodup_len {α : Type} [DecidableEq α] : ∀ {a b : List α}, a.Nodup → (∀ x ∈ a, x ∈ b) → a.length ≤ b.length
  | [], _, _, _ => Nat.zero_le _
  | x :: r, b, h, hs => by
    obtain ⟨h1, h2⟩ := List.nodup_cons.mp h
    have hx : x ∈ b := hs x List.mem_cons_self
    have hl : (b.erase x).length = b.length - 1 := List.length_erase_of_mem hx
    have hp : 0 < b.length := List.length_pos_of_mem hx
    have ih := nodup_len (a := r) (b := b.erase x) h2 fun y hy => (List.mem_erase_of_ne (fun (e : y = x) => h1 (by rw [← e]; exact hy))).mpr (hs y (List.mem_cons_of_mem _ hy))
    rw [List.length_cons]
    omega
def tLenSetT (K : PySem.W.Frag) (ta : TE) : TE := fun σ H Q => ta σ H fun x H1 => ∃ (l : Addr) (ns : List Int), x = .ref l ∧ SqT K H1 l (ns.map V.int) ∧ ns.Nodup ∧ ns.length ≤ 4000 ∧ Q (.int (ns.length : Nat)) H1
theorem pe_lenSetT {X : Cx} {a : Expr} {ta : TE} {p p2 q pos : Pos} (hg : Gl X "len") (hm : X.mg "len" = none) (hg2 : Gl X "set") (hm2 : X.mg "set" = none) (ha : PE X a ta) (hc : X.calm = true := by rfl)
    (na : starEach [a] X.env = (false, eval a X.env) :: starEach [] X.env := by rfl) : PE X (.Call (.Name "len" p) [.Call (.Name "set" p2) [a] [] q] [] pos) (tLenSetT X.K ta) := by
  refine ⟨fun pins s σ H Q I h => ?_⟩
  refine Call_ (ld_blt I hg hm boot_len ?_)
  refine PyProof.Rows.callWith_builtin1 (PyProof.Rows.args_cons ?_ rfl) rfl rfl
  refine Call_ (ld_blt I hg2 hm2 boot_set ?_)
  refine PyProof.Rows.callWith_type1 (PyProof.Rows.args_cons (thn (ha.run pins s σ H _ I h) fun v s1 ⟨x, H1, I1, r1, q1⟩ => PyProof.Rows.args_nil ?_) na) na rfl
  obtain ⟨l, ns, rfl, hq, hnd, hl, q1⟩ := q1
  cases r1
  obtain ⟨its, r, pl, hz⟩ := I1.tuple hq
  refine call_set_tupI ns (I1.ok.hd hc) (show s1.heap.IsTuple l its.toArray from pl) (by simpa using RZ.intsAre_vals r) (by unfold scanBound; omega) fun h' tk c hS hc' hk => ?_
  refine PyProof.Rows.args_nil ?_
  obtain ⟨o, es, ep, t, ho, hex, hd, g, nd, hm', hb, hf, hn, _⟩ := hS
  have e1 : es.toList.map keyOf = es.toList.map keyOf := rfl
  have l1 : ns.length ≤ (es.toList.map keyOf).length := nodup_len hnd fun x hx => (hm' x).mp (decide_eq_true hx)
  have l2 : (es.toList.map keyOf).length = es.size := by simp
  rw [l2, hn] at l1
  have ec : c = ns.length := by omega
  have I2 : Inv X pins σ H1 { s1 with heap := h', toks := tk } := I1.kept hk
  exact call_len_set ho hex hd hf (by rw [hn] <;> omega) ⟨.int ns.length, H1, I2.tok _, ⟨_, by rw [hn, ec]⟩, q1⟩
end K6
set_option Elab.async false
set_option linter.all false
set_option maxRecDepth 100000
set_option maxHeartbeats 4000000
/-! Rules: zip of two tuples and a list, kept in a name, then walked. -/
namespace K6
open PySem PySem.Spec PyProof.Rows L2
/-- exactly this object, not older than N0 -/
def CellO (N0 : Nat) (a : Addr) (o : Obj) : HO := .ext fun h => h.get? a = some o ∧ N0 ≤ a
theorem cellO_ok {P : Program} {w : World} {H : Hp} {h : Heap} {N0 : Nat} {a : Addr} {o : Obj} (e : h.get? a = some o) (l : N0 ≤ a) : ObjOk P w H h a (CellO N0 a o) := ⟨⟨e, l⟩, ⟨o, e⟩, fun _ _ p k => ⟨k _ p.1, p.2⟩⟩
abbrev zO1 (a : Addr) : Obj := { cls := .type "tuple_iterator", data := .fields #[.ref a, .int 0 0] }
abbrev zO3 (a : Addr) : Obj := { cls := .type "list_iterator", data := .fields #[.ref a, .int 0 0] }
/-- the six cells of zip(a, b, c), made at n -/
def zCell (n a b c : Addr) : Nat → Obj
  | 0 => zO1 a
  | 1 => zO1 b
  | 2 => zO3 c
  | 3 => { cls := .type "tuple", data := .seq #[.ref n, .ref (n + 1), .ref (n + 2)] }
  | 4 => { cls := .type "tuple", data := .seq #[.none, .none, .none] }
  | _ => { cls := .type "zip", dict := none, data := .fields #[.none, .bool false, .bool false, .ref (n + 3), .ref (n + 4)], slots := #[] }
/-- with those cells, without them -/
def zIn (N0 : Nat) (H : Hp) (n a b c : Addr) : Hp := fun d => if n ≤ d ∧ d < n + 6 then some (CellO N0 d (zCell n a b c (d - n))) else H d
def zOut (H : Hp) (n : Addr) : Hp := fun d => if n ≤ d ∧ d < n + 6 then none else H d
theorem zIn_at {N0 : Nat} {H : Hp} {n a b c d : Addr} (h : n ≤ d ∧ d < n + 6) : zIn N0 H n a b c d = some (CellO N0 d (zCell n a b c (d - n))) := if_pos h
theorem zIn_ne {N0 : Nat} {H : Hp} {n a b c d : Addr} (h : ¬ (n ≤ d ∧ d < n + 6)) : zIn N0 H n a b c d = H d := if_neg h
theorem zOut_at {H : Hp} {n d : Addr} (h : n ≤ d ∧ d < n + 6) : zOut H n d = none := if_pos h
theorem zOut_ne {H : Hp} {n d : Addr} (h : ¬ (n ≤ d ∧ d < n + 6)) : zOut H n d = H d := if_neg h
section
variable {X : Cx} {pins : List (Addr × Obj)} {σ : L2.St} {H : Hp} {s : Shared}
/-- six new objects are laid and tracked -/
theorem inv_zIn {N0 : Nat} {n a b c : Addr} {h' : Heap} {t' : Nat} (I : Inv X pins σ H s) (l0 : N0 ≤ n) (k : ∀ d o, s.heap.get? d = some o → h'.get? d = some o) (hn : s.heap.objs.size ≤ n) (hc : ∀ d, n ≤ d ∧ d < n + 6 → h'.get? d = some (zCell n a b c (d - n))) :
    Inv X pins σ (zIn N0 H n a b c) { s with heap := h', toks := t' } := by
  have old : ∀ {d : Addr} {o : HO}, H d = some o → ¬ (n ≤ d ∧ d < n + 6) := fun {d o} e z => by
    have h1 := I.hok.lt e
    exact absurd (Nat.lt_of_lt_of_le h1 hn) (Nat.not_lt.mpr z.1)
  have oldg : ∀ {d : Addr} {o : Obj}, s.heap.get? d = some o → ¬ (n ≤ d ∧ d < n + 6) := fun {d o} e z => by
    have h1 := Heap.lt_size e
    exact absurd (Nat.lt_of_lt_of_le h1 hn) (Nat.not_lt.mpr z.1)
  refine I.un (h' := h') (t' := t') ⟨fun d u q _ _ _ => k d u q, fun d u q _ _ _ => ⟨u.slots, k d u q⟩, fun d u q nn _ => ?_, fun d u q _ => ⟨u, k d u q⟩, fun d xs q => ?_, fun d u xs q => ?_, fun d ps q => ⟨#[], ?_⟩⟩ fun d u e => ?_
  · rw [zIn_ne (oldg q)]
    exact nn
  · rw [zIn_ne (old q)]
    exact q
  · rw [zIn_ne (old q)]
    exact q
  · rw [zIn_ne (old q), q]
    simp
  · by_cases hd : n ≤ d ∧ d < n + 6
    · rw [zIn_at hd] at e
      cases e
      exact cellO_ok (hc d hd) (Nat.le_trans l0 hd.1)
    · rw [zIn_ne hd] at e
      exact (I.hok d u e).stay (fun b v _ q => k b v q) (fun b q => by rw [zIn_ne (old q)]; exact q) fun b xs q => by rw [zIn_ne (old q)]; exact q
/-- they are forgotten -/
theorem inv_zOut {N0 : Nat} {n a b c : Addr} (I : Inv X pins σ H s) (hz : ∀ d, n ≤ d ∧ d < n + 6 → H d = some (CellO N0 d (zCell n a b c (d - n)))) : Inv X pins σ (zOut H n) s := by
  have none_ : ∀ {d : Addr}, H d = none → zOut H n d = none := fun {d} e => by
    by_cases hd : n ≤ d ∧ d < n + 6
    · exact zOut_at hd
    · rw [zOut_ne hd]
      exact e
  have keep : ∀ {d : Addr} {o : HO}, H d = some o → (∀ u, o ≠ CellO N0 d u) → zOut H n d = some o := fun {d o} e ne => by
    by_cases hd : n ≤ d ∧ d < n + 6
    · rw [hz d hd] at e
      exact absurd (Option.some.inj e).symm (ne _)
    · rw [zOut_ne hd]
      exact e
  refine ⟨I.ok, I.os, I.bare, ⟨I.base.keep, I.base.slot, fun d o e n' hx => none_ (I.base.free d o e n' hx), I.base.there, fun d xs e => keep (I.base.tups d xs e) (fun u z => nomatch z), fun d o xs e => keep (I.base.frzs d o xs e) (fun u z => nomatch z), fun d ps e => ?_⟩, I.loc, I.cell, none_ I.free, fun x c' e => none_ (I.freeC x c' e), fun p hp => ?_, fun d u e => ?_, I.len⟩
  · obtain ⟨more, q⟩ := I.base.tbls d ps e
    exact ⟨more, keep q (fun u z => nomatch z)⟩
  · obtain ⟨a1, a2, a3, a4, a5⟩ := I.pin p hp
    exact ⟨a1, none_ a2, a3, a4, a5⟩
  · have e2 : H d = some u := by
      by_cases hd : n ≤ d ∧ d < n + 6
      · rw [zOut_at hd] at e
        cases e
      · rw [zOut_ne hd] at e
        exact e
    exact (I.hok d u e2).stay (fun b v _ q => q) (fun b q => keep q (fun u z => nomatch z)) fun b xs q => keep q (fun u z => nomatch z)
/-- zip(a, b, c) as a value -/
def tZip3 (N0 : Nat) (K : PySem.W.Frag) (ta : TA) : TE := fun σ H Q => ta σ H fun vs H1 => ∃ a b c xs ys zs, vs = [.ref a, .ref b, .ref c] ∧ SqT K H1 a xs ∧ SqT K H1 b ys ∧ SqL K H1 c zs ∧
  ∀ n : Addr, (∀ m, n ≤ m → H1 m = none) → a < n → b < n → c < n → Q (.ref (n + 5)) (zIn N0 H1 n a b c)
theorem pe_zip3 {e1 e2 e3 : Expr} {ta : TA} {p pos : Pos} (hg : Gl X "zip") (hm : X.mg "zip" = none) (ha : PA X [e1, e2, e3] ta)
    (hs : starEach [e1, e2, e3] X.env = (false, eval e1 X.env) :: starEach [e2, e3] X.env := by rfl) (hpl : (backTo pos (starEach [e2, e3] X.env)).any (·.1) = false := by rfl) : PE X (.Call (.Name "zip" p) [e1, e2, e3] [] pos) (tZip3 X.s_0.heap.objs.size X.K ta) := by
  refine ⟨fun pins s σ H Q I h => ?_⟩
  refine Call_ (ld_blt I hg hm PyProof.Rows.boot_zip (PyProof.Rows.callWith_type1 (thn (ha.run pos pins s σ H _ I h) fun us s1 ⟨vs, H1, I1, r1, q1⟩ => ?_) hs hpl))
  obtain ⟨a, b, c, xs, ys, zs, ex, hqa, hqb, hqc, q⟩ := q1
  subst ex
  cases r1 with
  | cons r rr =>
    cases rr with
    | cons r' rr =>
      cases rr with
      | cons r'' rr =>
        cases rr
        cases r
        cases r'
        cases r''
        obtain ⟨its, rv, p1, _⟩ := I1.tuple hqa
        obtain ⟨its2, rv2, p2, _⟩ := I1.tuple hqb
        obtain ⟨its3, rv3, p3, _⟩ := I1.list hqc
        refine zip_begins3 (begins_tuple a its.toArray) (begins_tuple b its2.toArray) (begins_list c its3.toArray) p1 p2 p3.isList fun h' hz hTI hTO h1 h2 h3 hsz hk => ?_
        refine ⟨.ref (s1.heap.objs.size + 5), _, inv_zIn (t' := s1.toks) I1 I1.sz hk (Nat.le_refl _) (a := a) (b := b) (c := c) (fun d hd => ?_), rfl, q s1.heap.objs.size (fun m hm => I1.hok.fresh hm) p1.lt p2.lt p3.lt⟩
        obtain ⟨j, rfl⟩ : ∃ j : Nat, d = s1.heap.objs.size + j := ⟨d - s1.heap.objs.size, (Nat.add_sub_cancel' hd.1).symm⟩
        have hj : j < 6 := Nat.lt_of_add_lt_add_left hd.2
        rw [show (s1.heap.objs.size + j - s1.heap.objs.size : Nat) = j from Nat.add_sub_cancel_left ..]
        match j, hj with
        | 0, _ => exact h1
        | 1, _ => exact h2
        | 2, _ => exact h3
        | 3, _ => exact hTI
        | 4, _ => exact hTO
        | 5, _ => exact hz
/-- the walk of it: items in new triples -/
def Itz3 (K : PySem.W.Frag) (a b c : Addr) : It :=
  ⟨fun i H => ∃ (xs ys zs : List V) (x y z : V), SqT K H a xs ∧ SqT K H b ys ∧ SqL K H c zs ∧ xs[i]? = some x ∧ ys[i]? = some y ∧ zs[i]? = some z,
    fun i H v H' => ∃ T x y z, v = .ref T ∧ H T = none ∧ H' = upd H T (.tup [x, y, z]) ∧ (∀ xs, SqT K H a xs → xs[i]? = some x) ∧ (∀ ys, SqT K H b ys → ys[i]? = some y) ∧ ∀ zs, SqL K H c zs → zs[i]? = some z,
    fun i H => ∃ xs ys zs : List V, SqT K H a xs ∧ SqT K H b ys ∧ SqL K H c zs ∧ xs.length = i ∧ ys.length = i ∧ zs.length = i⟩
theorem turn_zip3 {P : Program} {w : World} {K : PySem.W.Frag} {elts : List Expr} {kk : Nat} {tpos : Pos} {a b c n : Addr} (ha : a < n) (hb : b < n) (hc' : c < n) :
    Turn P w K (.Tuple elts kk tpos) (Itz3 K a b c) [n + 5, n + 3, n + 4, n, n + 1, n + 2] (n + 5) (fun i h => IsZip h (n + 5) (n + 3) (n + 4) .none ∧ IsTupOf3 h (n + 3) (.ref n) (.ref (n + 1)) (.ref (n + 2)) ∧ (∃ x y z, IsTupOf3 h (n + 4) x y z) ∧ h.IsTupleIter n a i ∧ h.IsTupleIter (n + 1) b i ∧ h.IsListIter (n + 2) c i) where
  mem := by simp
  obj := fun i h st d hd => by
    obtain ⟨hz, hTI, ⟨x, y, z, hTO⟩, ⟨o1, e1, _, d1⟩, ⟨o2, e2, _, d2⟩, ⟨o3, e3, _, d3⟩⟩ := st
    have e' : d = n + 5 ∨ d = n + 3 ∨ d = n + 4 ∨ d = n ∨ d = n + 1 ∨ d = n + 2 := by simpa using hd
    rcases e' with q | q | q | q | q | q
    · rw [q]; exact ⟨_, hz, fun v q => nomatch q⟩
    · rw [q]; exact ⟨_, hTI, fun v q => nomatch q⟩
    · rw [q]; exact ⟨_, hTO, fun v q => nomatch q⟩
    · rw [q]; exact ⟨o1, e1, fun v q => by rw [d1] at q; cases q⟩
    · rw [q]; exact ⟨o2, e2, fun v q => by rw [d2] at q; cases q⟩
    · rw [q]; exact ⟨o3, e3, fun v q => by rw [d3] at q; cases q⟩
  keep := fun i h h' st k => by
    obtain ⟨hz, hTI, ⟨x, y, z, hTO⟩, h1, h2, h3⟩ := st
    exact ⟨k (n + 5) (by simp) _ hz, k (n + 3) (by simp) _ hTI, ⟨x, y, z, k (n + 4) (by simp) _ hTO⟩, h1.at fun o q => k n (by simp) o q, h2.at fun o q => k (n + 1) (by simp) o q, h3.at fun o q => k (n + 2) (by simp) o q⟩
  item := by
    intro X hP hw hK hc i pins s σ H E I hf st hg
    subst hP hw hK
    obtain ⟨hz, hTI, ⟨x0, y0, z0, hTO⟩, h1, h2, h3⟩ := st
    obtain ⟨xs, ys, zs, x, y, z, hqx, hqy, hqz, hx, hy, hzz⟩ := hg
    obtain ⟨its, rv, p, _⟩ := I.tuple hqx
    obtain ⟨its2, rv2, p2, _⟩ := I.tuple hqy
    obtain ⟨its3, rv3, p3, _⟩ := I.list hqz
    obtain ⟨u, hu, ru⟩ := rv.get hx
    obtain ⟨u2, hu2, ru2⟩ := rv2.get hy
    obtain ⟨u3, hu3, ru3⟩ := rv3.get hzz
    have hzl : n + 5 < s.heap.objs.size := Heap.lt_size hz
    have S := zip_sep3 (N := n) (fp1 := [a]) (fp2 := [b]) (fp3 := [c]) (fun d hd => by rw [List.mem_singleton.mp hd]; exact ha) (fun d hd => by rw [List.mem_singleton.mp hd]; exact hb) (fun d hd => by rw [List.mem_singleton.mp hd]; exact hc')
    have lt1 : i < its.toArray.size := by
      have := (List.getElem?_eq_some_iff.mp hu).1
      simpa using this
    have lt2 : i < its2.toArray.size := by
      have := (List.getElem?_eq_some_iff.mp hu2).1
      simpa using this
    have lt3 : i < its3.toArray.size := by
      have := (List.getElem?_eq_some_iff.mp hu3).1
      simpa using this
    have ne1 : a ≠ n := Nat.ne_of_lt ha
    have ne2 : b ≠ n + 1 := Nat.ne_of_lt (Nat.lt_succ_of_lt hb)
    have ne3 : c ≠ n + 2 := Nat.ne_of_lt (Nat.lt_succ_of_lt (Nat.lt_succ_of_lt hc'))
    refine wpAny_pyNext_zipD3_item S (Draws.tuple (A := X.A.in1) (I.ok.hd hc) n a ne1 its.toArray) (Draws.tuple (A := X.A.in1) (I.ok.hd hc) (n + 1) b ne2 its2.toArray) (Draws.list (A := X.A.in1) (I.ok.hd hc) (n + 2) c ne3 its3.toArray) hz hTI hTO ⟨h1, p⟩ ⟨h2, p2⟩ ⟨h3, p3.isList⟩ lt1 lt2 lt3 fun x1 x2 x3 h' tk y1 y2 y3 b1 b2 d1 d2 d3 b5 b6 hk => ?_
    have e1 : x1 = u := by
      have q1 : its.toArray[i]? = some x1 := y1
      have q2 : its.toArray[i]? = some u := by simpa using hu
      rw [q1] at q2
      exact Option.some.inj q2
    have e2 : x2 = u2 := by
      have q1 : its2.toArray[i]? = some x2 := y2
      have q2 : its2.toArray[i]? = some u2 := by simpa using hu2
      rw [q1] at q2
      exact Option.some.inj q2
    have e3 : x3 = u3 := by
      have q1 : its3.toArray[i]? = some x3 := y3
      have q2 : its3.toArray[i]? = some u3 := by simpa using hu3
      rw [q1] at q2
      exact Option.some.inj q2
    subst e1 e2 e3
    refine ⟨_, rfl, wpAny_letOwnedTupleGo_zip (s := { s with heap := h', toks := tk }) b1 fun h'' z'' sb => ?_⟩
    have hT2 : h''.get? s.heap.objs.size = some { cls := .type "tuple", data := .seq #[x1, x2, x3] } := (sb.2 _ (Nat.ne_of_gt hzl)).trans b5
    have new : ObjOk X.prog X.w (upd H s.heap.objs.size (.tup [x, y, z])) h'' s.heap.objs.size (.tup [x, y, z]) :=
      ⟨by show 3 ≤ sizeLine; decide, [x1, x2, x3], .cons ru (.cons ru2 (.cons ru3 .nil)), ⟨_, hT2, rfl, _, rfl⟩⟩
    have I1 : Inv X pins σ (upd H s.heap.objs.size (.tup [x, y, z])) { s with heap := h'', toks := tk } :=
      I.turnedNew (ch := [n + 5, n + 3, n + 4, n, n + 1, n + 2]) (fun d o hb q => (sb.2 d (fun q' => hb (by simp [q']))).trans (hk d o (fun q' => hb (by simp [q'])) (fun q' => hb (by simp [q'])) (fun q' => hb (by simp [q'])) (fun q' => hb (by simp [q'])) (fun q' => hb (by simp [q'])) q)) hf (Nat.le_refl _) new
    refine ⟨.ref s.heap.objs.size, _, I1, rfl, ⟨_, x, y, z, rfl, I.hok.fresh (Nat.le_refl _), rfl, fun l hl => by rw [I.tuple_inj hl hqx]; exact hx, fun l hl => by rw [I.tuple_inj hl hqy]; exact hy, fun l hl => by rw [I.list_inj hl hqz]; exact hzz⟩, ⟨z'', ?_, ⟨x1, x2, x3, ?_⟩, ?_, ?_, ?_⟩, fun d hcm => ?_⟩
    · exact (sb.2 _ S.TIz).trans (hk _ _ S.TIz S.TITO S.TIi1 S.TIi2 S.TIi3 hTI)
    · exact (sb.2 _ S.TOz).trans b2
    · exact d1.1.at fun o q => (sb.2 _ S.zi1.symm).trans q
    · exact d2.1.at fun o q => (sb.2 _ S.zi2.symm).trans q
    · exact d3.1.at fun o q => (sb.2 _ S.zi3.symm).trans q
    · have hlt : d < s.heap.objs.size := by
        have e' : d = n + 5 ∨ d = n + 3 ∨ d = n + 4 ∨ d = n ∨ d = n + 1 ∨ d = n + 2 := by simpa using hcm
        rcases e' with q | q | q | q | q | q
        · rw [q]; exact hzl
        · rw [q]; exact Heap.lt_size hTI
        · rw [q]; exact Heap.lt_size hTO
        · rw [q]; obtain ⟨_, e1, _⟩ := h1; exact Heap.lt_size e1
        · rw [q]; obtain ⟨_, e2, _⟩ := h2; exact Heap.lt_size e2
        · rw [q]; obtain ⟨_, e3, _⟩ := h3; exact Heap.lt_size e3
      rw [upd_ne (Nat.ne_of_lt hlt)]
      exact (hf d hcm).1
  done := by
    intro X hP hw hK hc i pins s σ H E I hf st hg
    subst hP hw hK
    obtain ⟨hz, hTI, ⟨x0, y0, z0, hTO⟩, h1, h2, h3⟩ := st
    obtain ⟨xs, ys, zs, hqx, hqy, hqz, l1, l2, l3⟩ := hg
    obtain ⟨its, rv, p, _⟩ := I.tuple hqx
    obtain ⟨its2, rv2, p2, _⟩ := I.tuple hqy
    obtain ⟨its3, rv3, p3, _⟩ := I.list hqz
    have m1 := rv.length
    have m2 := rv2.length
    have m3 := rv3.length
    have S := zip_sep3 (N := n) (fp1 := [a]) (fp2 := [b]) (fp3 := [c]) (fun d hd => by rw [List.mem_singleton.mp hd]; exact ha) (fun d hd => by rw [List.mem_singleton.mp hd]; exact hb) (fun d hd => by rw [List.mem_singleton.mp hd]; exact hc')
    have ne1 : a ≠ n := Nat.ne_of_lt ha
    have ne2 : b ≠ n + 1 := Nat.ne_of_lt (Nat.lt_succ_of_lt hb)
    have ne3 : c ≠ n + 2 := Nat.ne_of_lt (Nat.lt_succ_of_lt (Nat.lt_succ_of_lt hc'))
    have z1 : its.toArray.size = its.length := List.size_toArray ..
    have z2 : its2.toArray.size = its2.length := List.size_toArray ..
    have z3 : its3.toArray.size = its3.length := List.size_toArray ..
    refine wpAny_pyNext_zipD3_end S (Draws.tuple (A := X.A.in1) (I.ok.hd hc) n a ne1 its.toArray) (Draws.tuple (A := X.A.in1) (I.ok.hd hc) (n + 1) b ne2 its2.toArray) (Draws.list (A := X.A.in1) (I.ok.hd hc) (n + 2) c ne3 its3.toArray) hz hTI hTO ⟨h1, p⟩ ⟨h2, p2⟩ ⟨h3, p3.isList⟩ (by omega) (by omega) (by omega) (by omega) fun h' tk hk => ⟨rfl, ?_⟩
    exact I.turnedL (t' := tk) (ch := [n + 5, n + 3, n + 4, n, n + 1, n + 2]) (fun d o hb q => hk d o (fun q' => hb (by simp [q'])) (fun q' => hb (by simp [q'])) (fun q' => hb (by simp [q'])) (fun q' => hb (by simp [q'])) (fun q' => hb (by simp [q'])) q) hf
  self := fun A i s Q E st h => wpAny_pyIter_zip st.1 h
/-- the name that holds it, walked -/
def iZip3 (X : Cx) (i : Nat) : TI := fun σ H R => ∃ n a b c xs ys zs, σ[i]? = some (some (.ref (n + 5))) ∧ (∀ d, n ≤ d ∧ d < n + 6 → H d = some (CellO X.s_0.heap.objs.size d (zCell n a b c (d - n)))) ∧
  SqT X.K H a xs ∧ SqT X.K H b ys ∧ SqL X.K H c zs ∧ a < n ∧ b < n ∧ c < n ∧ R (Itz3 X.K a b c) (zOut H n)
theorem pi_zip3 {i : Nat} {x : Str} {p tpos : Pos} {elts : List Expr} {kk : Nat} (hx : PE X (.Name x p) (tVar i)) (hcalm : X.calm = true) : PI X (.Tuple elts kk tpos) (.Name x p) (iZip3 X i) := by
  refine ⟨fun pins s σ H R I h => ?_⟩
  obtain ⟨n, a, b, c, xs, ys, zs, hs, hz, hqa, hqb, hqc, la, lb, lc, q⟩ := h
  refine thn (hx.run pins s σ H (fun v H1 => v = .ref (n + 5) ∧ H1 = H) I ⟨_, hs, rfl, rfl⟩) fun v s1 ⟨u, H1, I1, r1, e1, e2⟩ => ?_
  subst e1
  rw [e2] at I1
  cases r1
  have at_ : ∀ j : Nat, j < 6 → s1.heap.get? (n + j) = some (zCell n a b c j) := fun j hj => by
    have h1 := (I1.hok (n + j) _ (hz (n + j) ⟨Nat.le_add_right .., Nat.add_lt_add_left hj n⟩)).1.1
    rw [show (n + j - n : Nat) = j from Nat.add_sub_cancel_left ..] at h1
    exact h1
  have hzz : IsZip s1.heap (n + 5) (n + 3) (n + 4) .none := at_ 5 (by decide)
  refine wpAny_pyIter_zip hzz ?_
  have I2 := inv_zOut I1 hz
  refine ⟨n + 5, [n + 5, n + 3, n + 4, n, n + 1, n + 2], _, _, zOut H n, rfl, I2, turn_zip3 la lb lc, ⟨hzz, at_ 3 (by decide), ⟨_, _, _, at_ 4 (by decide)⟩, ⟨_, at_ 0 (by decide), rfl, rfl⟩, ⟨_, at_ 1 (by decide), rfl, rfl⟩, ⟨_, at_ 2 (by decide), rfl, rfl⟩⟩, fun d hd => ?_, q⟩
  have hin : n ≤ d ∧ d < n + 6 := by
    have e' : d = n + 5 ∨ d = n + 3 ∨ d = n + 4 ∨ d = n ∨ d = n + 1 ∨ d = n + 2 := by simpa using hd
    rcases e' with q | q | q | q | q | q
    · rw [q]; exact ⟨Nat.le_add_right .., Nat.add_lt_add_left (by decide) n⟩
    · rw [q]; exact ⟨Nat.le_add_right .., Nat.add_lt_add_left (by decide) n⟩
    · rw [q]; exact ⟨Nat.le_add_right .., Nat.add_lt_add_left (by decide) n⟩
    · rw [q]; exact ⟨Nat.le_refl _, Nat.lt_add_of_pos_right (by decide)⟩
    · rw [q]; exact ⟨Nat.le_add_right .., Nat.add_lt_add_left (by decide) n⟩
    · rw [q]; exact ⟨Nat.le_add_right .., Nat.add_lt_add_left (by decide) n⟩
  have hH := hz d hin
  have hn0 : X.s_0.heap.objs.size ≤ d := (I1.hok d _ hH).1.2
  refine ⟨zOut_at hin, fun e => ?_, fun hb => ?_, .inr hn0, fun x' c' e z => ?_, fun p hp z => ?_⟩
  · rw [e, I1.free] at hH
    cases hH
  · obtain ⟨_, o, ho, _⟩ := I1.ok.funs.mem hb
    exact absurd (Heap.lt_size ho) (Nat.not_lt.mpr hn0)
  · rw [← z, I1.freeC x' c' e] at hH
    cases hH
  · have h2 := (I1.pin p hp).2.1
    rw [z, hH] at h2
    cases h2
end
end K6
set_option Elab.async false
set_option linter.all false
set_option maxRecDepth 100000
set_option maxHeartbeats 4000000
/-! Rules: min(xs, key=lambda x: (a, b)) over a list, the lambda with captured names, its answers pairs of ints. -/
namespace K6
open PySem PySem.Spec PyProof.Rows L2 LamX
/-- one parameter a; captured names, globals -/
structure Lam1 (sc scope : Scope) (a : Str) : Prop where
  kind : scope.kind = .function
  co : scope.isCoroutine = false
  gen : scope.isGenerator = false
  par : scope.names.lookup a = some .local
  own : ∀ y ∈ scope.names, (y.2 = .local → y.1 = a) ∧ y.2 ≠ .cell
  free : ∀ y ∈ scope.names, y.2 = .free → sc.names.lookup y.1 = some .cell ∨ sc.names.lookup y.1 = some .free
def lam1B (sc scope : Scope) (a : Str) : Bool :=
  decide (scope.kind = .function) && !scope.isCoroutine && !scope.isGenerator && decide (scope.names.lookup a = some .local) && scope.names.all fun y => (!decide (y.2 = .local) || decide (y.1 = a)) && !decide (y.2 = .cell) && (!decide (y.2 = .free) || decide (sc.names.lookup y.1 = some .cell) || decide (sc.names.lookup y.1 = some .free))
theorem lam1_by {sc scope : Scope} {a : Str} (h : lam1B sc scope a = true) : Lam1 sc scope a := by
  unfold lam1B at h
  simp only [Bool.and_eq_true, Bool.or_eq_true, Bool.not_eq_true', decide_eq_true_eq, decide_eq_false_iff_not, List.all_eq_true] at h
  obtain ⟨⟨⟨⟨h1, h2⟩, h3⟩, h5⟩, h4⟩ := h
  refine ⟨h1, h2, h3, h5, fun y hy => ⟨fun e => ?_, (h4 y hy).1.2⟩, fun y hy e => ?_⟩
  · rcases (h4 y hy).1.1 with z | z
    · exact absurd e z
    · exact z
  · rcases (h4 y hy).2 with (z | z) | z
    · exact absurd e z
    · exact .inl z
    · exact .inr z
theorem Lam1.has {X : Cx} {scope : Scope} {a : Str} (L : Lam1 X.env.scope scope a) (ok : X.Ok) : ∀ y ∈ scope.names, y.2 = .free → ∃ c, X.env.cells.lookup y.1 = some c := fun y hy e => by
  rcases L.free y hy e with k | k
  · exact ok.has _ (.inl k)
  · exact ok.has _ (.inr k)
/-- the context of the lambda's body, entered at s from the frames outer; nothing is raised -/
def lamCx1 (X : Cx) (A : Around) (outer : List Env) (s : Shared) (H : Hp) (scope : Scope) (f c' : Addr) : Cx where
  prog := X.prog
  w := X.w
  K := X.K
  mg := X.mg
  base := X.base
  A := A.deeper (lamEnv X scope s.heap.objs.size f c')
  N := X.N
  s_0 := s
  H_0 := H
  env := lamEnv X scope s.heap.objs.size f c'
  outer := outer
  stack := lamEnv X scope s.heap.objs.size f c' :: outer
  ex := []
  fn := fun _ => false
  calm := true
  pn := []
  xe := fun _ _ => False
section
variable {X : Cx} {pins : List (Addr × Obj)} {σ : L2.St} {H : Hp} {s : Shared}
theorem lam_start1 {A : Around} {outer : List Env} {scope : Scope} {f c' : Addr} {h₁ : Heap} {tk js : Nat} {a : Str} {x : V} {u : Value} (I : Inv X pins σ H s) (L : Lam1 X.env.scope scope a) (e0 : Env0 X.prog X.w X.K X.mg X.base A outer s H) (hd : A.handled = none)
    (hN : X.N.Nodup) (hjs : X.N[js]? = some a) (rx : RelV x u) (hns : h₁.Ns s.heap.objs.size fun y => ([(a, u)] : List (Str × Value)).reverse.lookup y) (kp : ∀ b o, s.heap.get? b = some o → h₁.get? b = some o) :
    Inv (lamCx1 X A outer s H scope f c') [] (σ.set js (some x)) H { s with heap := h₁, toks := tk } := by
  have hfree := L.has I.ok
  have cm : ∀ {y c}, (cloFrom X.env.cells scope.names []).lookup y = some c → X.env.cells.lookup y = some c := fun {y c} e => by
    rcases cloFrom_mem (PySem.mem_of_lookup e) with hm | ⟨h1, h2⟩
    · cases hm
    · obtain ⟨c1, hc⟩ := hfree _ h1 rfl
      have hc : X.env.cells.lookup y = some c1 := hc
      have e2 : c = c1 := by
        rw [h2, hc] <;> rfl
      rw [e2]
      exact hc
  have look : ∀ {y}, scope.names.lookup y = some .free → ∃ c, (cloFrom X.env.cells scope.names []).lookup y = some c := fun {y} hl => by
    have hy : (y, NameKind.free) ∈ scope.names := PySem.mem_of_lookup hl
    exact mem_lookup (cloFrom_has (cells := X.env.cells) (acc := []) hy)
  have cellK : ∀ {c : Addr} {v : Option Value}, s.heap.IsCell c v → h₁.IsCell c v := fun {c v} ⟨o, ho, hd⟩ => ⟨_, kp _ _ ho, hd⟩
  have noA : ∀ b : Addr, b ∉ (lamCx1 X A outer s H scope f c').ex := fun b z => absurd (show b ∈ ([] : List Addr) from z) (by simp)
  refine ⟨⟨e0.mod, L.kind, rfl, rfl, Nat.le_refl _, fun y z c e1 e2 => I.ok.inj y z c (cm e1) (cm e2), fun y hy => ?_, fun y c z _ => ?_, fun _ => hd, Around.frames_deeper e0.frames, .inr ⟨rfl, rfl⟩, fun b z => absurd z (noA b), e0.bs, e0.bsz, fun b _ _ => noA b,
      fun b z => absurd z (noA b), e0.funs, e0.frf⟩,
    rfl, e0.bare, Un.kept kp, ⟨_, hns, fun i y v e1 e2 e3 => ?_⟩, fun y c e => ?_, e0.hok.fresh (Nat.le_refl _), fun y c e => ?_, fun q hq => absurd (show q ∈ ([] : List (Addr × Obj)) ++ [] from hq) (by simp), e0.hok.kept kp, (List.length_set ..).trans I.len⟩
  · have hy : scope.names.lookup y = some .cell ∨ scope.names.lookup y = some .free := hy
    rcases hy with hy | hy
    · exact absurd rfl (L.own _ (PySem.mem_of_lookup hy)).2
    · exact look hy
  · have z : false = true := z
    cases z
  · have e3 : Vis scope y := e3
    rcases e3 with k | k | k
    · have ey : y = a := (L.own _ (PySem.mem_of_lookup k)).1 rfl
      subst ey
      have ei : i = js := nodup_ix hN e1 hjs
      subst ei
      have hl : i < σ.length := by
        rw [I.len]
        exact (List.getElem?_eq_some_iff.mp hjs).1
      rw [List.getElem?_set_self hl] at e2
      have ev : x = v := Option.some.inj (Option.some.inj e2)
      subst ev
      refine ⟨u, rx, .inl ⟨k, ?_⟩⟩
      show ([(y, u)] : List (Str × Value)).lookup y = some u
      simp
    · exact absurd rfl (L.own _ (PySem.mem_of_lookup k)).2
    · have hne : i ≠ js := fun z => by
        subst z
        have e4 : X.N[i]? = some y := e1
        rw [hjs] at e4
        have e5 : a = y := Option.some.inj e4
        subst e5
        rw [L.par] at k
        cases k
      rw [List.getElem?_set_ne (Ne.symm hne)] at e2
      obtain ⟨m, hn, hl⟩ := I.loc
      have hvis : Vis X.env.scope y := (L.free _ (PySem.mem_of_lookup k) rfl).elim (fun k => .inr (.inl k)) (fun k => .inr (.inr k))
      obtain ⟨w', r, q⟩ := hl i y v e1 e2 hvis
      obtain ⟨c2, h2⟩ := look k
      refine ⟨w', r, .inr ⟨.inr k, c2, h2, ?_⟩⟩
      have c1 := cm h2
      rcases q with ⟨k', _⟩ | ⟨_, c3, e', z⟩
      · have k' : X.env.scope.names.lookup y = some .local := k'
        rcases L.free _ (PySem.mem_of_lookup k) rfl with k2 | k2 <;> rw [show X.env.scope.names.lookup y = _ from k2] at k' <;> cases k'
      · rw [c1] at e'
        cases e'
        exact cellK z
  · obtain ⟨w', z⟩ := I.cell y c (cm e)
    exact ⟨w', cellK z⟩
  · exact I.freeC y c (cm e)
/-- the lambda is called with one value -/
theorem lam_run {A : Around} {k js : Nat} {a : Str} {params : Arguments} {body : Expr} {scope : Scope} {f c' : Addr} {pm ctv : Value} {tb : TE} {x : V} {u : Value} {Q : VK}
    (I : Inv X pins σ H s) (L : Lam1 X.env.scope scope a) (e0 : Env0 X.prog X.w X.K X.mg X.base A X.stack s H) (hr : Room (k + 1) A) (hN : X.N.Nodup) (hjs : X.N[js]? = some a)
    (hf : s.heap.get? f = some (PySem.W.kla_obj "<lambda>" (X.env.qual ++ "<lambda>") params body scope (cloFrom X.env.cells scope.names []) pm c' ctv)) (hco : H c' = some (CodeO c' (X.env.qual ++ "<lambda>")))
    (hbind : bindArgs (PySem.W.kla_fn "<lambda>" (X.env.qual ++ "<lambda>") params body scope (cloFrom X.env.cells scope.names []) pm (.ref c') ctv) ⟨[u], []⟩ = pure [(a, u)])
    (hbody : ∀ (A : Around) (s : Shared) (H : Hp), Room k (A.deeper (lamEnv X scope s.heap.objs.size f c')) → PE (lamCx1 X A X.stack s H scope f c') body tb) (rx : RelV x u) (ht : tb (σ.set js (some x)) H Q) :
    codeAny (model X.prog X.w) A (.call (.ref f) ⟨[u], []⟩) (CR CX0 X.stack X.prog X.w H s Q E0) s := by
  obtain ⟨⟨oc, vs, t, hoc, hdc, hvc⟩, _, _⟩ := I.hok c' _ hco
  refine PySem.W.kla_callFunE hr.depth hf rfl L.co L.gen rfl ⟨c', oc, vs, t, rfl, hoc, hdc, hvc⟩ ?_
  rw [hbind]
  refine wpAny_pure (wpAny_newFunctionEnv (fun y hy => (L.own y hy).2) (fun y hy => ?_) (fun h₁ hns hsb => ⟨I.nolimit.fresh _ hsb, ?_⟩) L.kind)
  · rw [List.mem_singleton.mp hy]
    exact L.par
  show codeAny _ _ (.expr body (lamEnv X scope s.heap.objs.size f c')) _ _
  have kp : ∀ b o, s.heap.get? b = some o → h₁.get? b = some o := fun b o e => hsb.extBut b o (Nat.ne_of_lt (Heap.lt_size e)) (Heap.get?_push_of_some _ e)
  have J : Inv (lamCx1 X A X.stack s H scope f c') [] (σ.set js (some x)) H { s with heap := h₁, toks := s.toks + ([(a, u)] : List (Str × Value)).length } :=
    lam_start1 I L e0 hr.hd hN hjs rx hns kp
  refine PySem.W.kla_codeExpr (wpAny_mono ((hbody A s H (hr.deeper _)).run [] _ _ H Q J ht) (fun v s' hq => ?_) fun e s' hq => hq.elim)
  obtain ⟨w', H', J', rv, q⟩ := hq
  exact ⟨w', H', J'.os, J'.bare, J'.base, J'.hok, rv, q⟩
end
end K6
set_option Elab.async false
set_option linter.all false
set_option maxRecDepth 100000
set_option maxHeartbeats 4000000
/-! Rules: the loop of min(xs, key=f). -/
namespace K6
open PySem PySem.Spec PyProof.Rows L2 LamX Evl
/-- the state in min's loop: of the first j + 1 items the i-th is the least -/
structure MS (X : Cx) (pins : List (Addr × Obj)) (σ : L2.St) (H1 : Hp) (l q I S : Addr) (xs : List V) (kf : V → Int × Int) (lam : Obj) (j i : Nat) (H' : Hp) (s' : Shared) : Prop where
  inv : Inv X pins σ H' s'
  ex : Ex H1 H'
  fI : FpOk X pins H' I
  fS : FpOk X pins H' S
  fq : H' q = none
  lam : s'.heap.get? q = some lam
  it : s'.heap.IsListIter I l (j + 1)
  sc : ∃ x vb kp c, xs[i]? = some x ∧ RelV x vb ∧ s'.heap.get? S = some (seqObj "list" #[vb, .ref kp] c) ∧ H' kp = some (.tup [.int (kf x).1, .int (kf x).2])
  best : ∀ j' x x', j' ≤ j → xs[j']? = some x' → xs[i]? = some x → (kf x).1 ≤ (kf x').1
theorem fp_nstk {X : Cx} {pins : List (Addr × Obj)} {σ : L2.St} {H : Hp} {s : Shared} {b : Addr} (I : Inv X pins σ H s) (f : FpOk X pins H b) : b ∉ frs X.stack := fun z => by
  rcases List.mem_cons.mp (I.stkSub b z) with e | e
  · exact f.2.1 e
  · exact f.2.2.1 e
theorem lex_le {a b : Int × Int} (h : HT.lexLt [a.1, a.2] [b.1, b.2] = true) : a.1 ≤ b.1 := by
  rw [HT.lexLt_cons] at h
  by_cases e : a.1 = b.1
  · omega
  · rw [if_neg e] at h
    have := of_decide_eq_true h
    omega
theorem lex_ge {a b : Int × Int} (h : HT.lexLt [a.1, a.2] [b.1, b.2] = false) : b.1 ≤ a.1 := by
  rw [HT.lexLt_cons] at h
  by_cases e : a.1 = b.1
  · omega
  · rw [if_neg e] at h
    have := of_decide_eq_false h
    omega
section
variable {X : Cx} {pins : List (Addr × Obj)} {σ : L2.St} {H1 : Hp} {l q I S : Addr} {xs : List V} {kf : V → Int × Int} {lam : Obj} {R : Result → Shared → Prop}
/-- what is asked of the key's call -/
def KeyTurn (X : Cx) (pins : List (Addr × Obj)) (σ : L2.St) (H1 : Hp) (q : Addr) (xs : List V) (kf : V → Int × Int) (lam : Obj) : Prop :=
  ∀ (H' : Hp) (s' : Shared), Inv X pins σ H' s' → Ex H1 H' → s'.heap.get? q = some lam → ∀ (k : Nat) (x : V) (u : Value), xs[k]? = some x → RelV x u →
    codeAny (model X.prog X.w) X.A.in1 (.call (.ref q) ⟨[u], []⟩) (CR CX0 X.stack X.prog X.w H' s' (fun v H2 => ∃ kp, v = .ref kp ∧ Ex H' H2 ∧ H2 kp = some (.tup [.int (kf x).1, .int (kf x).2])) E0) s'
theorem min_loop (hh : X.A.handled = none) (hu : X.A.units + 1 < cLine) (hl : SqL X.K H1 l xs) (hlam : ∃ fd, lam.data = .func fd) (nq : q ∉ frs X.stack) (turn : KeyTurn X pins σ H1 q xs kf lam) (hlI : l ≠ I)
    (hR : ∀ (i : Nat) (x : V) (v : Value) (H' : Hp) (s' : Shared), xs[i]? = some x → RelV x v → Inv X pins σ H' s' → Ex H1 H' → (∀ x' ∈ xs, (kf x).1 ≤ (kf x').1) → R (.ok (.ret v)) s') :
    ∀ (r j i : Nat) (H' : Hp) (s' : Shared), xs.length - (j + 1) = r → j + 1 ≤ xs.length → MS X pins σ H1 l q I S xs kf lam j i H' s' →
      codeAny (model X.prog X.w) X.A (.builtin "min.loop" ⟨[.ref I, .ref q, .ref S], []⟩) R s' := by
  have hname : (toString "min" ++ toString ".loop" : String) = "min.loop" := by decide
  intro r
  induction r with
  | zero =>
    intro j i H' s' hr hj M
    have hin : j + 1 = xs.length := by omega
    obtain ⟨x, vb, kp, c, hx, rx, hS, hkp⟩ := M.sc
    obtain ⟨its, rv, pl, hz⟩ := M.inv.list (ex_l M.ex hl)
    have hlen := rv.length
    have W := Walks.list (prog := X.prog) (w := X.w) (A := X.A.in1) hh I l hlI its.toArray
    have hsz : its.toArray.size = its.length := List.size_toArray ..
    refine codeAny_builtin PySem.F.entry_min_loop ?_
    rw [Around.under_plainId PySem.F.plain_min_loop _]
    show wpAny _ X.A.in1 (seqItems? (.ref S) >>= _) _ _ _
    refine wpAny_bind (wpAny_seqItems hS rfl ?_)
    show wpAny _ X.A.in1 (tryCatch (pyNext (.ref I)) _ >>= _) _ _ _
    refine wpAny_bind (wpAny_tryCatch (W.done _ _ _ ⟨by rw [hsz, ← hlen, ← hin]; exact M.it, pl.isList⟩ fun h' tk' hk' => ?_))
    obtain ⟨f0, f1, f2, f3, f4, f5⟩ := M.fI
    obtain ⟨g0, g1, g2, g3, g4, g5⟩ := M.fS
    have I1 : Inv X pins σ H' { s' with heap := h', toks := tk' } := M.inv.turned (fun b o hb e => hk' b o (by simpa using hb) e) f0 f1 f3 f4 f5
    have hSI : S ≠ I := fun e => by
      obtain ⟨o, ho, hc, hd⟩ := M.it
      rw [e, ho] at hS
      cases hS
      cases hd
    have hS' := hk' S _ (by simpa using hSI) hS
    show wpAny _ X.A.in1 (updateSeq S (fun _ => #[]) >>= _) _ _ _
    refine wpAny_bind ?_
    refine wpAny_updateSeq hS' rfl (wpAny_bind (wpAny_letGo (wpAny_pure ?_)))
    have s1 := Heap.SameBut.update h' S (Obj.mapSeq fun _ => (#[] : Array Value))
    have I2 : Inv X pins σ H' { s' with heap := h'.update S (Obj.mapSeq fun _ => (#[] : Array Value)), toks := tk' } := I1.turned (t' := tk') (fun b o hb e => (s1.2 b hb).trans e) g0 g1 g3 g4 g5
    refine hR i x vb H' _ hx rx I2 M.ex fun x' hx' => ?_
    obtain ⟨j', hj', e'⟩ := List.mem_iff_getElem.mp hx'
    exact M.best j' x x' (by omega) (by rw [List.getElem?_eq_getElem hj', e']) hx
  | succ r ih =>
    intro j i H' s' hr hj M
    have hlt : j + 1 < xs.length := by omega
    obtain ⟨x, vb, kp, c, hx, rx, hS, hkp⟩ := M.sc
    obtain ⟨its, rv, pl, hz⟩ := M.inv.list (ex_l M.ex hl)
    have hlen := rv.length
    have W := Walks.list (prog := X.prog) (w := X.w) (A := X.A.in1) hh I l hlI its.toArray
    have hsz : its.toArray.size = its.length := List.size_toArray ..
    obtain ⟨x2, hx2⟩ : ∃ x2, xs[j + 1]? = some x2 := ⟨_, List.getElem?_eq_getElem hlt⟩
    obtain ⟨u2, hu2, ru2⟩ := rv.get hx2
    refine codeAny_builtin PySem.F.entry_min_loop ?_
    rw [Around.under_plainId PySem.F.plain_min_loop _]
    show wpAny _ X.A.in1 (seqItems? (.ref S) >>= _) _ _ _
    refine wpAny_bind (wpAny_seqItems hS rfl ?_)
    show wpAny _ X.A.in1 (tryCatch (pyNext (.ref I)) _ >>= _) _ _ _
    refine wpAny_bind (wpAny_tryCatch (W.item (j + 1) _ _ _ (by rw [hsz, ← hlen]; exact hlt) ⟨M.it, pl.isList⟩ fun v h' tk' hP hst' hk' => ?_))
    have hv : v = u2 := by
      have h1 : its.toArray[j + 1]? = some v := hP
      have h2 : its.toArray[j + 1]? = some u2 := by simpa using hu2
      rw [h1] at h2
      exact Option.some.inj h2
    subst hv
    obtain ⟨f0, f1, f2, f3, f4, f5⟩ := M.fI
    obtain ⟨g0, g1, g2, g3, g4, g5⟩ := M.fS
    have I1 : Inv X pins σ H' { s' with heap := h', toks := tk' } := M.inv.turned (fun b o hb e => hk' b o (by simpa using hb) e) f0 f1 f3 f4 f5
    have hSI : S ≠ I := fun e => by
      obtain ⟨o, ho, hc, hd⟩ := M.it
      rw [e, ho] at hS
      cases hS
      cases hd
    have hqI : q ≠ I := fun e => by
      obtain ⟨o, ho, hc, hd⟩ := M.it
      obtain ⟨fd, hfd⟩ := hlam
      have h1 := M.lam
      rw [e, ho] at h1
      have h2 := Option.some.inj h1
      rw [h2, hfd] at hd
      cases hd
    have hqS : q ≠ S := fun e => by
      obtain ⟨fd, hfd⟩ := hlam
      have h1 := M.lam
      rw [e, hS] at h1
      have h2 := Option.some.inj h1
      rw [← h2] at hfd
      cases hfd
    have hS' : h'.get? S = _ := hk' S _ (by simpa using hSI) hS
    have hq' : h'.get? q = _ := hk' q _ (by simpa using hqI) M.lam
    show wpAny _ X.A.in1 (tryCatch (holding [v] (call (.ref q) [v])) _ >>= _) _ _ _
    refine wpAny_bind (wpAny_tryCatch (wpAny_holding (wpAny_call (codeAny_mono (turn H' _ I1 M.ex hq' (j + 1) x2 v hx2 ru2) fun rr s2 hq => ?_))))
    cases rr with
    | error e => exact (show False from hq).elim
    | ok fl =>
      cases fl with
      | next => exact False.elim hq
      | brk => exact False.elim hq
      | cont => exact False.elim hq
      | ret u3 =>
        obtain ⟨w3, H2, os, bare, un, hok, r3, kp2, ew, ex2, hkp2⟩ := hq
        subst ew
        cases r3
        have I2 : Inv X pins σ H2 s2 := I1.call' (ch := []) os un hok bare (fun b z => absurd z (by simp))
        obtain ⟨oI, hoI, hcI, hdI⟩ := hst'.1
        have nI := fp_nstk M.inv M.fI
        have nS := fp_nstk M.inv M.fS
        have hI2 : s2.heap.get? I = some oI := un.keep I oI hoI f0 nI (by simp)
        have hS2 : s2.heap.get? S = _ := un.keep S _ hS' g0 nS (by simp)
        have hq2 : s2.heap.get? q = _ := un.keep q _ hq' M.fq nq (by simp)
        have fI0 : H2 I = none := un.free I oI hoI f0 (by simp)
        have fS0 : H2 S = none := un.free S _ hS' g0 (by simp)
        have fq0 : H2 q = none := un.free q _ hq' M.fq (by simp)
        obtain ⟨_, its1, rv1, pt1⟩ := I2.hok kp2 _ hkp2
        obtain ⟨_, its2, rv2, pt2⟩ := I2.hok kp _ (ex2 _ _ hkp)
        have ia1 : IntsAre its1.toArray.toList [(kf x2).1, (kf x2).2] := by
          simpa using intsAre_of (ns := [(kf x2).1, (kf x2).2]) rv1
        have ia2 : IntsAre its2.toArray.toList [(kf x).1, (kf x).2] := by
          simpa using intsAre_of (ns := [(kf x).1, (kf x).2]) rv2
        show wpAny _ X.A.in1 (tryCatch (holding [v, .ref kp2] (richCompare .Lt (.ref kp2) (.ref kp) >>= _)) _ >>= _) _ _ _
        refine wpAny_bind (wpAny_tryCatch (wpAny_holding (wpAny_bind (HT.lt_tupInts (s := s2) pt1 pt2 ia1 ia2 hu ?_))))
        refine wpAny_bind (wpAny_holding (wpAny_truthy_bool ?_))
        refine wpAny_bind (wpAny_letGo (wpAny_pure ?_))
        cases hb : HT.lexLt [(kf x2).1, (kf x2).2] [(kf x).1, (kf x).2] with
        | true =>
          have hle := lex_le hb
          simp only [if_true]
          refine wpAny_bind ?_
          refine wpAny_updateSeq hS2 rfl (wpAny_bind (wpAny_letGo ?_))
          rw [hname]
          have sb := Heap.SameBut.update s2.heap S (Obj.mapSeq fun _ => #[v, .ref kp2])
          have I3 : Inv X pins σ H2 { s2 with heap := s2.heap.update S (Obj.mapSeq fun _ => #[v, .ref kp2]), toks := s2.toks } := I2.turned (t' := s2.toks) (fun b o hb e => (sb.2 b hb).trans e) fS0 g1 g3 g4 g5
          refine wpAny_pure ⟨plainId_quiet PySem.F.plain_min_loop _, ih (j + 1) (j + 1) H2 _ (by omega) hlt ⟨I3, M.ex.trans ex2, ⟨fI0, f1, f2, f3, f4, f5⟩, ⟨fS0, g1, g2, g3, g4, g5⟩, fq0, (sb.2 q hqS).trans hq2, ⟨oI, (sb.2 I hSI.symm).trans hI2, hcI, hdI⟩, ⟨x2, v, kp2, _, hx2, ru2, get?_update_seq hS2 fun _ => #[v, .ref kp2], hkp2⟩, fun j' y y' hj' e1 e2 => ?_⟩⟩
          rw [hx2] at e2
          cases e2
          by_cases e : j' = j + 1
          · subst e
            rw [hx2] at e1
            cases e1
            exact Int.le_refl _
          · exact Int.le_trans hle (M.best j' x y' (by omega) e1 hx)
        | false =>
          have hge := lex_ge hb
          simp only [Bool.false_eq_true, if_false]
          refine wpAny_bind (wpAny_letGo ?_)
          rw [hname]
          refine wpAny_pure ⟨plainId_quiet PySem.F.plain_min_loop _, ih (j + 1) i H2 _ (by omega) hlt ⟨I2, M.ex.trans ex2, ⟨fI0, f1, f2, f3, f4, f5⟩, ⟨fS0, g1, g2, g3, g4, g5⟩, fq0, hq2, ⟨oI, hI2, hcI, hdI⟩, ⟨x, vb, kp, c, hx, rx, hS2, ex2 _ _ hkp⟩, fun j' y y' hj' e1 e2 => ?_⟩⟩
          rw [hx] at e2
          cases e2
          by_cases e : j' = j + 1
          · subst e
            rw [hx2] at e1
            cases e1
            exact hge
          · exact M.best j' x y' (by omega) e1 hx
end
end K6
set_option Elab.async false
set_option linter.all false
set_option maxRecDepth 100000
set_option maxHeartbeats 4000000
/-! Rules: min(xs, key=lambda ..) as an expression. -/
namespace K6
open PySem PySem.Spec PyProof.Rows L2 LamX Evl
section
variable {X : Cx} {pins : List (Addr × Obj)} {σ : L2.St} {H1 : Hp} {s : Shared} {l q : Addr} {xs : List V} {kf : V → Int × Int} {lam : Obj} {Q : VK}
theorem min_call (hh : X.A.handled = none) (hu : X.A.units + 1 < cLine) (I0 : Inv X pins σ H1 s) (hl : SqL X.K H1 l xs) (hne : 0 < xs.length) (hlam : ∃ fd, lam.data = .func fd) (hq : s.heap.get? q = some lam) (hq0 : H1 q = none) (nq : q ∉ frs X.stack) (turn : KeyTurn X pins σ H1 q xs kf lam)
    (hQ : ∀ (x : V) (H' : Hp), x ∈ xs → Ex H1 H' → (∀ x' ∈ xs, (kf x).1 ≤ (kf x').1) → Q x H') :
    wpAny (model X.prog X.w) X.A (call (.builtin "min") [.ref l] [(Str.ofString "key", .ref q)]) (EP X pins σ Q) X.xe s := by
  have hname : (toString "min" ++ toString ".loop" : String) = "min.loop" := by decide
  obtain ⟨its, rv, pl, hz⟩ := I0.list hl
  have hlen := rv.length
  have hsz : its.toArray.size = its.length := List.size_toArray ..
  have hll : l < s.heap.objs.size := pl.lt
  refine kmk_tree PySem.F.kind_min PySem.F.plain_min PySem.F.entry_min (kmk_min_key _ _) ?_
  show wpAny _ X.A.in1 (Builtin.Builtins.bindParams "min" ["key", "default"] 0 ⟨[], [(Str.ofString "key", .ref q)]⟩ >>= _) _ _ s
  refine wpAny_bind (wpAny_of_eq (show Builtin.Builtins.bindParams "min" ["key", "default"] 0 ⟨[], [(Str.ofString "key", .ref q)]⟩ = pure [some (.ref q), none] from rfl) ?_)
  refine wpAny_bind (wpAny_pure ?_)
  refine wpAny_bind (wpAny_pyIter_list pl.isList ?_)
  refine wpAny_bind (wpAny_newList ?_ (Nat.zero_le _))
  rw [hname]
  have hS : (s.heap.push { cls := .type "list_iterator", data := .fields #[.ref l, .int 0 0] }).objs.size = s.heap.objs.size + 1 := size_push' ..
  have hlI : l ≠ s.heap.objs.size := Nat.ne_of_lt hll
  have hSI : (s.heap.push { cls := .type "list_iterator", data := .fields #[.ref l, .int 0 0] }).objs.size ≠ s.heap.objs.size := by rw [hS]; exact Nat.ne_of_gt (Nat.lt_succ_self _)
  have gI : ((s.heap.push { cls := .type "list_iterator", data := .fields #[.ref l, .int 0 0] }).push (seqObj "list" #[] 0)).get? s.heap.objs.size = some { cls := .type "list_iterator", data := .fields #[.ref l, .int 0 0] } :=
    Heap.get?_push_of_some _ (Heap.get?_push_size _ rfl)
  have gS : ((s.heap.push { cls := .type "list_iterator", data := .fields #[.ref l, .int 0 0] }).push (seqObj "list" #[] 0)).get? (s.heap.push { cls := .type "list_iterator", data := .fields #[.ref l, .int 0 0] }).objs.size = some (seqObj "list" #[] 0) := Heap.get?_push_size _ rfl
  have I1 : Inv X pins σ H1 { s with heap := (s.heap.push { cls := .type "list_iterator", data := .fields #[.ref l, .int 0 0] }).push (seqObj "list" #[] 0) } := I0.kept (t' := s.toks) fun b o e => Heap.get?_push_of_some _ (Heap.get?_push_of_some _ e)
  have fI : FpOk X pins H1 s.heap.objs.size := I0.fpOk (Nat.le_refl _) (I0.hok.fresh (Nat.le_refl _))
  have fS : FpOk X pins H1 (s.heap.push { cls := .type "list_iterator", data := .fields #[.ref l, .int 0 0] }).objs.size := I0.fpOk (by rw [hS]; exact Nat.le_succ _) (I0.hok.fresh (by rw [hS]; exact Nat.le_succ _))
  generalize hSa : (s.heap.push { cls := .type "list_iterator", data := .fields #[.ref l, .int 0 0] }).objs.size = S at gS hSI fS ⊢
  have hq1 : ((s.heap.push { cls := .type "list_iterator", data := .fields #[.ref l, .int 0 0] }).push (seqObj "list" #[] 0)).get? q = some lam := Heap.get?_push_of_some _ (Heap.get?_push_of_some _ hq)
  generalize hIa : s.heap.objs.size = Ia at hlI hSI gI fI ⊢
  refine wpAny_pure ⟨plainId_quiet PySem.F.plain_min_loop _, ?_⟩
  -- the first turn
  obtain ⟨x0, hx0⟩ : ∃ x0, xs[0]? = some x0 := ⟨_, List.getElem?_eq_getElem hne⟩
  obtain ⟨u0, hu0, ru0⟩ := rv.get hx0
  have W := Walks.list (prog := X.prog) (w := X.w) (A := X.A.in1) hh Ia l hlI its.toArray
  have pl1 : ((s.heap.push { cls := .type "list_iterator", data := .fields #[.ref l, .int 0 0] }).push (seqObj "list" #[] 0)).IsList l its.toArray := pl.isList.at fun o e => Heap.get?_push_of_some _ (Heap.get?_push_of_some _ e)
  refine codeAny_builtin PySem.F.entry_min_loop ?_
  rw [Around.under_plainId PySem.F.plain_min_loop _]
  show wpAny _ X.A.in1 (seqItems? (.ref S) >>= _) _ _ _
  refine wpAny_bind (wpAny_seqItems gS rfl ?_)
  show wpAny _ X.A.in1 (tryCatch (pyNext (.ref Ia)) _ >>= _) _ _ _
  refine wpAny_bind (wpAny_tryCatch (W.item 0 _ _ _ (by rw [hsz, ← hlen]; exact hne) ⟨⟨_, gI, rfl, rfl⟩, pl1⟩ fun v h' tk' hP hst' hk' => ?_))
  have hv : v = u0 := by
    have h1 : its.toArray[0]? = some v := hP
    have h2 : its.toArray[0]? = some u0 := by simpa using hu0
    rw [h1] at h2
    exact Option.some.inj h2
  subst hv
  obtain ⟨f0, f1, f2, f3, f4, f5⟩ := id fI
  obtain ⟨g0, g1, g2, g3, g4, g5⟩ := id fS
  have I2 : Inv X pins σ H1 { s with heap := h', toks := tk' } := I1.turned (fun b o hb e => hk' b o (by simpa using hb) e) f0 f1 f3 f4 f5
  have hqI : q ≠ Ia := fun e => by
    obtain ⟨fd, hfd⟩ := hlam
    rw [e, gI] at hq1
    have h2 := Option.some.inj hq1
    rw [← h2] at hfd
    cases hfd
  have hqS : q ≠ S := fun e => by
    obtain ⟨fd, hfd⟩ := hlam
    rw [e, gS] at hq1
    have h2 := Option.some.inj hq1
    rw [← h2] at hfd
    cases hfd
  have hS' : h'.get? S = _ := hk' S _ (by simpa using hSI) gS
  have hq' : h'.get? q = _ := hk' q _ (by simpa using hqI) hq1
  show wpAny _ X.A.in1 (tryCatch (holding [v] (call (.ref q) [v])) _ >>= _) _ _ _
  refine wpAny_bind (wpAny_tryCatch (wpAny_holding (wpAny_call (codeAny_mono (turn H1 _ I2 (Ex.refl _) hq' 0 x0 v hx0 ru0) fun rr s2 hq => ?_))))
  cases rr with
  | error e => exact (show False from hq).elim
  | ok fl =>
    cases fl with
    | next => exact False.elim hq
    | brk => exact False.elim hq
    | cont => exact False.elim hq
    | ret u3 =>
      obtain ⟨w3, H2, os, bare, un, hok, r3, kp2, ew, ex2, hkp2⟩ := hq
      subst ew
      cases r3
      have I3 : Inv X pins σ H2 s2 := I2.call' (ch := []) os un hok bare (fun b z => absurd z (by simp))
      obtain ⟨oI, hoI, hcI, hdI⟩ := hst'.1
      have nI := fp_nstk I0 fI
      have nS := fp_nstk I0 fS
      have hI2 : s2.heap.get? Ia = some oI := un.keep Ia oI hoI f0 nI (by simp)
      have hS2 : s2.heap.get? S = _ := un.keep S _ hS' g0 nS (by simp)
      have hq2 : s2.heap.get? q = _ := un.keep q _ hq' hq0 nq (by simp)
      have fI0 : H2 Ia = none := un.free Ia oI hoI f0 (by simp)
      have fS0 : H2 S = none := un.free S _ hS' g0 (by simp)
      have fq0 : H2 q = none := un.free q _ hq' hq0 (by simp)
      show wpAny _ X.A.in1 (updateSeq S (fun _ => #[v, .ref kp2]) >>= _) _ _ _
      refine wpAny_bind ?_
      refine wpAny_updateSeq hS2 rfl ?_
      rw [hname]
      have sb := Heap.SameBut.update s2.heap S (Obj.mapSeq fun _ => #[v, .ref kp2])
      have I4 : Inv X pins σ H2 { s2 with heap := s2.heap.update S (Obj.mapSeq fun _ => #[v, .ref kp2]), toks := s2.toks } := I3.turned (t' := s2.toks) (fun b o hb e => (sb.2 b hb).trans e) fS0 g1 g3 g4 g5
      refine wpAny_pure ⟨plainId_quiet PySem.F.plain_min_loop _, min_loop (R := fun r s' => match r with | .ok (.ret v) => EP X pins σ Q v s' | .ok _ => False | .error e => X.xe e s') hh hu hl hlam nq turn hlI (fun i x v' H' s' hx rx I' e' hb => ⟨x, H', I', rx, hQ x H' (List.mem_of_getElem? hx) e' hb⟩) _ 0 0 H2 _ rfl hne
        ⟨I4, ex2, ⟨fI0, f1, f2, f3, f4, f5⟩, ⟨fS0, g1, g2, g3, g4, g5⟩, fq0, (sb.2 q hqS).trans hq2, ⟨oI, (sb.2 Ia hSI.symm).trans hI2, hcI, hdI⟩, ⟨x0, v, kp2, _, hx0, ru0, get?_update_seq hS2 fun _ => #[v, .ref kp2], hkp2⟩, fun j' y y' hj' e1 e2 => ?_⟩⟩
      have e : j' = 0 := by omega
      subst e
      rw [e1] at e2
      cases e2
      exact Int.le_refl _
end
theorem extn_l {K : PySem.W.Frag} {H H' : Hp} {a : Addr} {xs : List V} (e : ExtN H H') (h : SqL K H a xs) : SqL K H' a xs := by
  rcases h with (h | ⟨o, h⟩) | h
  · exact .inl (.inl (e _ _ h fun ps z => nomatch z))
  · exact .inl (.inr ⟨o, e _ _ h fun ps z => nomatch z⟩)
  · exact .inr h
theorem extn_t {K : PySem.W.Frag} {H H' : Hp} {a : Addr} {xs : List V} (e : ExtN H H') (h : SqT K H a xs) : SqT K H' a xs := by
  rcases h with (h | ⟨o, h⟩) | h
  · exact .inl (.inl (e _ _ h fun ps z => nomatch z))
  · exact .inl (.inr ⟨o, e _ _ h fun ps z => nomatch z⟩)
  · exact .inr h
/-- min(e, key=lambda a: body): an item with the least first part of its key -/
def tMinLam (K : PySem.W.Frag) (T : List (Addr × Str)) (js : Nat) (ta : TA) (tb : TE) : TE := fun σ H Q => ta σ H fun vs H1 => ∃ l xs, vs = [.ref l] ∧ SqL K H1 l xs ∧ 0 < xs.length ∧ Tabs T H1 ∧
  ∀ H2, ExtN H1 H2 → Tabs T H2 → ∃ kf : V → Int × Int, (∀ x ∈ xs, EvU tb (σ.set js (some x)) H2 [.int (kf x).1, .int (kf x).2]) ∧ ∀ (x : V) (H3 : Hp), x ∈ xs → Ex H2 H3 → (∀ x' ∈ xs, (kf x).1 ≤ (kf x').1) → Q x H3
theorem pe_minLam {X : Cx} {T : List (Addr × Str)} {c P : Addr} {k js : Nat} {a : Str} {e : Expr} {ta : TA} {tb : TE} {params : Arguments} {body : Expr} {scope : Scope} {p lpos kpos pos : Pos} (hg : Gl X "min") (hm : X.mg "min" = none) (ha : PA X [e] ta)
    (TB : TabB X.base X.mg c P) (hcode : X.env.code = .ref c) (hmT : (P, X.env.qual ++ "<lambda>") ∈ T) (hu : ∀ p ∈ T, p.1 = P → p.2 = X.env.qual ++ "<lambda>") (hr : Room (k + 2) X.A) (L : Lam1 X.env.scope scope a) (hN : X.N.Nodup) (hjs : X.N[js]? = some a) (hdef : defaultsOf params X.env = ([], []))
    (hbind : ∀ (q : Str) (cl : List (Str × Addr)) (pm cv ctv u : Value), bindArgs (PySem.W.kla_fn "<lambda>" q params body scope cl pm cv ctv) ⟨[u], []⟩ = pure [(a, u)])
    (hbody : ∀ (A : Around) (s : Shared) (H : Hp) (f c' : Addr), Room k (A.deeper (lamEnv X scope s.heap.objs.size f c')) → PE (lamCx1 X A X.stack s H scope f c') body tb)
    (he : backTo pos (starEach [e] X.env) = (false, eval e X.env) :: backTo pos (starEach [] X.env) := by rfl) (hpl : (backTo pos (starEach [e] X.env)).any (·.1) = false := by rfl)
    (hall : (backToKw pos (keywordEach [⟨some "key", .Lambda params body scope lpos, kpos⟩] X.env)).all (·.1.isSome) = true := by rfl) (hnone : (backToKw pos (keywordEach [⟨some "key", .Lambda params body scope lpos, kpos⟩] X.env)).any (·.1.isNone) = false := by rfl)
    (hks : (backToKw pos (keywordEach [⟨some "key", .Lambda params body scope lpos, kpos⟩] X.env)).filterMap (·.1) = [Str.ofString "key"] := by rfl) :
    PE X (.Call (.Name "min" p) [e] [⟨some "key", .Lambda params body scope lpos, kpos⟩] pos) (tMinLam X.K T js ta tb) := by
  refine ⟨fun pins s σ H Q I h => ?_⟩
  refine wpAny_Call_Name_kw (ld_blt I hg hm PyProof.Rows.boot_min ?_ (by decide) (by decide))
  refine PyProof.Rows.callWith_kw (thn (ha.run pos pins s σ H _ I h) fun us s1 ⟨vs, H1, I1, r1, q1⟩ => ?_) he hpl hall hnone
  obtain ⟨l, xs, ev, hl, hne, hT, h2⟩ := q1
  subst ev
  show wpAny _ _ (evalAll ((do let v ← eval (.Lambda params body scope lpos) X.env; standAt pos; pure v) :: [])) _ _ s1
  refine wpAny_evalAll_cons (wpAny_bind (lam_make2 I1 TB hcode hmT hu hT hdef (L.has I1.ok) fun f c' pm ctv H2 s' I2 eN T2 hf hfn hfr hco => wpAny_bind (wpAny_standAt (wpAny_pure (wpAny_evalAll_nil ?_)))))
  rw [hks]
  obtain ⟨kf, hk, hQ⟩ := h2 H2 eN T2
  cases r1 with
  | cons r rr =>
    cases rr
    cases r
    have hu1 : X.A.units + 1 < cLine := hu_of hr
    refine min_call (kf := kf) hr.hd hu1 I2 (extn_l eN hl) hne ⟨_, rfl⟩ hf hfn hfr ?_ fun x H' hx e' hb => hQ x H' hx e' hb
    intro H' s2 I3 e3 hq i x u hx rx
    have hco' : H' c' = some (CodeO c' (X.env.qual ++ "<lambda>")) := e3 _ _ hco
    refine lam_run (k := k) I3 L I3.env0.in1 (Room.in1 hr) hN hjs hq hco' (hbind _ _ _ _ _ _) (fun A s H hr' => hbody A s H f c' hr') rx ?_
    exact hk x (List.mem_of_getElem? hx) H' e3 _ fun kp H4 _ e4 h4 => ⟨kp, rfl, e4, h4⟩
end K6
set_option Elab.async false
set_option linter.all false
set_option maxRecDepth 100000
set_option maxHeartbeats 4000000
/-! Small words: a callee as one fact, evaluations. -/
namespace K6
open PySem PySem.Spec PyProof.Rows L2 Evl
/-- a def of the module that keeps its promise -/
def Cal (P : Program) (w : World) (K : PySem.W.Frag) (mg : Str → Option Value) (base : Heap) (x : Str) (k : Nat) (ps : List Str) (sp : Sp) : Prop :=
  ∃ f fd, FnOk P w K mg base CX0 k f fd ps sp ∧ mg x = some (.ref f) ∧ PySem.W.keepIn K (.ref f) = true ∧ Binds K fd ps []
section
variable {X : Cx}
theorem pe_cal {x : Str} {k : Nat} {ps : List Str} {sp : Sp} {p pos : Pos} {e : Expr} {es : List Expr} {t : TA} (C : Cal X.prog X.w X.K X.mg X.base x k ps sp) (hr : Room k X.A) (ha : PA X (e :: es) t) (hg : Gl X x := by rfl)
    (hdb : (x == ("__debug__" : Str)) = false := by decide) (hs : starEach (e :: es) X.env = (false, eval e X.env) :: starEach es X.env := by rfl)
    (hpl : (backTo pos (starEach es X.env)).any (·.1) = false := by rfl) : PE X (.Call (.Name x p) (e :: es) [] pos) (tCall sp [] E0 t) := by
  obtain ⟨f, fd, G, m, kp, b⟩ := C
  exact pe_call G hr hg m kp b .nil pass0 ha hdb hs hpl
end
/-- the built-in names are still the built-in ones, the module's constants -/
structure Gs (mg : Str → Option Value) : Prop where
  isinstance : mg "isinstance" = none
  int : mg "int" = none
  bool : mg "bool" = none
  tuple : mg "tuple" = none
  len : mg "len" = none
  enumerate : mg "enumerate" = none
  all : mg "all" = none
  set : mg "set" = none
  range : mg "range" = none
  max : mg "max" = none
  zip : mg "zip" = none
  list : mg "list" = none
  sum : mg "sum" = none
  min : mg "min" = none
  reversed : mg "reversed" = none
  str : mg "str" = none
  any : mg "any" = none
  mJobs : ∃ t, mg "MOST_JOBS" = some (.int 10 t)
  mTime : ∃ t, mg "MOST_TIME" = some (.int 60 t)
  mWeight : ∃ t, mg "MOST_WEIGHT" = some (.int 60 t)
  mDay : ∃ t, mg "MOST_DAY" = some (.int 600 t)
  mPairs : ∃ t, mg "MOST_PAIRS" = some (.int 40 t)
theorem pe_const {X : Cx} {x : Str} {i : Int} {pos : Pos} (h : ∃ t, X.mg x = some (.int i t)) (hg : Gl X x := by rfl) (hd : (x == ("__debug__" : Str)) = false := by decide) : PE X (.Name x pos) (tC (.int i)) := by
  obtain ⟨t, e⟩ := h
  exact pe_glob hg e ⟨t, rfl⟩ hd
/-! ### evaluations -/
section
variable {K : PySem.W.Frag} {σ : L2.St} {H H' : Hp} {ta tb tc : TE} {x y v z : V}
theorem ev_chainLe {a b c : Int} (ha : Ev ta σ H (.int a)) (hb : Ev tb σ H (.int b)) (hc : Ev tc σ H (.int c)) (h1 : a ≤ b) (h2 : b ≤ c) :
    Ev (tChain (rI0 fun i j => .bl (decide (i ≤ j))) (rI0 fun i j => .bl (decide (i ≤ j))) ta tb tc) σ H (.bl true) := fun H1 e Q q =>
  ha H1 e _ fun H2 e2 => hb H2 (e.trans e2) _ fun H3 e3 => ⟨a, b, rfl, rfl, true, congrArg V.bl (decide_eq_true h1), by
    show tc σ H3 fun w H4 => _
    exact hc H3 ((e.trans e2).trans e3) _ fun H4 e4 => ⟨b, c, rfl, rfl, by
      show Q (V.bl (decide (b ≤ c))) H4
      rw [decide_eq_true h2]
      exact q H4 ((e2.trans e3).trans e4)⟩⟩
theorem rc_isi {x c : V} {t u : Value} {b : Bool} (hc : ClsV c u) (ht : TyX K H x t) (hk : PySem.W.kitOne K t u = some b) (hm : ∀ H1, Ex H H1 → TyX K H1 x t) : RC (rIsi K) [x, c] H (.bl b) := fun H1 e Q q =>
  ⟨x, c, t, u, b, rfl, hc, hm H1 e, hk, q H1 (Ex.refl H1)⟩
theorem rc_isiI {n : String} {i : Int} {b : Bool} (hk : kitB "int" n = some b) : RC (rIsi K) [.int i, .ty n] H (.bl b) :=
  rc_isi (.ty n) (.base (.int i)) (kit_ty hk) fun _ _ => .base (.int i)
theorem rc_isiT {n : String} {a : Addr} {xs : List V} {b : Bool} (h : H a = some (.tup xs)) (hk : kitB "tuple" n = some b) : RC (rIsi K) [.ref a, .ty n] H (.bl b) :=
  rc_isi (.ty n) (.base (.tup h)) (kit_ty hk) fun _ e => .base (.tup (e _ _ h))
theorem rc_lenT {a : Addr} {xs : List V} (h : H a = some (.tup xs)) : RC (rLenS K) [.ref a] H (.int (xs.length : Int)) := fun H1 e Q q =>
  ⟨a, xs, rfl, .inr (st_of (e _ _ h)), q H1 (Ex.refl H1)⟩
theorem rc_lenL {a : Addr} {xs : List V} (h : H a = some (.lst xs)) : RC (rLenS K) [.ref a] H (.int (xs.length : Int)) := fun H1 e Q q =>
  ⟨a, xs, rfl, .inl (sq_of (e _ _ h)), q H1 (Ex.refl H1)⟩
theorem ea_1 {ta : TE} (h : Ev ta σ H x) : EvA (tCons ta tNil) σ H [x] := ea_cons h ea_nil
theorem ea_2 (h : Ev ta σ H x) (h2 : Ev tb σ H y) : EvA (tCons ta (tCons tb tNil)) σ H [x, y] := ea_cons h (ea_1 h2)
theorem ea_3 (h : Ev ta σ H x) (h2 : Ev tb σ H y) (h3 : Ev tc σ H z) : EvA (tCons ta (tCons tb (tCons tc tNil))) σ H [x, y, z] := ea_cons h (ea_2 h2 h3)
theorem ea_4 {td : TE} (h : Ev ta σ H x) (h2 : Ev tb σ H y) (h3 : Ev tc σ H z) (h4 : Ev td σ H v) : EvA (tCons ta (tCons tb (tCons tc (tCons td tNil)))) σ H [x, y, z, v] := ea_cons h (ea_3 h2 h3 h4)
/-! ### targets, loops -/
variable {D : Ends} {tb' : TS} {g : TG} {Qg : L2.St → Hp → Prop}
theorem g_two {i j : Nat} {T : Addr} (h : H T = some (.tup [x, y])) (q : Qg ((σ.set i (some x)).set j (some y)) H) : gTup K 2 (gCons (gName i) (gCons (gName j) gNil)) (.ref T) σ H Qg := ⟨T, [x, y], rfl, st_of h, rfl, x, [y], rfl, y, [], rfl, rfl, q⟩
theorem g_three {i j k : Nat} {T : Addr} (h : H T = some (.tup [x, y, z])) (q : Qg (((σ.set i (some x)).set j (some y)).set k (some z)) H) : gTup K 3 (gCons (gName i) (gCons (gName j) (gCons (gName k) gNil))) (.ref T) σ H Qg := ⟨T, [x, y, z], rfl, st_of h, rfl, x, [y, z], rfl, y, [z], rfl, z, [], rfl, rfl, q⟩
theorem s_forEnumT {tl : TA} {a : Addr} {xs : List V} (h : EvA tl σ H [.ref a]) (hx : H a = some (.tup xs)) (Pv : Nat → L2.St → Hp → Prop) (h0 : ∀ H1, Ex H H1 → Pv 0 σ H1) (hG : ∀ i σ' H', i ≤ xs.length → Pv i σ' H' → H' a = some (.tup xs))
    (hs : ∀ i x T σ' H', xs[i]? = some x → Pv i σ' H' → H' T = none → g (.ref T) σ' (upd H' T (.tup [.int (i : Nat), x])) fun σ2 H2 => tb' { D with nx := Pv (i + 1), ct := Pv (i + 1), bk := D.nx } σ2 H2)
    (hd : ∀ σ' H', Pv xs.length σ' H' → D.nx σ' H') : tFor (iEnumT K tl) g tb' D σ H := h H (Ex.refl H) _ fun H1 e => ⟨a, xs, rfl, st_of (e _ _ hx), for_it walk_enumT Pv (h0 H1 e) (fun i σ' H' hi p => st_of (hG i σ' H' hi p)) (fun i v σ' H' H2 hi p y => by
    obtain ⟨T, x1, x2, e1, e2, e3, e4, e5⟩ := y
    have e6 : V.int (i : Nat) = x1 := Option.some.inj e4
    subst e1 e3 e6
    exact hs i x2 T σ' H' e5 p e2) hd⟩
theorem q_forEnumT {tz : TS} {tl : TA} {a : Addr} {xs : List V} (h : EvA tl σ H [.ref a]) (hx : H a = some (.tup xs)) (Pv : Nat → L2.St → Hp → Prop) (h0 : ∀ H1, Ex H H1 → Pv 0 σ H1) (hG : ∀ i σ' H', i ≤ xs.length → Pv i σ' H' → H' a = some (.tup xs))
    (hs : ∀ i x T σ' H', xs[i]? = some x → Pv i σ' H' → H' T = none → g (.ref T) σ' (upd H' T (.tup [.int (i : Nat), x])) fun σ2 H2 => tb' { D with nx := Pv (i + 1), ct := Pv (i + 1), bk := tz D } σ2 H2)
    (hd : ∀ σ' H', Pv xs.length σ' H' → tz D σ' H') : tSeq (tFor (iEnumT K tl) g tb') tz D σ H := s_forEnumT (D := { D with nx := tz D }) h hx Pv h0 hG hs hd
end
end K6
set_option Elab.async false
set_option linter.all false
set_option maxRecDepth 100000
set_option maxHeartbeats 4000000
/-! Comprehensions: what they evaluate to. -/
namespace K6
open PySem PySem.Spec PyProof.Rows L2 Evl
section
variable {K : PySem.W.Frag} {σ : L2.St} {H : Hp}
/-- what is walked: the items o.map iv -/
def Walks1 {α : Type} (wi : TI) (σ : L2.St) (H : Hp) (o : List α) (iv : α → V) : Prop :=
  ∀ H1, Ex H H1 → ∀ R : It → Hp → Prop, (∀ (J : It) (H2 : Hp) (G : Hp → Prop), Ex H1 H2 → Walk J o.length G (YAt (o.map iv)) → (∀ H3, Ex H2 H3 → G H3) → R J H2) → wi σ H1 R
theorem w1_list {α : Type} {tl : TE} {a : Addr} {o : List α} {iv : α → V} (h : Ev tl σ H (.ref a)) (hx : H a = some (.lst (o.map iv))) : Walks1 (iList K tl) σ H o iv := fun H1 e R q =>
  h H1 e _ fun H2 e2 => ⟨a, rfl, ⟨_, sq_of ((e.trans e2) _ _ hx)⟩, q (Itl K a) H2 _ e2 (by
    have w := walk_list (K := K) (a := a) (xs := o.map iv)
    rw [List.length_map] at w
    exact w) fun H3 e3 => sq_of (((e.trans e2).trans e3) _ _ hx)⟩
theorem w1_newList {α : Type} {tl : TE} {o : List α} {iv : α → V} (h : EvL tl σ H (o.map iv)) : Walks1 (iList K tl) σ H o iv := fun H1 e R q =>
  h H1 e _ fun a H2 _ e2 hx => ⟨a, rfl, ⟨_, sq_of hx⟩, q (Itl K a) H2 _ e2 (by
    have w := walk_list (K := K) (a := a) (xs := o.map iv)
    rw [List.length_map] at w
    exact w) fun H3 e3 => sq_of (e3 _ _ hx)⟩
theorem w1_tup {α : Type} {tl : TE} {a : Addr} {o : List α} {iv : α → V} (h : Ev tl σ H (.ref a)) (hx : H a = some (.tup (o.map iv))) : Walks1 (iTup K tl) σ H o iv := fun H1 e R q =>
  h H1 e _ fun H2 e2 => ⟨a, rfl, ⟨_, st_of ((e.trans e2) _ _ hx)⟩, q (Itt K a) H2 _ e2 (by
    have w := walk_tup (K := K) (a := a) (xs := o.map iv)
    rw [List.length_map] at w
    exact w) fun H3 e3 => st_of (((e.trans e2).trans e3) _ _ hx)⟩
theorem w1_range {ta : TA} {n : Nat} (h : EvA ta σ H [.int (n : Nat)]) (hn : n ≤ 100000) : Walks1 (iRng1 ta) σ H (List.range n) (fun j => .int (j : Nat)) := fun H1 e R q =>
  h H1 e _ fun H2 e2 => ⟨(n : Nat), rfl, by omega, by omega, q (Itr 0 (n : Int).toNat) H2 (fun _ => True) e2 (by
    have w := walk_range (lo := 0) (n := n)
    rw [List.length_range]
    refine w.mono (fun _ _ => trivial) fun i H x H' hi _ y => ⟨y.1, ?_⟩
    rw [y.2, List.getElem?_map, List.getElem?_range hi]
    simp) fun _ _ => trivial⟩
/-- a comprehension that makes a list of values -/
theorem el_lcG {α : Type} {wi : TI} {g : TG} {t : TT} {te : TE} {vs : List Nat} (o : List α) (iv : α → V) (σj : α → L2.St) (f : α → Bool) (ev : α → V) (hwi : Walks1 wi σ H o iv) (hz : o.length ≤ 40000)
    (hg : ∀ j ∈ o, ∀ H1, Ex H H1 → ∀ Q : L2.St → Hp → Prop, Q (σj j) H1 → g (iv j) (wipe σ vs) H1 Q) (hw : ∀ j ∈ o, wipe (σj j) vs = wipe σ vs)
    (ht : ∀ j ∈ o, ∀ H1, Ex H H1 → EvT t (σj j) H1 (f j)) (he : ∀ j ∈ o, ∀ H1, Ex H H1 → f j = true → Ev te (σj j) H1 (ev j)) : EvL (tLc wi g t te vs) σ H ((o.filter f).map ev) := fun H0 e Q q =>
  hwi H0 e _ fun J H2 G e2 W hG Dl hD =>
    lc_it W (Qd := fun H' => Q (.ref Dl) H') (fun i H' => Ex H2 H' ∧ H' Dl = some (.lst (((o.take i).filter f).map ev))) ⟨Ex.new hD, upd_same⟩ (fun i H' _ p => hG H' p.1) (fun i x H3 H4 hi p y => by
      obtain ⟨p1, p2⟩ := p
      obtain ⟨y1, y2⟩ := y
      subst y1
      rw [List.getElem?_map, List.getElem?_eq_getElem hi] at y2
      have ex : iv o[i] = x := Option.some.inj y2
      subst ex
      have hm : o[i] ∈ o := List.getElem_mem hi
      have e3 := (e.trans e2).trans p1
      have tk : o.take (i + 1) = o.take i ++ [o[i]] := by
        rw [List.take_add_one, List.getElem?_eq_getElem hi] <;> rfl
      have ll : (((o.take i).filter f).map ev).length ≤ o.length := by
        rw [List.length_map]
        exact Nat.le_trans (List.length_filter_le ..) (by rw [List.length_take]; omega)
      refine hg _ hm H4 e3 _ ⟨hw _ hm, ht _ hm H4 e3 H4 (Ex.refl _) _ fun H5 e5 => ?_⟩
      cases hf : f o[i] with
      | true =>
        simp only [if_true]
        refine he _ hm H5 (e3.trans e5) hf H5 (Ex.refl _) _ fun H6 e6 => ⟨_, e6 _ _ (e5 _ _ p2), sz_lt (by omega), Ex.mut ((p1.trans e5).trans e6) hD, ?_⟩
        rw [upd_same, tk, List.filter_append, List.map_append, List.filter_cons, if_pos hf] <;> rfl
      | false =>
        simp only [Bool.false_eq_true, if_false]
        refine ⟨p1.trans e5, ?_⟩
        rw [tk, List.filter_append, List.map_append, List.filter_cons, if_neg (by rw [hf]; decide)]
        show H5 Dl = some (.lst (((o.take i).filter f).map ev ++ []))
        rw [List.append_nil]
        exact e5 _ _ p2) (fun H' p => by
      refine q Dl H' (fresh_back e2 hD) (e2.trans p.1) ?_
      rw [p.2, List.take_length])
theorem et_yes {σ : L2.St} {H : Hp} : EvT tYes σ H true := fun H1 _ Q q => q H1 (Ex.refl H1)
theorem filter_yes {α : Type} (o : List α) : o.filter (fun _ => true) = o := List.filter_eq_self.mpr fun _ _ => rfl
/-- without a test -/
theorem el_lcM {α : Type} {wi : TI} {g : TG} {te : TE} {vs : List Nat} (o : List α) (iv : α → V) (σj : α → L2.St) (ev : α → V) (hwi : Walks1 wi σ H o iv) (hz : o.length ≤ 40000)
    (hg : ∀ j ∈ o, ∀ H1, Ex H H1 → ∀ Q : L2.St → Hp → Prop, Q (σj j) H1 → g (iv j) (wipe σ vs) H1 Q) (hw : ∀ j ∈ o, wipe (σj j) vs = wipe σ vs)
    (he : ∀ j ∈ o, ∀ H1, Ex H H1 → Ev te (σj j) H1 (ev j)) : EvL (tLc wi g tYes te vs) σ H (o.map ev) := by
  have h := el_lcG (t := tYes) o iv σj (fun _ => true) ev hwi hz hg hw (fun _ _ _ _ => et_yes) fun j hj H1 e _ => he j hj H1 e
  rw [filter_yes] at h
  exact h
end
end K6
set_option Elab.async false
set_option linter.all false
set_option maxRecDepth 100000
set_option maxHeartbeats 4000000
/-! Lists of jobs, pairs, data. -/
namespace K6
open PySem PySem.Spec PyProof.Rows L2 Evl
abbrev Pr2 := (Nat × Nat) × Addr
abbrev nv (j : Nat) : V := .int (j : Int)
abbrev jl (o : List Nat) : List V := o.map nv
/-- pairs at a: the pairs with the addresses of their tuples -/
def PrsAt (H : Hp) (a : Addr) (o : List Pr2) : Prop := H a = some (.tup (o.map fun e => V.ref e.2)) ∧ ∀ e ∈ o, H e.2 = some (.tup [nv e.1.1, nv e.1.2])
theorem PrsAt.ex {H H' : Hp} {a : Addr} {o : List Pr2} (e : Ex H H') (h : PrsAt H a o) : PrsAt H' a o := ⟨e _ _ h.1, fun p hp => e _ _ (h.2 p hp)⟩
theorem eqV_nv (a b : Nat) : eqV (nv a) (nv b) = decide (a = b) := by
  show ((a : Int) == (b : Int)) = decide (a = b)
  by_cases h : a = b
  · subst h
    simp
  · rw [decide_eq_false h]
    exact beq_eq_false_iff_ne.mpr (by omega)
theorem inV_jl (j : Nat) (o : List Nat) : inV (nv j) (jl o) = o.contains j := by
  unfold inV
  induction o with
  | nil => rfl
  | cons a r ih =>
    have e1 : ((jl (a :: r)).any fun y => eqV y (nv j)) = (eqV (nv a) (nv j) || (jl r).any fun y => eqV y (nv j)) := rfl
    rw [e1, eqV_nv, ih, List.contains_cons]
    congr 1
    by_cases h : a = j
    · subst h
      simp
    · rw [decide_eq_false h]
      exact (beq_eq_false_iff_ne.mpr (Ne.symm h)).symm
theorem flat_jl (o : List Nat) : (jl o).all flatV = true := by
  rw [List.all_map, List.all_eq_true]
  intro x _
  rfl
theorem dec_nv (a b : Nat) : decide (nv a = nv b) = decide (a = b) := by
  by_cases h : a = b
  · subst h
    simp
  · rw [decide_eq_false h, decide_eq_false]
    intro z
    exact h (by have := V.int.inj z; omega)
section
variable {K : PySem.W.Frag} {σ : L2.St} {H H' : Hp} {ta tb tc te : TE} {x y v z : V}
theorem ev_eqN {a b : Nat} (ha : Ev ta σ H (nv a)) (hb : Ev tb σ H (nv b)) : Ev (tOp rEq ta tb) σ H (.bl (decide (a = b))) := ev_is (ev_op ha hb (rv_eq rfl)) (congrArg V.bl (dec_nv a b))
theorem ev_inL {j : Nat} {p : Addr} {o : List Nat} (ha : Ev ta σ H (nv j)) (hb : Ev tb σ H (.ref p)) (h : H p = some (.lst (jl o))) : Ev (tOp (rIn K false) ta tb) σ H (.bl (o.contains j)) :=
  ev_is (ev_op ha hb (rv_isL (sq_of h) rfl (flat_jl o))) (congrArg V.bl (inV_jl j o))
theorem ev_niL {j : Nat} {p : Addr} {o : List Nat} (ha : Ev ta σ H (nv j)) (hb : Ev tb σ H (.ref p)) (h : H p = some (.lst (jl o))) : Ev (tOp (rIn K true) ta tb) σ H (.bl (!o.contains j)) :=
  ev_is (ev_op ha hb (rv_niL (sq_of h) rfl (flat_jl o))) (congrArg V.bl (by rw [inV_jl]))
theorem ev_niT {j : Nat} {p : Addr} {o : List Nat} (ha : Ev ta σ H (nv j)) (hb : Ev tb σ H (.ref p)) (h : H p = some (.tup (jl o))) : Ev (tOp (rIn K true) ta tb) σ H (.bl (!o.contains j)) :=
  ev_is (ev_op ha hb (rv_niT (st_of h) rfl (flat_jl o))) (congrArg V.bl (by rw [inV_jl]))
/-- an item of a tracked tuple, list -/
theorem ev_ixT {p : Addr} {xs : List V} {i : Int} (ha : Ev ta σ H (.ref p)) (hb : Ev tb σ H (.int i)) (h : H p = some (.tup xs)) (hx : atI xs i = some v) : Ev (tOp (rIxT K) ta tb) σ H v := ev_op ha hb (rv_ixT (st_of h) hx)
theorem ev_ixL {p : Addr} {xs : List V} {i : Int} (ha : Ev ta σ H (.ref p)) (hb : Ev tb σ H (.int i)) (h : H p = some (.lst xs)) (hx : atI xs i = some v) : Ev (tOp (rIxL K) ta tb) σ H v := ev_op ha hb (rv_ixL (sq_of h) hx)
/-- a call over a new list -/
theorem ev_cbN {r : List V → Hp → VK → Prop} {xs : List V} (h : EvL te σ H xs) (hr : ∀ p H1, H1 p = some (.lst xs) → Ex H H1 → ∀ Q : VK, Q z H1 → r [.ref p] H1 Q) : Ev (tCB r (tCons te tNil)) σ H z := fun H1 e Q q =>
  h H1 e _ fun p H2 _ e2 hp => hr p H2 hp (e.trans e2) Q (q H2 e2)
theorem ev_anyN {bs : List Bool} (h : EvL te σ H (bs.map V.bl)) : Ev (tCB (rAny K) (tCons te tNil)) σ H (.bl (bs.any id)) := ev_cbN h fun p H1 hp _ Q q => ⟨p, bs, rfl, sq_of hp, q⟩
theorem ev_allN {bs : List Bool} (h : EvL te σ H (bs.map V.bl)) : Ev (tCB (rAll K) (tCons te tNil)) σ H (.bl (bs.all id)) := ev_cbN h fun p H1 hp _ Q q => ⟨p, bs, rfl, sq_of hp, q⟩
theorem ev_sumN {ns : List Int} (h : EvL te σ H (ns.map V.int)) : Ev (tCB (rSum K) (tCons te tNil)) σ H (.int ns.sum) := ev_cbN h fun p H1 hp _ Q q => ⟨p, ns, rfl, sq_of hp, q⟩
/-- the greatest, the least of a list -/
def imx : List Int → Int
  | [] => 0
  | [a] => a
  | a :: r => if imx r > a then imx r else a
theorem imx_spec : ∀ {l : List Int}, l ≠ [] → imx l ∈ l ∧ ∀ y, y ∈ l → y ≤ imx l
  | [], h => absurd rfl h
  | [a], _ => ⟨by simp [imx], fun y hy => by
      rw [List.mem_singleton.mp hy]
      exact Int.le_refl _⟩
  | a :: b :: r, _ => by
    obtain ⟨h1, h2⟩ := imx_spec (l := b :: r) (List.cons_ne_nil _ _)
    show (if imx (b :: r) > a then imx (b :: r) else a) ∈ a :: b :: r ∧ ∀ y, y ∈ a :: b :: r → y ≤ (if imx (b :: r) > a then imx (b :: r) else a)
    split
    · refine ⟨List.mem_cons_of_mem _ h1, fun y hy => ?_⟩
      rcases List.mem_cons.mp hy with z | z
      · rw [z]
        omega
      · exact h2 y z
    · refine ⟨List.mem_cons_self, fun y hy => ?_⟩
      rcases List.mem_cons.mp hy with z | z
      · rw [z]
        exact Int.le_refl _
      · have := h2 y z
        omega
theorem imx_eq {l : List Int} {m : Int} (h1 : m ∈ l) (h2 : ∀ y, y ∈ l → y ≤ m) : m = imx l := by
  obtain ⟨a, b⟩ := imx_spec (l := l) (fun z => by rw [z] at h1; cases h1)
  have := b m h1
  have := h2 _ a
  omega
theorem imx_le {l : List Int} {c : Int} (h : l ≠ []) : imx l ≤ c ↔ ∀ y, y ∈ l → y ≤ c := by
  obtain ⟨a, b⟩ := imx_spec h
  exact ⟨fun q y hy => Int.le_trans (b y hy) q, fun q => q _ a⟩
def imn : List Int → Int
  | [] => 0
  | [a] => a
  | a :: r => if imn r < a then imn r else a
theorem imn_spec : ∀ {l : List Int}, l ≠ [] → imn l ∈ l ∧ ∀ y, y ∈ l → imn l ≤ y
  | [], h => absurd rfl h
  | [a], _ => ⟨by simp [imn], fun y hy => by
      rw [List.mem_singleton.mp hy]
      exact Int.le_refl _⟩
  | a :: b :: r, _ => by
    obtain ⟨h1, h2⟩ := imn_spec (l := b :: r) (List.cons_ne_nil _ _)
    show (if imn (b :: r) < a then imn (b :: r) else a) ∈ a :: b :: r ∧ ∀ y, y ∈ a :: b :: r → (if imn (b :: r) < a then imn (b :: r) else a) ≤ y
    split
    · refine ⟨List.mem_cons_of_mem _ h1, fun y hy => ?_⟩
      rcases List.mem_cons.mp hy with z | z
      · rw [z]
        omega
      · exact h2 y z
    · refine ⟨List.mem_cons_self, fun y hy => ?_⟩
      rcases List.mem_cons.mp hy with z | z
      · rw [z]
        exact Int.le_refl _
      · have := h2 y z
        omega
theorem imn_eq {l : List Int} {m : Int} (h1 : m ∈ l) (h2 : ∀ y, y ∈ l → m ≤ y) : m = imn l := by
  obtain ⟨a, b⟩ := imn_spec (l := l) (fun z => by rw [z] at h1; cases h1)
  have := b m h1
  have := h2 _ a
  omega
theorem ev_maxN {ns : List Int} (h : EvL te σ H (ns.map V.int)) (hne : ns ≠ []) : Ev (tCB (rMax K) (tCons te tNil)) σ H (.int (imx ns)) := ev_cbN h fun p H1 hp _ Q q => ⟨p, ns, rfl, sq_of hp, List.length_pos_iff.mpr hne, fun m h1 h2 => by
  rw [imx_eq h1 h2]
  exact q⟩
theorem ev_minN {ns : List Int} (h : EvL te σ H (ns.map V.int)) (hne : ns ≠ []) : Ev (tCB (rMin K) (tCons te tNil)) σ H (.int (imn ns)) := ev_cbN h fun p H1 hp _ Q q => ⟨p, ns, rfl, sq_of hp, List.length_pos_iff.mpr hne, fun m h1 h2 => by
  rw [imn_eq h1 h2]
  exact q⟩
/-! ### data -/
def jD (o : List Nat) : List PyData := o.map fun (j : Nat) => PyData.int (j : Int)
theorem dp_jl {H : Hp} : ∀ o : List Nat, DpAll K H (jl o) (jD o)
  | [] => .nil
  | j :: r => .cons (.int _) (dp_jl r)
theorem jD_lay : ∀ o : List Nat, PyData.canLayAll0 (jD o) = true
  | [] => by simp [jD, PyData.canLayAll0]
  | j :: r => by
    have := jD_lay r
    simp only [jD, List.map_cons, PyData.canLayAll0, PyData.canLay0, Bool.true_and]
    exact this
theorem jD_depth : ∀ o : List Nat, PyData.depthAll (jD o) ≤ 1
  | [] => by simp [jD, PyData.depthAll]
  | j :: r => by
    have := jD_depth r
    simp only [jD, List.map_cons, PyData.depthAll, PyData.depth]
    simp only [jD] at this
    omega
theorem jD_shL (o : List Nat) : SeqAt.shaped (.list (jD o)) = true := by
  show (PyData.canLay0 (.list (jD o)) && decide (PyData.depth (.list (jD o)) ≤ 64)) = true
  rw [Bool.and_eq_true]
  have := jD_depth o
  refine ⟨by simp only [PyData.canLay0]; exact jD_lay o, decide_eq_true ?_⟩
  simp only [PyData.depth]
  omega
theorem jD_shT (o : List Nat) : SeqAt.shaped (.tuple (jD o)) = true := by
  show (PyData.canLay0 (.tuple (jD o)) && decide (PyData.depth (.tuple (jD o)) ≤ 64)) = true
  rw [Bool.and_eq_true]
  have := jD_depth o
  refine ⟨by simp only [PyData.canLay0]; exact jD_lay o, decide_eq_true ?_⟩
  simp only [PyData.depth]
  omega
theorem jD_eqv : ∀ a b : List Nat, PyData.eqvAll (jD a) (jD b) = decide (a = b)
  | [], [] => by simp [jD, PyData.eqvAll]
  | [], b :: r => by simp [jD, PyData.eqvAll]
  | a :: r, [] => by simp [jD, PyData.eqvAll]
  | a :: r, b :: s => by
    have ih := jD_eqv r s
    simp only [jD] at ih
    simp only [jD, List.map_cons, PyData.eqvAll, PyData.eqv, ih]
    by_cases h : a = b
    · subst h
      simp
    · have q : ((a : Int) == (b : Int)) = false := beq_eq_false_iff_ne.mpr (by omega)
      rw [q, Bool.false_and, decide_eq_false]
      intro z
      exact h (List.cons.inj z).1
/-- xs == [] -/
theorem rv_eqNil {p q : Addr} {o : List Nat} (h : H p = some (.lst (jl o))) (h2 : H q = some (.lst [])) : RV (rEqD K) (.ref p) (.ref q) H (.bl o.isEmpty) := fun H1 e Q k =>
  ⟨.list (jD o), .list [], .lst (sq_of (e _ _ h)) (dp_jl o), .lst (sq_of (e _ _ h2)) .nil, jD_shL o, by decide +kernel, by
    have hq : PyData.eqv (.list (jD o)) (.list []) = o.isEmpty := by
      cases o <;> simp [jD, PyData.eqv, PyData.eqvAll]
    rw [hq]
    exact k H1 (Ex.refl _)⟩
theorem rv_neNil {p q : Addr} {o : List Nat} (h : H p = some (.lst (jl o))) (h2 : H q = some (.lst [])) : RV (rNeD K) (.ref p) (.ref q) H (.bl (!o.isEmpty)) := fun H1 e Q k =>
  ⟨.list (jD o), .list [], .lst (sq_of (e _ _ h)) (dp_jl o), .lst (sq_of (e _ _ h2)) .nil, jD_shL o, by decide +kernel, by
    have hq : PyData.eqv (.list (jD o)) (.list []) = o.isEmpty := by
      cases o <;> simp [jD, PyData.eqv, PyData.eqvAll]
    rw [hq]
    exact k H1 (Ex.refl _)⟩
theorem ev_eqNil {p : Addr} {o : List Nat} (ha : Ev ta σ H (.ref p)) (h : H p = some (.lst (jl o))) : Ev (tOp (rEqD K) ta (tLst tNil)) σ H (.bl o.isEmpty) :=
  ev_opL ha (el_lst ea_nil (by decide)) fun q H1 hq e => rv_eqNil (e _ _ h) hq
theorem ev_neNil {p : Addr} {o : List Nat} (ha : Ev ta σ H (.ref p)) (h : H p = some (.lst (jl o))) : Ev (tOp (rNeD K) ta (tLst tNil)) σ H (.bl (!o.isEmpty)) :=
  ev_opL ha (el_lst ea_nil (by decide)) fun q H1 hq e => rv_neNil (e _ _ h) hq
/-- a new list of pairs == [] -/
def pD (o : List Pr2) : List PyData := o.map fun e => PyData.tuple (jD [e.1.1, e.1.2])
theorem dp_prs {H : Hp} : ∀ {o : List Pr2}, (∀ e ∈ o, H e.2 = some (.tup [nv e.1.1, nv e.1.2])) → DpAll K H (o.map fun e => V.ref e.2) (pD o)
  | [], _ => .nil
  | e :: r, h => .cons (.tup (st_of (h e List.mem_cons_self)) (dp_jl [e.1.1, e.1.2])) (dp_prs fun x hx => h x (List.mem_cons_of_mem _ hx))
theorem tupD_lay : ∀ {ds : List PyData}, (∀ d ∈ ds, ∃ o, d = PyData.tuple (jD o)) → PyData.canLayAll0 ds = true ∧ PyData.depthAll ds ≤ 2
  | [], _ => by simp [PyData.canLayAll0, PyData.depthAll]
  | d :: r, h => by
    obtain ⟨h1, h2⟩ := tupD_lay (ds := r) fun x hx => h x (List.mem_cons_of_mem _ hx)
    obtain ⟨o, rfl⟩ := h d List.mem_cons_self
    have a := jD_lay o
    have b := jD_depth o
    constructor
    · simp only [PyData.canLayAll0, PyData.canLay0, a, h1, Bool.and_self]
    · simp only [PyData.depthAll, PyData.depth]
      omega
theorem tupD_sh {ds : List PyData} (h : ∀ d ∈ ds, ∃ o, d = PyData.tuple (jD o)) : SeqAt.shaped (.list ds) = true := by
  obtain ⟨h1, h2⟩ := tupD_lay h
  show (PyData.canLay0 (.list ds) && decide (PyData.depth (.list ds) ≤ 64)) = true
  rw [Bool.and_eq_true]
  refine ⟨by simp only [PyData.canLay0]; exact h1, decide_eq_true ?_⟩
  simp only [PyData.depth]
  omega
theorem ev_eqNilP {o : List Pr2} (h : ∀ e ∈ o, H e.2 = some (.tup [nv e.1.1, nv e.1.2])) (hl : EvL ta σ H (o.map fun e => V.ref e.2)) : Ev (tOp (rEqD K) ta (tLst tNil)) σ H (.bl o.isEmpty) :=
  ev_opLL hl (el_lst ea_nil (by decide)) fun p q H1 hp hq e H2 e2 Q k =>
    ⟨.list (pD o), .list [], .lst (sq_of (e2 _ _ hp)) (dp_prs fun x hx => e2 _ _ (e _ _ (h x hx))), .lst (sq_of (e2 _ _ hq)) .nil, tupD_sh (fun d hd => by
      obtain ⟨x, _, rfl⟩ := List.mem_map.mp hd
      exact ⟨_, rfl⟩), by decide +kernel, by
      have hq : PyData.eqv (.list (pD o)) (.list []) = o.isEmpty := by
        cases o <;> simp [pD, PyData.eqv, PyData.eqvAll]
      rw [hq]
      exact k H2 (Ex.refl _)⟩
end
/-! ### the rules with K said (within comprehensions) -/
section
variable {X : Cx} {K : PySem.W.Frag}
theorem k_any (hK : X.K = K) (hc : X.calm = true) : CallR X (.builtin "any") (rAny K) := by subst hK; exact cr_any hc
theorem k_all (hK : X.K = K) (hc : X.calm = true) : CallR X (.builtin "all") (rAll K) := by subst hK; exact cr_all hc
theorem k_in (hK : X.K = K) : OpR X (compareOp .In) (rIn K false) := by subst hK; exact op_in_seq
theorem k_ni (hK : X.K = K) : OpR X (compareOp .NotIn) (rIn K true) := by subst hK; exact op_notIn_seq
theorem k_ixT (hK : X.K = K) : IxR X (rIxT K) := by subst hK; exact ix_tup
theorem k_ixL (hK : X.K = K) : IxR X (rIxL K) := by subst hK; exact ix_list
theorem k_piT (hK : X.K = K) {tg l : Expr} {tl : TE} (hl : PE X l tl) : PI X tg l (iTup K tl) := by subst hK; exact pi_tup hl
theorem k_piL (hK : X.K = K) {tg l : Expr} {tl : TE} (hl : PE X l tl) : PI X tg l (iList K tl) := by subst hK; exact pi_list hl
theorem k_len (hK : X.K = K) : CallR X (.builtin "len") (rLenS K) := by subst hK; exact call_len_seq
def rTupOf (K : PySem.W.Frag) : List V → Hp → VK → Prop := fun xs H Q => ∃ p ys, xs = [.ref p] ∧ ((SqL K H p ys ∧ ∀ l, H l = none → Q (.ref l) (upd H l (.tup ys))) ∨ (SqT K H p ys ∧ Q (.ref p) H))
def rLstOf (K : PySem.W.Frag) : List V → Hp → VK → Prop := fun xs H Q => ∃ p ys, xs = [.ref p] ∧ (SqL K H p ys ∨ SqT K H p ys) ∧ ∀ l, H l = none → Q (.ref l) (upd H l (.lst ys))
theorem k_tuple (hK : X.K = K) : CallR X (.type "tuple") (rTupOf K) := by subst hK; exact call_tuple_of
theorem k_list (hK : X.K = K) : CallR X (.type "list") (rLstOf K) := by subst hK; exact call_list_of
end
section
variable {K : PySem.W.Frag} {σ : L2.St} {H H' : Hp} {ta tb te : TE}
theorem eu_tupL {a : Addr} {xs : List V} (h : Ev ta σ H (.ref a)) (hx : H a = some (.lst xs)) : EvU (tCB (rTupOf K) (tCons ta tNil)) σ H xs := fun H1 e Q q =>
  h H1 e _ fun H2 e2 => ⟨a, xs, rfl, .inl ⟨sq_of ((e.trans e2) _ _ hx), fun l hl => q l _ (fresh_back e2 hl) (e2.trans (Ex.new hl)) upd_same⟩⟩
theorem eu_tupN {xs : List V} (h : EvL ta σ H xs) : EvU (tCB (rTupOf K) (tCons ta tNil)) σ H xs := fun H1 e Q q =>
  h H1 e _ fun a H2 _ e2 hx => ⟨a, xs, rfl, .inl ⟨sq_of hx, fun l hl => q l _ (fresh_back e2 hl) (e2.trans (Ex.new hl)) upd_same⟩⟩
theorem el_lstT {a : Addr} {xs : List V} (h : Ev ta σ H (.ref a)) (hx : H a = some (.tup xs)) : EvL (tCB (rLstOf K) (tCons ta tNil)) σ H xs := fun H1 e Q q =>
  h H1 e _ fun H2 e2 => ⟨a, xs, rfl, .inr (st_of ((e.trans e2) _ _ hx)), fun l hl => q l _ (fresh_back e2 hl) (e2.trans (Ex.new hl)) upd_same⟩
end
end K6
set_option Elab.async false
set_option linter.all false
set_option maxRecDepth 100000
set_option maxHeartbeats 4000000
/-! Rows of numbers by the job. -/
namespace K6
open PySem PySem.Spec PyProof.Rows L2 Evl
abbrev il (ns : List Int) : List V := ns.map V.int
/-- F 0 .. F (n - 1) -/
def tl (n : Nat) (F : Nat → Int) : List Int := (List.range n).map F
abbrev fl (n : Nat) (F : Nat → Int) : List V := il (tl n F)
theorem tl_len (n : Nat) (F : Nat → Int) : (tl n F).length = n := by rw [tl, List.length_map, List.length_range]
theorem fl_len (n : Nat) (F : Nat → Int) : (fl n F).length = n := by rw [List.length_map, tl_len]
theorem get_fl {n j : Nat} {F : Nat → Int} (h : j < n) : (fl n F)[j]? = some (.int (F j)) := by
  rw [fl, il, tl, List.getElem?_map, List.getElem?_map, List.getElem?_range h]
  rfl
theorem at_fl {n j : Nat} {F : Nat → Int} (h : j < n) : atI (fl n F) (j : Int) = some (.int (F j)) := atI_nat (j := j) (get_fl h)
theorem fl_congr {n : Nat} {F G : Nat → Int} (h : ∀ j, j < n → F j = G j) : fl n F = fl n G := by
  rw [fl, fl, il, il, tl, tl, List.map_map, List.map_map]
  exact List.map_congr_left fun j hj => congrArg V.int (h j (List.mem_range.mp hj))
theorem set_fl {n j : Nat} {F : Nat → Int} {x : Int} : (fl n F).set j (.int x) = fl n (fun k => if k = j then x else F k) := by
  refine List.ext_getElem? fun k => ?_
  by_cases hk : k < n
  · rw [List.getElem?_set, get_fl hk, get_fl hk]
    by_cases e : j = k
    · subst e
      rw [if_pos rfl, if_pos (by rw [fl_len]; exact hk), if_pos rfl]
    · rw [if_neg e, if_neg (Ne.symm e)]
  · rw [List.getElem?_eq_none (by rw [List.length_set, fl_len]; omega), List.getElem?_eq_none (by rw [fl_len]; omega)]
theorem rep0 (n : Nat) : (List.replicate n [V.int 0]).flatten = fl n fun _ => 0 := by
  refine List.ext_getElem? fun k => ?_
  have e : (List.replicate n [V.int 0]).flatten = List.replicate n (V.int 0) := by
    induction n with
    | zero => rfl
    | succ m ih => rw [List.replicate_succ, List.flatten_cons, ih, List.replicate_succ] <;> rfl
  rw [e]
  by_cases hk : k < n
  · rw [get_fl hk, List.getElem?_replicate, if_pos hk]
  · rw [List.getElem?_eq_none (by rw [List.length_replicate]; omega), List.getElem?_eq_none (by rw [fl_len]; omega)]
theorem endOf_snoc {t : Nat → Int} {j k : Nat} : ∀ {pre : List Nat} {day : Int}, j ∉ pre → endOf t day (pre ++ [j]) k = if k = j then day + sumT t pre + t j else endOf t day pre k
  | [], day, _ => by
    show (if k = j then day + t j else 0) = if k = j then day + 0 + t j else 0
    rw [Int.add_zero]
  | a :: r, day, h => by
    have hj : ¬ j = a := fun z => h (by rw [z]; exact List.mem_cons_self)
    show (if k = a then day + t a else endOf t (day + t a) (r ++ [j]) k) = if k = j then day + (t a + sumT t r) + t j else if k = a then day + t a else endOf t (day + t a) r k
    rw [endOf_snoc (pre := r) fun z => h (List.mem_cons_of_mem _ z)]
    by_cases e : k = j
    · subst e
      rw [if_neg hj, if_pos rfl, if_pos rfl]
      omega
    · rw [if_neg e, if_neg e]
theorem sumT_snoc {t : Nat → Int} {pre : List Nat} {j : Nat} : sumT t (pre ++ [j]) = sumT t pre + t j := by
  rw [sumT_app]
  show _ + (t j + 0) = _
  omega
theorem sumT_map (t : Nat → Int) : ∀ o : List Nat, (o.map t).sum = sumT t o
  | [] => rfl
  | j :: r => by rw [List.map_cons, List.sum_cons, sumT_map t r] <;> rfl
/-- weight * max(0, end - due) -/
def cst (w d e : Int) : Int := w * (if e - d > 0 then e - d else 0)
theorem cst_mono {w d a b : Int} (hw : 0 ≤ w) (h : a ≤ b) : cst w d a ≤ cst w d b := by
  unfold cst
  refine Int.mul_le_mul_of_nonneg_left ?_ hw
  split <;> split <;> omega
structure Jb (n : Nat) (t w d : Nat → Int) : Prop where
  n1 : 1 ≤ n
  n2 : n ≤ 10
  ht : ∀ j, 1 ≤ t j ∧ t j ≤ 60
  hw : ∀ j, 0 ≤ w j ∧ w j ≤ 60
  hd : ∀ j, 0 ≤ d j ∧ d j ≤ 600
theorem tl_all {n : Nat} {F : Nat → Int} {lo hi : Int} (h : ∀ j, lo ≤ F j ∧ F j ≤ hi) : ∀ z ∈ tl n F, lo ≤ z ∧ z ≤ hi := fun z hz => by
  obtain ⟨j, _, rfl⟩ := List.mem_map.mp hz
  exact h j
theorem sumT_nn {t : Nat → Int} (ht : ∀ j, 0 ≤ t j) : ∀ o, 0 ≤ sumT t o
  | [] => by show (0 : Int) ≤ 0; omega
  | j :: r => by
    have := sumT_nn ht r
    have := ht j
    show 0 ≤ t j + sumT t r
    omega
theorem sumT_le {t : Nat → Int} {b : Int} (ht : ∀ j, t j ≤ b) : ∀ o : List Nat, sumT t o ≤ b * o.length
  | [] => by show (0 : Int) ≤ b * ((0 : Nat) : Int); omega
  | j :: r => by
    have := sumT_le ht r
    have := ht j
    show t j + sumT t r ≤ b * ((r.length + 1 : Nat) : Int)
    rw [Int.natCast_add, Int.mul_add]
    omega
theorem endOf_le {t : Nat → Int} (h0 : ∀ j, 0 ≤ t j) {b : Int} (ht : ∀ j, t j ≤ b) : ∀ (o : List Nat) (day : Int), 0 ≤ day → ∀ j, 0 ≤ endOf t day o j ∧ endOf t day o j ≤ day + b * o.length
  | [], day, hd, j => by
    show (0 : Int) ≤ 0 ∧ (0 : Int) ≤ day + b * ((0 : Nat) : Int)
    omega
  | k :: r, day, hd, j => by
    have h1 := h0 k
    have h2 := ht k
    have hb : 0 ≤ b := Int.le_trans h1 h2
    have h3 : 0 ≤ b * (r.length : Int) := Int.mul_nonneg hb (by omega)
    obtain ⟨h4, h5⟩ := endOf_le h0 ht r (day + t k) (by omega) j
    show 0 ≤ (if j = k then day + t k else endOf t (day + t k) r j) ∧ (if j = k then day + t k else endOf t (day + t k) r j) ≤ day + b * ((r.length + 1 : Nat) : Int)
    rw [Int.natCast_add, Int.mul_add]
    split <;> omega
section
variable {K : PySem.W.Frag} {σ : L2.St} {H H' : Hp} {ta tb te : TE}
theorem ev_mul {a b : Int} (ha : Ev ta σ H (.int a)) (hb : Ev tb σ H (.int b)) (h : -(2 ^ 64) < a ∧ a < 2 ^ 64) : Ev (tOp (rI CMul fun i j => .int (i * j)) ta tb) σ H (.int (a * b)) := ev_op ha hb (rv_I (.inl h))
/-- times[job] -/
theorem ev_jobT {p : Addr} {n j : Nat} {F : Nat → Int} (ha : Ev ta σ H (.ref p)) (hb : Ev tb σ H (nv j)) (h : H p = some (.tup (fl n F))) (hj : j < n) : Ev (tOp (rIxT K) ta tb) σ H (.int (F j)) := ev_ixT ha hb h (at_fl hj)
theorem ev_jobL {p : Addr} {n j : Nat} {F : Nat → Int} (ha : Ev ta σ H (.ref p)) (hb : Ev tb σ H (nv j)) (h : H p = some (.lst (fl n F))) (hj : j < n) : Ev (tOp (rIxL K) ta tb) σ H (.int (F j)) := ev_ixL ha hb h (at_fl hj)
theorem rc_lenF {p : Addr} {n : Nat} {F : Nat → Int} (h : H p = some (.tup (fl n F))) : RC (rLenS K) [.ref p] H (nv n) := by
  have q := rc_lenT (K := K) h
  rw [fl_len] at q
  exact q
/-- [0] * many -/
theorem el_rep0 {n : Nat} (hb : Ev tb σ H (nv n)) (hn : n ≤ 1000) : EvL (tOp rRep (tLst (tCons (tC (.int 0)) tNil)) tb) σ H (fl n fun _ => 0) := fun H1 e Q q =>
  el_lst (ea_1 ev_c) (by decide) H1 e _ fun p H2 _ e2 h2 => hb H2 (e.trans e2) _ fun H3 e3 => ⟨p, (n : Int), [.int 0], rfl, rfl, e3 _ _ h2, by omega, by omega, by
    show 1 * ((n : Int).toNat) ≤ sizeLine
    refine Nat.le_trans ?_ (show 1000 ≤ sizeLine by decide)
    omega, fun l hl => by
      rw [show ((n : Int).toNat) = n from rfl, rep0]
      exact q l _ (fresh_back (e2.trans e3) hl) ((e2.trans e3).trans (Ex.new hl)) upd_same⟩
end
end K6
set_option Elab.async false
set_option linter.all false
set_option maxRecDepth 100000
set_option maxHeartbeats 0
/-! The head: the top run once in the kernel, its facts. -/
namespace K6
open PySem PySem.Spec PyProof.Rows L2
def dIsInteger : He.DefD := ⟨("is_integer", none), "is_integer", "is_integer", defArgs sIsInteger, defBody sIsInteger, defScope sIsInteger, [], []⟩
def dIsIn : He.DefD := ⟨("is_in", none), "is_in", "is_in", defArgs sIsIn, defBody sIsIn, defScope sIsIn, [], []⟩
def dIsList : He.DefD := ⟨("is_list", none), "is_list", "is_list", defArgs sIsList, defBody sIsList, defScope sIsList, [], []⟩
def dFirstBad : He.DefD := ⟨("first_bad", none), "first_bad", "first_bad", defArgs sFirstBad, defBody sFirstBad, defScope sFirstBad, [], []⟩
def dNeedTimes : He.DefD := ⟨("need_times", none), "need_times", "need_times", defArgs sNeedTimes, defBody sNeedTimes, defScope sNeedTimes, [], []⟩
def dNeedWeights : He.DefD := ⟨("need_weights", none), "need_weights", "need_weights", defArgs sNeedWeights, defBody sNeedWeights, defScope sNeedWeights, [], []⟩
def dNeedDues : He.DefD := ⟨("need_dues", none), "need_dues", "need_dues", defArgs sNeedDues, defBody sNeedDues, defScope sNeedDues, [], []⟩
def dIsOrder : He.DefD := ⟨("is_order", none), "is_order", "is_order", defArgs sIsOrder, defBody sIsOrder, defScope sIsOrder, [], []⟩
def dNeedOrder : He.DefD := ⟨("need_order", none), "need_order", "need_order", defArgs sNeedOrder, defBody sNeedOrder, defScope sNeedOrder, [], []⟩
def dNeedPairs : He.DefD := ⟨("need_pairs", none), "need_pairs", "need_pairs", defArgs sNeedPairs, defBody sNeedPairs, defScope sNeedPairs, [], []⟩
def dFirstOrder : He.DefD := ⟨("first_order", none), "first_order", "first_order", defArgs sFirstOrder, defBody sFirstOrder, defScope sFirstOrder, [], []⟩
def dAbleJobs : He.DefD := ⟨("able_jobs", none), "able_jobs", "able_jobs", defArgs sAbleJobs, defBody sAbleJobs, defScope sAbleJobs, [], []⟩
def dEndsIn : He.DefD := ⟨("ends_in", none), "ends_in", "ends_in", defArgs sEndsIn, defBody sEndsIn, defScope sEndsIn, [], []⟩
def dNeedWeighed : He.DefD := ⟨("need_weighed", none), "need_weighed", "need_weighed", defArgs sNeedWeighed, defBody sNeedWeighed, defScope sNeedWeighed, [], []⟩
def dNeedCosts : He.DefD := ⟨("need_costs", none), "need_costs", "need_costs", defArgs sNeedCosts, defBody sNeedCosts, defScope sNeedCosts, [], []⟩
def dCostAt : He.DefD := ⟨("cost_at", none), "cost_at", "cost_at", defArgs sCostAt, defBody sCostAt, defScope sCostAt, [], []⟩
def dGreatestIn : He.DefD := ⟨("greatest_in", none), "greatest_in", "greatest_in", defArgs sGreatestIn, defBody sGreatestIn, defScope sGreatestIn, [], []⟩
def dGreatestCost : He.DefD := ⟨("greatest_cost", none), "greatest_cost", "greatest_cost", defArgs sGreatestCost, defBody sGreatestCost, defScope sGreatestCost, [], []⟩
def dLeastGreatest : He.DefD := ⟨("least_greatest", none), "least_greatest", "least_greatest", defArgs sLeastGreatest, defBody sLeastGreatest, defScope sLeastGreatest, [], []⟩
def dDueDays : He.DefD := ⟨("due_days", none), "due_days", "due_days", defArgs sDueDays, defBody sDueDays, defScope sDueDays, [], []⟩
def dTaken : He.DefD := ⟨("_law_taken", none), "_law_taken", "_law_taken", defArgs sTaken, defBody sTaken, defScope sTaken, [], []⟩
def dPick : He.DefD := ⟨("_law_pick", none), "_law_pick", "_law_pick", defArgs sPick, defBody sPick, defScope sPick, [], []⟩
def dAlike : He.DefD := ⟨("_law_alike", none), "_law_alike", "_law_alike", defArgs sAlike, defBody sAlike, defScope sAlike, [], []⟩
def dJobs : He.DefD := ⟨("_law_jobs", none), "_law_jobs", "_law_jobs", defArgs sJobs, defBody sJobs, defScope sJobs, [], []⟩
def dOrder : He.DefD := ⟨("_law_order", none), "_law_order", "_law_order", defArgs sOrder, defBody sOrder, defScope sOrder, [], []⟩
def dOrders : He.DefD := ⟨("_law_orders", none), "_law_orders", "_law_orders", defArgs sOrders, defBody sOrders, defScope sOrders, [], []⟩
def dEnds : He.DefD := ⟨("_law_ends", none), "_law_ends", "_law_ends", defArgs sEnds, defBody sEnds, defScope sEnds, [], []⟩
def dLate : He.DefD := ⟨("_law_late", none), "_law_late", "_law_late", defArgs sLate, defBody sLate, defScope sLate, [], []⟩
def dPairs : He.DefD := ⟨("_law_pairs", none), "_law_pairs", "_law_pairs", defArgs sPairs, defBody sPairs, defScope sPairs, [], []⟩
def dGreatest : He.DefD := ⟨("_law_greatest", none), "_law_greatest", "_law_greatest", defArgs sGreatest, defBody sGreatest, defScope sGreatest, [], []⟩
def dLaw : He.DefD := ⟨("law", none), "law", "law", defArgs sLaw, defBody sLaw, defScope sLaw, [], []⟩
def fnA : List He.DefD := [dIsInteger, dIsIn, dIsList, dFirstBad, dNeedTimes, dNeedWeights, dNeedDues, dIsOrder, dNeedOrder, dNeedPairs, dFirstOrder, dAbleJobs, dEndsIn, dNeedWeighed, dNeedCosts, dCostAt]
def fnB : List He.DefD := [dGreatestIn, dGreatestCost, dLeastGreatest, dDueDays, dTaken, dPick, dAlike, dJobs, dOrder, dOrders, dEnds, dLate, dPairs, dGreatest, dLaw]
def fn : List He.DefD := fnA ++ fnB
def faA : List He.Fa := [.glo "is_integer", .glo "is_in", .glo "is_list", .glo "first_bad", .glo "need_times", .glo "need_weights", .glo "need_dues", .glo "is_order", .glo "need_order", .glo "need_pairs", .glo "first_order", .glo "able_jobs", .glo "ends_in", .glo "need_weighed", .glo "need_costs", .glo "cost_at", .glo "greatest_in", .glo "greatest_cost", .glo "least_greatest", .glo "due_days", .glo "_law_taken", .glo "_law_pick", .glo "_law_alike", .glo "_law_jobs", .glo "_law_order", .glo "_law_orders", .glo "_law_ends", .glo "_law_late", .glo "_law_pairs", .glo "_law_greatest", .glo "law"]
def faB : List He.Fa := [.free "isinstance", .free "int", .free "bool", .free "tuple", .free "len", .free "enumerate", .free "all", .free "set", .free "range", .free "max", .free "zip", .free "list", .free "sum", .free "min", .free "reversed", .free "str", .free "any", .int "MOST_JOBS" 10, .int "MOST_TIME" 60, .int "MOST_WEIGHT" 60, .int "MOST_DAY" 600, .int "MOST_PAIRS" 40]
def fa : List He.Fa := faA ++ faB
def tf : List He.Defn := [("least_greatest", none)]
def exB : PySem.W.Frag -> Bool := fun _ => true
abbrev R : PySem.W.OpenRow := PySem.W.OpenLaw.row PySem.Challenge.rw_shoporders_k06_whole_greatest_costs
abbrev hk : PySem.W.Hook := He.hookX 4 fa fn [] tf exB
def ob (s : PySem.W.SharedT) : He.AlX := He.obsX 4 fa fn [] tf exB (HandSHeadRun.getT s)
theorem ob_eq (s : PySem.W.SharedT) : ob s = hk.obs s.abs := He.obsX_eq (HandSHeadRun.getT_eq s)
def looseA : List PySem.Str := ["is_integer", "is_in", "is_list", "ShopError", "BadTimes", "BadWeights", "BadDues", "BadOrder", "BadPairs", "HasRing", "MOST_JOBS", "MOST_TIME", "MOST_WEIGHT", "MOST_DAY", "MOST_PAIRS", "first_bad", "need_times", "need_weights", "need_dues", "is_order", "need_order", "need_pairs", "first_order", "able_jobs", "ends_in", "need_weighed", "need_costs", "cost_at", "greatest_in", "greatest_cost"]
def looseB : List PySem.Str := ["least_greatest", "due_days", "_law_taken", "_law_pick", "_law_alike", "_law_jobs", "_law_order", "_law_orders", "_law_ends", "_law_late", "_law_pairs", "_law_greatest"]
def loose : List PySem.Str := looseA ++ looseB
theorem run (w : World) : HandSHeadRun.RunEq R (PySem.W.view R.prog [48]) hk ob 6000 loose w := by
  intro os
  kernel_rfl
end K6
set_option Elab.async false
set_option linter.all false
set_option maxRecDepth 100000
set_option maxHeartbeats 4000000
/-! is_integer, is_in, is_list, first_bad, need_times, need_weights, need_dues. -/
namespace K6
open PySem PySem.Spec PyProof.Rows L2 Evl
section
variable {P : Program} {w : World} {K : PySem.W.Frag} {mg : Str → Option Value} {base : Heap} {f : Addr} {fd : FuncData}
def spIsInteger : Sp := fun vs H Q _ => ∃ i : Int, vs = [.int i] ∧ ∀ H', Ex H H' → Q (.bl true) H'
theorem ok_isInteger (F : FnP K "is_integer" sIsInteger f fd) (g : Gs mg) : FnOk P w K mg base CX0 1 f fd ["value"] spIsInteger := by
  refine F.ok scIsInteger (fun vs H Q E h => ?_) (fun cdv A outer s H vs Q E hr h => ?_)
  · obtain ⟨i, rfl, _⟩ := h
    rfl
  · obtain ⟨i, rfl, q⟩ := h
    refine ⟨_, PSs.nox (pss_one (ps_ret (pe_and (pe_callB call_isi (by rfl) g.isinstance (by decide +kernel) (pa_cons (pv 0) (pa_cons (pe_bltn (v := .ty "int") (by rfl) g.int boot_int rfl) pa_nil)))
      (pe_one (pe_not (pe_callB call_isi (by rfl) g.isinstance (by decide +kernel) (pa_cons (pv 0) (pa_cons (pe_bltn (v := .ty "bool") (by rfl) g.bool (by decide +kernel) rfl) pa_nil)))))))), ?_⟩
    exact s_ret (ev_andV (a := true) (b := true) (ev_cb (ea_2 (ev_var rfl) ev_c) (rc_isiI (by decide +kernel))) fun _ => ev_notV (a := false) (ev_cb (ea_2 (ev_var rfl) ev_c) (rc_isiI (by decide +kernel)))) q
def spIsIn : Sp := fun vs H Q _ => ∃ i lo hi : Int, vs = [.int i, .int lo, .int hi] ∧ lo ≤ i ∧ i ≤ hi ∧ ∀ H', Ex H H' → Q (.bl true) H'
theorem ok_isIn (F : FnP K "is_in" sIsIn f fd) (C : Cal P w K mg base "is_integer" 1 ["value"] spIsInteger) : FnOk P w K mg base CX0 2 f fd ["value", "least", "most"] spIsIn := by
  refine F.ok scIsIn (fun vs H Q E h => ?_) (fun cdv A outer s H vs Q E hr h => ?_)
  · obtain ⟨i, lo, hi, rfl, _⟩ := h
    rfl
  · obtain ⟨i, lo, hi, rfl, h1, h2, q⟩ := h
    refine ⟨_, PSs.nox (pss_one (ps_ret (pe_and (pe_cal C hr (pa_cons (pv 0) pa_nil)) (pe_one (pe_chain op_le op_le (pv 1) (pv 0) (pv 2)))))), ?_⟩
    exact s_ret (ev_andV (a := true) (b := true) (ev_call (ea_1 (ev_var rfl)) fun H1 e Q q E => ⟨i, rfl, q⟩) fun _ => ev_chainLe (ev_var rfl) (ev_var rfl) (ev_var rfl) h1 h2) q
def spIsList : Sp := fun vs H Q _ => ∃ (a : Addr) (xs : List V) (lo hi : Int), vs = [.ref a, .int lo, .int hi] ∧ H a = some (.tup xs) ∧ lo ≤ xs.length ∧ xs.length ≤ hi ∧ ∀ H', Ex H H' → Q (.bl true) H'
theorem ok_isList (F : FnP K "is_list" sIsList f fd) (g : Gs mg) : FnOk P w K mg base CX0 1 f fd ["value", "least", "most"] spIsList := by
  refine F.ok scIsList (fun vs H Q E h => ?_) (fun cdv A outer s H vs Q E hr h => ?_)
  · obtain ⟨a, xs, lo, hi, rfl, _⟩ := h
    rfl
  · obtain ⟨a, xs, lo, hi, rfl, ha, h1, h2, q⟩ := h
    refine ⟨_, PSs.nox (pss_one (ps_ret (pe_and (pe_callB call_isi (by rfl) g.isinstance (by decide +kernel) (pa_cons (pv 0) (pa_cons (pe_bltn (v := .ty "tuple") (by rfl) g.tuple (by decide +kernel) rfl) pa_nil)))
      (pe_one (pe_chain op_le op_le (pv 1) (pe_callB call_len_seq (by rfl) g.len boot_len (pa_cons (pv 0) pa_nil)) (pv 2)))))), ?_⟩
    exact s_ret (ev_andV (a := true) (b := true) (ev_cb (ea_2 (ev_var rfl) ev_c) (rc_isiT ha (by decide +kernel))) fun _ => ev_chainLe (ev_var rfl) (ev_cb (ea_1 (ev_var rfl)) (rc_lenT ha)) (ev_var rfl) h1 h2) q
def spFirstBad : Sp := fun vs H Q _ => ∃ (a : Addr) (ns : List Int) (lo hi : Int), vs = [.ref a, .int ns.length, .int lo, .int hi] ∧ H a = some (.tup (ns.map V.int)) ∧ (∀ z ∈ ns, lo ≤ z ∧ z ≤ hi) ∧ ∀ H', Ex H H' → Q (.int (-1)) H'
theorem ok_firstBad (F : FnP K "first_bad" sFirstBad f fd) (g : Gs mg) (CL : Cal P w K mg base "is_list" 1 ["value", "least", "most"] spIsList) (CI : Cal P w K mg base "is_in" 2 ["value", "least", "most"] spIsIn) :
    FnOk P w K mg base CX0 3 f fd ["value", "many", "low", "high"] spFirstBad := by
  refine F.ok scFirstBad (fun vs H Q E h => ?_) (fun cdv A outer s H vs Q E hr h => ?_)
  · obtain ⟨a, ns, lo, hi, rfl, _⟩ := h
    rfl
  · obtain ⟨a, ns, lo, hi, rfl, ha, hb, q⟩ := h
    refine ⟨_, PSs.nox (pss_cons (ps_if (pt_not (pt_val (pe_cal CL (hr.mono (by decide)) (pa_cons (pv 0) (pa_cons (pv 1) (pa_cons (pv 1) pa_nil)))))) (pss_one (ps_ret pe_non)) pss_nil)
      (pss_cons (ps_for PassesOwn.never rfl (pi_enumT (by rfl) g.enumerate (pa_cons (pv 0) pa_nil)) (pg_tup rfl (pgs_cons (pg_name (i := 4) scFirstBad.nd rfl (.inl rfl)) (pgs_cons (pg_name (i := 5) scFirstBad.nd rfl (.inl rfl)) pgs_nil)))
        (pss_one (ps_if (pt_not (pt_val (pe_cal CI hr (pa_cons (pv 5) (pa_cons (pv 2) (pa_cons (pv 3) pa_nil)))))) (pss_one (ps_ret (pv 4))) pss_nil)))
      (pss_one (ps_ret (pe_un un_neg pe_int))))), ?_⟩
    refine q_when (b := false) (et_not (a := true) (et_B (ev_call (ea_3 (ev_var rfl) (ev_var rfl) (ev_var rfl)) fun H1 e Q q E => ⟨a, _, _, _, rfl, e _ _ ha, by rw [List.length_map]; exact Int.le_refl _, by rw [List.length_map]; exact Int.le_refl _, q⟩))) (fun z => nomatch z) fun _ H1 e1 => ?_
    refine s_forEnumT (ea_1 (ev_var rfl)) (e1 _ _ ha) (fun i σ' H' => Ex H H' ∧ ∃ y4 y5, σ' = [some (.ref a), some (.int ns.length), some (.int lo), some (.int hi), y4, y5]) (fun H2 e2 => ⟨e1.trans e2, none, none, rfl⟩) (fun i σ' H' _ p => p.1 _ _ ha) ?_ ?_
    · rintro i x T σ' H' hx ⟨e2, y4, y5, rfl⟩ hT
      refine g_two upd_same ?_
      obtain ⟨z, rfl, hz⟩ : ∃ z, x = V.int z ∧ z ∈ ns := by
        rw [List.getElem?_map] at hx
        obtain ⟨z, h1, h2⟩ := Option.map_eq_some_iff.mp hx
        exact ⟨z, h2.symm, List.mem_of_getElem? h1⟩
      have e3 : Ex H (upd H' T (.tup [.int (i : Nat), .int z])) := e2.trans (Ex.new hT)
      exact s_when (b := false) (et_not (a := true) (et_B (ev_call (ea_3 (ev_var rfl) (ev_var rfl) (ev_var rfl)) fun H1 e Q q E => ⟨z, lo, hi, rfl, (hb z hz).1, (hb z hz).2, q⟩))) (fun z => nomatch z) fun _ H4 e4 => ⟨e3.trans e4, _, _, rfl⟩
    · rintro σ' H' ⟨e2, y4, y5, rfl⟩
      exact s_ret (σ := []) (ev_un ev_c ru_neg) fun H3 e3 => q H3 (e2.trans e3)
def spNeedTimes : Sp := fun vs H Q _ => ∃ (a : Addr) (ns : List Int), vs = [.ref a] ∧ H a = some (.tup (ns.map V.int)) ∧ (∀ z ∈ ns, 1 ≤ z ∧ z ≤ 60) ∧ 1 ≤ ns.length ∧ ns.length ≤ 10 ∧ ∀ H', Ex H H' → Q .non H'
theorem ev_neI {K : PySem.W.Frag} {σ : L2.St} {H : Hp} {ta tb : TE} {i j : Int} (ha : Ev ta σ H (.int i)) (hb : Ev tb σ H (.int j)) (h : i = j) : EvT (tTest (tOp rNe ta tb)) σ H false :=
  et_test (ev_is (ev_op ha hb (rv_ne rfl)) (by rw [h, decide_eq_true rfl] <;> rfl))
theorem ok_needTimes (F : FnP K "need_times" sNeedTimes f fd) (g : Gs mg) (CL : Cal P w K mg base "is_list" 1 ["value", "least", "most"] spIsList) (CB : Cal P w K mg base "first_bad" 3 ["value", "many", "low", "high"] spFirstBad) :
    FnOk P w K mg base CX0 4 f fd ["times"] spNeedTimes := by
  refine F.ok scNeedTimes (fun vs H Q E h => ?_) (fun cdv A outer s H vs Q E hr h => ?_)
  · obtain ⟨a, ns, rfl, _⟩ := h
    rfl
  · obtain ⟨a, ns, rfl, ha, hb, h1, h2, q⟩ := h
    refine ⟨_, PSs.nox (pss_cons (ps_if (pt_not (pt_val (pe_cal CL (hr.mono (by decide)) (pa_cons (pv 0) (pa_cons pe_int (pa_cons (pe_const g.mJobs) pa_nil)))))) pss_never pss_nil)
      (pss_cons (ps_set (i := 1) scNeedTimes.nd rfl (.inl rfl) (pe_cal CB hr (pa_cons (pv 0) (pa_cons (pe_callB call_len_seq (by rfl) g.len boot_len (pa_cons (pv 0) pa_nil)) (pa_cons pe_int (pa_cons (pe_const g.mTime) pa_nil))))))
      (pss_one (ps_if (pt_cmpR op_ne (pv 1) (pe_un un_neg pe_int) (nomark _)) pss_never pss_nil)))), ?_⟩
    refine q_when (b := false) (et_not (a := true) (et_B (ev_call (ea_3 (ev_var rfl) ev_c ev_c) fun H1 e Q q E => ⟨a, _, _, _, rfl, e _ _ ha, by rw [List.length_map]; omega, by rw [List.length_map]; omega, q⟩))) (fun z => nomatch z) fun _ H1 e1 => ?_
    refine q_asg (v := .int (-1)) (ev_call (ea_4 (ev_var rfl) (ev_cb (ea_1 (ev_var rfl)) (rc_lenT (e1 _ _ ha))) ev_c ev_c) fun H1 e Q q E => ⟨a, ns, _, _, by rw [List.length_map] <;> rfl, e _ _ (e1 _ _ ha), hb, q⟩) fun H2 e2 => ?_
    exact s_when (b := false) (ev_neI (K := K) (ev_var rfl) (ev_un ev_c ru_neg) rfl) (fun z => nomatch z) fun _ H3 e3 => q H3 ((e1.trans e2).trans e3)
def spNeedW (lo hi : Int) : Sp := fun vs H Q _ => ∃ (a : Addr) (ns : List Int), vs = [.ref a, .int ns.length] ∧ H a = some (.tup (ns.map V.int)) ∧ (∀ z ∈ ns, lo ≤ z ∧ z ≤ hi) ∧ ∀ H', Ex H H' → Q .non H'
theorem ok_needWeights (F : FnP K "need_weights" sNeedWeights f fd) (g : Gs mg) (CB : Cal P w K mg base "first_bad" 3 ["value", "many", "low", "high"] spFirstBad) : FnOk P w K mg base CX0 4 f fd ["weights", "many"] (spNeedW 0 60) := by
  refine F.ok scNeedWeights (fun vs H Q E h => ?_) (fun cdv A outer s H vs Q E hr h => ?_)
  · obtain ⟨a, ns, rfl, _⟩ := h
    rfl
  · obtain ⟨a, ns, rfl, ha, hb, q⟩ := h
    refine ⟨_, PSs.nox (pss_cons (ps_set (i := 2) scNeedWeights.nd rfl (.inl rfl) (pe_cal CB hr (pa_cons (pv 0) (pa_cons (pv 1) (pa_cons pe_int (pa_cons (pe_const g.mWeight) pa_nil))))))
      (pss_one (ps_if (pt_cmpR op_ne (pv 2) (pe_un un_neg pe_int) (nomark _)) pss_never pss_nil))), ?_⟩
    refine q_asg (v := .int (-1)) (ev_call (ea_4 (ev_var rfl) (ev_var rfl) ev_c ev_c) fun H1 e Q q E => ⟨a, ns, _, _, rfl, e _ _ ha, hb, q⟩) fun H2 e2 => ?_
    exact s_when (b := false) (ev_neI (K := K) (ev_var rfl) (ev_un ev_c ru_neg) rfl) (fun z => nomatch z) fun _ H3 e3 => q H3 (e2.trans e3)
theorem ok_needDues (F : FnP K "need_dues" sNeedDues f fd) (g : Gs mg) (CB : Cal P w K mg base "first_bad" 3 ["value", "many", "low", "high"] spFirstBad) : FnOk P w K mg base CX0 4 f fd ["dues", "many"] (spNeedW 0 600) := by
  refine F.ok scNeedDues (fun vs H Q E h => ?_) (fun cdv A outer s H vs Q E hr h => ?_)
  · obtain ⟨a, ns, rfl, _⟩ := h
    rfl
  · obtain ⟨a, ns, rfl, ha, hb, q⟩ := h
    refine ⟨_, PSs.nox (pss_cons (ps_set (i := 2) scNeedDues.nd rfl (.inl rfl) (pe_cal CB hr (pa_cons (pv 0) (pa_cons (pv 1) (pa_cons pe_int (pa_cons (pe_const g.mDay) pa_nil))))))
      (pss_one (ps_if (pt_cmpR op_ne (pv 2) (pe_un un_neg pe_int) (nomark _)) pss_never pss_nil))), ?_⟩
    refine q_asg (v := .int (-1)) (ev_call (ea_4 (ev_var rfl) (ev_var rfl) ev_c ev_c) fun H1 e Q q E => ⟨a, ns, _, _, rfl, e _ _ ha, hb, q⟩) fun H2 e2 => ?_
    exact s_when (b := false) (ev_neI (K := K) (ev_var rfl) (ev_un ev_c ru_neg) rfl) (fun z => nomatch z) fun _ H3 e3 => q H3 (e2.trans e3)
end
end K6
set_option Elab.async false
set_option linter.all false
set_option maxRecDepth 100000
set_option maxHeartbeats 4000000
/-! able_jobs, first_order. -/
namespace K6
open PySem PySem.Spec PyProof.Rows L2 Evl
section
variable {P : Program} {w : World} {K : PySem.W.Frag} {mg : Str → Option Value} {base : Heap} {f : Addr} {fd : FuncData}
/-- the jobs that are not done -/
def notDone (n : Nat) (done : List Nat) : List Nat := (List.range n).filter fun j => !done.contains j
def prs (o : List Pr2) : Prs := o.map (·.1)
theorem any_prs (o : List Pr2) (f : Nat × Nat → Bool) : (o.map fun e => f e.1).any id = (prs o).any f := by
  unfold prs
  rw [List.any_map, List.any_map]
  rfl
def spAbleJobs : Sp := fun vs H Q _ => ∃ (a d : Addr) (n : Nat) (o : List Pr2) (done : List Nat), vs = [.ref a, .ref d, nv n] ∧ PrsAt H a o ∧ H d = some (.lst (jl done)) ∧ n ≤ 1000 ∧ o.length ≤ 1000 ∧
  ∀ p H', H p = none → Ex H H' → H' p = some (.lst (jl ((notDone n done).filter (frontB (prs o) (notDone n done))))) → Q (.ref p) H'
theorem notDone_len (n : Nat) (done : List Nat) : (notDone n done).length ≤ n := by
  unfold notDone
  refine Nat.le_trans (List.length_filter_le ..) ?_
  rw [List.length_range]
  exact Nat.le_refl _
theorem ok_ableJobs (F : FnP K "able_jobs" sAbleJobs f fd) (g : Gs mg) : FnOk P w K mg base CX0 1 f fd ["pairs", "done", "many"] spAbleJobs := by
  refine F.ok scAbleJobs (fun vs H Q E h => ?_) (fun cdv A outer s H vs Q E hr h => ?_)
  · obtain ⟨a, d, n, o, done, rfl, _⟩ := h
    rfl
  · obtain ⟨a, d, n, o, done, rfl, ha, hd, hn, ho, q⟩ := h
    refine ⟨_, PSs.nox (pss_cons (ps_set (i := 3) scAbleJobs.nd rfl (.inr rfl)
        (pe_lc (own := [("job", 4)]) (g := gName 4) (by rfl) scAbleJobs.nd (pi_range1 (by rfl) g.range (pa_cons (pv 2) pa_nil)) (blkOk_by (N := nAbleJobs) (sc := defScope sAbleJobs) (by decide +kernel))
          (fun _ _ _ _ _ => pg_name (i := 4) scAbleJobs.nd rfl (.inl rfl)) (fun _ _ _ _ _ => pts_one (pt_cmpR (k_ni (K := K) rfl) (pv 4) (pv 1) (by rfl))) (fun _ _ _ _ _ => pv 4)))
      (pss_one (ps_ret (pe_lc (own := [("job", 4)]) (g := gName 4) (by rfl) scAbleJobs.nd (k_piL (K := K) rfl (pv 3)) (blkOk_by (N := nAbleJobs) (sc := defScope sAbleJobs) (by decide +kernel))
          (fun _ _ _ _ _ => pg_name (i := 4) scAbleJobs.nd rfl (.inr rfl))
          (fun _ _ _ _ _ => pts_one (pt_not (pt_val (pe_callB (k_any (K := K) rfl rfl) (by rfl) g.any (by decide +kernel) (pa_cons
            (pe_lc (own := [("pair", 5)]) (g := gName 5) (by rfl) scAbleJobs.nd (k_piT (K := K) rfl (pv 0)) (blkOk_by (N := nAbleJobs) (by rfl))
              (fun _ _ _ _ _ => pg_name (i := 5) scAbleJobs.nd rfl (.inl rfl)) (fun _ _ _ _ _ => pts_nil)
              (fun _ _ _ _ _ => pe_and (pe_cmpR op_eq (pe_ix (k_ixT (K := K) rfl) (pv 5) pe_int (fun _ _ => rfl)) (pv 4) (nomark _)) (pe_one (pe_cmpR (k_in (K := K) rfl) (pe_ix (k_ixT (K := K) rfl) (pv 5) pe_int (fun _ _ => rfl)) (pv 3) (by rfl))))) pa_nil)))))
          (fun _ _ _ _ _ => pv 4))))), ?_⟩
    refine q_asgL (xs := jl (notDone n done)) ?_ fun p1 H1 hp1 e1 h1 => ?_
    · refine el_lcG (List.range n) (fun j => .int (j : Nat)) (fun j => [some (.ref a), some (.ref d), some (nv n), none, some (nv j), none]) (fun j => !done.contains j) nv (w1_range (ea_1 (ev_var rfl)) (by omega)) (by rw [List.length_range]; omega)
        (fun j _ H1 _ Q q => q) (fun j _ => rfl) (fun j _ H1 e => et_test (ev_niL (ev_var rfl) (ev_var rfl) (e _ _ hd))) (fun j _ H1 e _ => ev_var rfl)
    · have hl := notDone_len n done
      refine s_retL (xs := jl ((notDone n done).filter (frontB (prs o) (notDone n done)))) ?_ fun p H2 hp e2 h2 => q p H2 (fresh_back e1 hp) (e1.trans e2) h2
      refine el_lcG (notDone n done) nv (fun j => [some (.ref a), some (.ref d), some (nv n), some (.ref p1), some (nv j), none]) (frontB (prs o) (notDone n done)) nv (w1_list (ev_var rfl) h1) (by omega)
        (fun j _ H1 _ Q q => q) (fun j _ => rfl) (fun j _ H2 e2 => ?_) (fun j _ H1 e _ => ev_var rfl)
      refine et_not (a := (prs o).any fun p => decide (p.2 = j) && (notDone n done).contains p.1) (et_B (ev_is (ev_anyN (bs := o.map fun e => decide (e.1.2 = j) && (notDone n done).contains e.1.1) ?_) (congrArg V.bl (any_prs o fun p => decide (p.2 = j) && (notDone n done).contains p.1))))
      rw [List.map_map]
      have e3 := e1.trans e2
      refine el_lcM o (fun e => V.ref e.2) (fun e => [some (.ref a), some (.ref d), some (nv n), some (.ref p1), some (nv j), some (.ref e.2)]) _ (w1_tup (ev_var rfl) (e3 _ _ ha.1)) (by omega)
        (fun e _ H1 _ Q q => q) (fun e _ => rfl) fun e he H3 e4 => ?_
      have hq := (e3.trans e4) _ _ (ha.2 e he)
      exact ev_andV (a := decide (e.1.2 = j)) (b := (notDone n done).contains e.1.1) (ev_eqN (ev_ixT (ev_var rfl) ev_c hq (by rfl)) (ev_var rfl)) fun _ => ev_inL (ev_ixT (ev_var rfl) ev_c hq (by rfl)) (ev_var rfl) ((e2.trans e4) _ _ h1)
def spFirstOrder : Sp := fun vs H Q _ => ∃ (a : Addr) (n : Nat) (o : List Pr2) (rk : Nat → Nat), vs = [.ref a, nv n] ∧ PrsAt H a o ∧ n ≤ 1000 ∧ o.length ≤ 1000 ∧ (∀ p ∈ prs o, rk p.1 < rk p.2) ∧ ∀ p H', Ex H H' → Q (.ref p) H'
theorem notDone_ne {n : Nat} {done : List Nat} (hd : done.Nodup) (hl : done.length < n) : notDone n done ≠ [] := by
  intro z
  have h1 : ∀ j ∈ List.range n, j ∈ done := fun j hj => by
    cases hc : done.contains j with
    | true => exact List.contains_iff_mem.mp hc
    | false =>
      have : j ∈ notDone n done := List.mem_filter.mpr ⟨hj, by rw [hc] <;> rfl⟩
      rw [z] at this
      cases this
  have h2 : (List.range n).length ≤ done.length := by
    have key : ∀ (a b : List Nat), a.Nodup → (∀ x ∈ a, x ∈ b) → a.length ≤ b.length := by
      intro a
      induction a with
      | nil => intro b _ _; exact Nat.zero_le _
      | cons x r ih =>
        intro b h hs
        obtain ⟨g1, g2⟩ := List.nodup_cons.mp h
        have hx : x ∈ b := hs x List.mem_cons_self
        have hl : (b.erase x).length = b.length - 1 := List.length_erase_of_mem hx
        have hp : 0 < b.length := List.length_pos_of_mem hx
        have := ih (b.erase x) g2 fun y hy => (List.mem_erase_of_ne (fun (e : y = x) => g1 (by rw [← e]; exact hy))).mpr (hs y (List.mem_cons_of_mem _ hy))
        rw [List.length_cons]
        omega
    exact key _ _ List.nodup_range h1
  rw [List.length_range] at h2
  omega
theorem ok_firstOrder (F : FnP K "first_order" sFirstOrder f fd) (g : Gs mg) (CA : Cal P w K mg base "able_jobs" 1 ["pairs", "done", "many"] spAbleJobs) : FnOk P w K mg base CX0 2 f fd ["pairs", "many"] spFirstOrder := by
  refine F.ok scFirstOrder (fun vs H Q E h => ?_) (fun cdv A outer s H vs Q E hr h => ?_)
  · obtain ⟨a, n, o, rk, rfl, _⟩ := h
    rfl
  · obtain ⟨a, n, o, rk, rfl, ha, hn, ho, hrk, q⟩ := h
    refine ⟨_, PSs.nox (pss_cons (ps_set (i := 2) scFirstOrder.nd rfl (.inl rfl) (pe_lst pa_nil))
      (pss_cons (ps_while PassesOwn.never (pt_cmpR op_lt (pe_callB (k_len (K := K) rfl) (by rfl) g.len boot_len (pa_cons (pv 2) pa_nil)) (pv 1) (nomark _))
        (pss_cons (ps_set (i := 3) scFirstOrder.nd rfl (.inl rfl) (pe_cal CA hr (pa_cons (pv 0) (pa_cons (pv 2) (pa_cons (pv 1) pa_nil)))))
        (pss_cons (ps_if (pt_cmpR (op_eqD hr.units) (pv 3) (pe_lst pa_nil) (nomark _)) (pss_one (ps_ret pe_non)) pss_nil)
        (pss_one (ps_expr (pe_bm PySem.F.plainAttrs_list PySem.F.slot_list_append PySem.F.type_list_append mt_append (pv 2) (pa_cons (pe_ix (k_ixL (K := K) rfl) (pv 3) pe_int (fun _ _ => rfl)) pa_nil)))))))
      (pss_one (ps_ret (pe_callTy (k_tuple (K := K) rfl) (by rfl) g.tuple (by decide +kernel) (pa_cons (pv 2) pa_nil)))))), ?_⟩
    refine q_asgL (xs := []) (el_lst ea_nil (by decide)) fun l H1 hl e1 h1 => ?_
    refine q_while (fun m σ' H' => ∃ (done : List Nat) (y : Option V), σ' = [some (.ref a), some (nv n), some (.ref l), y] ∧ Ex H H' ∧ H' l = some (.lst (jl done)) ∧ done.Nodup ∧ (∀ j ∈ done, j < n) ∧ m = n - done.length) n ⟨[], none, rfl, e1, h1, List.nodup_nil, fun j hj => (by cases hj), rfl⟩ ?_
    rintro m σ' H' ⟨done, y, rfl, e2, h2, nd, hlt, rfl⟩
    refine ⟨decide (done.length < n), et_test (ev_is (ev_op (ev_cb (ea_1 (ev_var rfl)) (rc_lenL h2)) (ev_var rfl) rv_I0) ?_), fun hb H2 e3 => ?_, fun _ H2 e3 => ?_⟩
    · rw [List.length_map]
      exact congrArg V.bl (decide_eq_decide.mpr (by omega))
    · have hlen : done.length < n := of_decide_eq_true hb
      have e4 := e2.trans e3
      refine ⟨fun σ2 H3 => ∃ (done' : List Nat) (y : Option V), σ2 = [some (.ref a), some (nv n), some (.ref l), y] ∧ Ex H H3 ∧ H3 l = some (.lst (jl done')) ∧ done'.Nodup ∧ (∀ j ∈ done', j < n) ∧ done'.length = done.length + 1, fun σ2 H3 ⟨d', y', g1, g2, g3, g4, g5, g6⟩ => ⟨n - d'.length, by omega, d', y', g1, g2, g3, g4, g5, rfl⟩, ?_⟩
      refine q_asgL (el_call (ea_3 (ev_var rfl) (ev_var rfl) (ev_var rfl)) fun H3 e5 Q q E => ⟨a, l, n, o, done, rfl, (ha.ex e4).ex e5, e5 _ _ (e3 _ _ h2), hn, ho, q⟩) fun p H3 hp e5 h3 => ?_
      obtain ⟨j0, hj0, hf0⟩ := front_some hrk (notDone n done) (notDone_ne nd hlen)
      have hmem : j0 ∈ (notDone n done).filter (frontB (prs o) (notDone n done)) := List.mem_filter.mpr ⟨hj0, hf0⟩
      generalize hfl : (notDone n done).filter (frontB (prs o) (notDone n done)) = fl at h3 hmem
      obtain ⟨j1, r1, rfl⟩ : ∃ j1 r1, fl = j1 :: r1 := by
        cases fl with
        | nil => cases hmem
        | cons x r => exact ⟨x, r, rfl⟩
      have hj1 : j1 ∈ notDone n done := (List.mem_filter.mp (by rw [hfl]; exact List.mem_cons_self)).1
      obtain ⟨hr1, hc1⟩ := List.mem_filter.mp hj1
      refine q_when (b := false) (et_test (ev_eqNil (o := j1 :: r1) (ev_var rfl) h3)) (fun z => nomatch z) fun _ H4 e6 => ?_
      refine s_app (xs := jl done) (v := nv j1) (e6 _ _ (e5 _ _ (e3 _ _ h2))) (ev_var rfl) (ev_ixL (ev_var rfl) ev_c (e6 _ _ h3) (atI_nat (j := 0) rfl)) (by rw [List.length_map]; omega) fun H5 e7 => ?_
      refine ⟨done ++ [j1], _, rfl, Ex.mut (((e4.trans e5).trans e6).trans e7) hl, ?_, ?_, fun j hj => ?_, by simp⟩
      · rw [upd_same, jl, jl, List.map_append]
        rfl
      · rw [List.nodup_append]
        refine ⟨nd, by simp, fun x hx y hy => ?_⟩
        rw [List.mem_singleton] at hy
        subst hy
        rintro rfl
        rw [List.contains_iff_mem.mpr hx] at hc1
        cases hc1
      · rcases List.mem_append.mp hj with hj | hj
        · exact hlt j hj
        · rw [List.mem_singleton.mp hj]
          exact List.mem_range.mp hr1
    · exact s_retU (eu_tupL (ev_var rfl) (e3 _ _ h2)) fun p H3 _ e4 _ => q p H3 ((e2.trans e3).trans e4)
end
end K6
set_option Elab.async false
set_option linter.all false
set_option maxRecDepth 100000
set_option maxHeartbeats 4000000
/-! need_pairs, is_order, need_order, need_weighed, need_costs. -/
namespace K6
open PySem PySem.Spec PyProof.Rows L2 Evl
section
variable {P : Program} {w : World} {K : PySem.W.Frag} {mg : Str → Option Value} {base : Heap} {f : Addr} {fd : FuncData}
theorem k_lenSet {X : Cx} {K : PySem.W.Frag} (hK : X.K = K) {a : Expr} {ta : TE} {p p2 q pos : Pos} (hg : Gl X "len") (hm : X.mg "len" = none) (hg2 : Gl X "set") (hm2 : X.mg "set" = none) (ha : PE X a ta) (hc : X.calm = true := by rfl)
    (na : starEach [a] X.env = (false, eval a X.env) :: starEach [] X.env := by rfl) : PE X (.Call (.Name "len" p) [.Call (.Name "set" p2) [a] [] q] [] pos) (tLenSetT K ta) := by
  subst hK
  exact pe_lenSetT hg hm hg2 hm2 ha hc na
theorem jl_ints (o : List Nat) : jl o = (o.map fun (j : Nat) => (j : Int)).map V.int := by
  rw [List.map_map]
  rfl
theorem ints_nodup {o : List Nat} (h : o.Nodup) : (o.map fun (j : Nat) => (j : Int)).Nodup := by
  unfold List.Nodup
  rw [List.pairwise_map]
  exact h.imp fun hab z => hab (by omega)
theorem ev_lenSet {σ : L2.St} {H : Hp} {ta : TE} {a : Addr} {o : List Nat} (h : Ev ta σ H (.ref a)) (hx : H a = some (.tup (jl o))) (hn : o.Nodup) (hl : o.length ≤ 4000) : Ev (tLenSetT K ta) σ H (nv o.length) := fun H1 e Q q =>
  h H1 e _ fun H2 e2 => ⟨a, o.map fun (j : Nat) => (j : Int), rfl, by rw [← jl_ints]; exact st_of ((e.trans e2) _ _ hx), ints_nodup hn, by rw [List.length_map]; exact hl, by
    rw [List.length_map]
    exact q H2 e2⟩
/-- all([is_in(job, 0, many - 1) for job in value]) -/
theorem ev_allIn {σ : L2.St} {H : Hp} {te : TE} {ns : List Nat} (h : EvL te σ H (ns.map fun _ => V.bl true)) : Ev (tCB (rAll K) (tCons te tNil)) σ H (.bl true) := by
  have h2 := ev_allN (K := K) (bs := ns.map fun _ => true) (by rw [List.map_map]; exact h)
  have e : (ns.map fun _ => true).all id = true := by
    rw [List.all_map, List.all_eq_true]
    intro x _
    rfl
  rw [e] at h2
  exact h2
theorem et_isNref {te : TE} {σ : L2.St} {H : Hp} (h : ∀ H1, Ex H H1 → ∀ Q : VK, (∀ p H2, Ex H1 H2 → Q (.ref p) H2) → te σ H1 Q) : EvT (tB (tIsN te)) σ H false := fun H1 e Q q =>
  h H1 e _ fun p H2 e2 => ⟨false, congrArg V.bl (decide_eq_false (fun z => nomatch z)), q H2 e2⟩
theorem tc_call {sp : Sp} {dvs vs : List V} {E : XK} {ta : TA} {σ : L2.St} {H H1 : Hp} {Q : VK} (h : EvA ta σ H vs) (e : Ex H H1) (q : ∀ H2, Ex H1 H2 → sp (vs ++ dvs) H2 Q E) : tCall sp dvs E ta σ H1 Q := h H1 e _ q
def spNeedPairs : Sp := fun vs H Q _ => ∃ (a : Addr) (n : Nat) (o : List Pr2) (rk : Nat → Nat), vs = [.ref a, nv n] ∧ PrsAt H a o ∧ n ≤ 1000 ∧ o.length ≤ 40 ∧ (∀ p ∈ prs o, p.1 < n ∧ p.2 < n ∧ p.1 ≠ p.2) ∧ (∀ p ∈ prs o, rk p.1 < rk p.2) ∧ ∀ H', Ex H H' → Q .non H'
theorem mem_prs {o : List Pr2} {e : Pr2} (h : e ∈ o) : e.1 ∈ prs o := List.mem_map.mpr ⟨e, h, rfl⟩
theorem ok_needPairs (F : FnP K "need_pairs" sNeedPairs f fd) (g : Gs mg) (CL : Cal P w K mg base "is_list" 1 ["value", "least", "most"] spIsList) (CI : Cal P w K mg base "is_in" 2 ["value", "least", "most"] spIsIn)
    (CF : Cal P w K mg base "first_order" 2 ["pairs", "many"] spFirstOrder) : FnOk P w K mg base CX0 3 f fd ["pairs", "many"] spNeedPairs := by
  refine F.ok scNeedPairs (fun vs H Q E h => ?_) (fun cdv A outer s H vs Q E hr h => ?_)
  · obtain ⟨a, n, o, rk, rfl, _⟩ := h
    rfl
  · obtain ⟨a, n, o, rk, rfl, ha, hn, ho, hb, hrk, q⟩ := h
    refine ⟨_, PSs.nox (pss_cons (ps_if (pt_not (pt_val (pe_cal CL (hr.mono (by decide)) (pa_cons (pv 0) (pa_cons pe_int (pa_cons (pe_const g.mPairs) pa_nil)))))) pss_never pss_nil)
      (pss_cons (ps_for PassesOwn.never rfl (pi_enumT (by rfl) g.enumerate (pa_cons (pv 0) pa_nil)) (pg_tup rfl (pgs_cons (pg_name (i := 2) scNeedPairs.nd rfl (.inl rfl)) (pgs_cons (pg_name (i := 3) scNeedPairs.nd rfl (.inl rfl)) pgs_nil)))
        (pss_one (ps_if (PW.pt (pw_or (pt_not (pt_val (pe_cal CL (hr.mono (by decide)) (pa_cons (pv 3) (pa_cons pe_int (pa_cons pe_int pa_nil))))))
          (pw_or (pt_not (pt_val (pe_callB (k_all (K := K) rfl rfl) (by rfl) g.all (by decide +kernel) (pa_cons
            (pe_lc (own := [("job", 4)]) (g := gName 4) (by rfl) scNeedPairs.nd (k_piT (K := K) rfl (pv 3)) (blkOk_by (N := nNeedPairs) (sc := defScope sNeedPairs) (by decide +kernel))
              (fun _ _ _ _ _ => pg_name (i := 4) scNeedPairs.nd rfl (.inl rfl)) (fun _ _ _ _ _ => pts_nil)
              (fun _ _ _ _ _ => pe_cal CI hr (pa_cons (pv 4) (pa_cons pe_int (pa_cons (pe_op op_sub (pv 1) pe_int) pa_nil))))) pa_nil))))
          (pw_or1 (pt_cmpR op_eq (pe_ix (k_ixT (K := K) rfl) (pv 3) pe_int (fun _ _ => rfl)) (pe_ix (k_ixT (K := K) rfl) (pv 3) pe_int (fun _ _ => rfl)) (nomark _)))))) pss_never pss_nil)))
      (pss_one (ps_if (pt_cmp (pc_isN (pe_cal CF hr (pa_cons (pv 0) (pa_cons (pv 1) pa_nil)))) rfl) pss_never pss_nil)))), ?_⟩
    refine q_when (b := false) (et_not (a := true) (et_B (ev_call (ea_3 (ev_var rfl) ev_c ev_c) fun H1 e Q q E => ⟨a, _, _, _, rfl, e _ _ ha.1, by omega, by rw [List.length_map]; omega, q⟩))) (fun z => nomatch z) fun _ H1 e1 => ?_
    refine q_forEnumT (ea_1 (ev_var rfl)) (e1 _ _ ha.1) (fun i σ' H' => Ex H H' ∧ ∃ y2 y3 y4, σ' = [some (.ref a), some (nv n), y2, y3, y4]) (fun H2 e2 => ⟨e1.trans e2, none, none, none, rfl⟩) (fun i σ' H' _ p => p.1 _ _ ha.1) ?_ ?_
    · rintro i x T σ' H' hx ⟨e2, y2, y3, y4, rfl⟩ hT
      refine g_two upd_same ?_
      obtain ⟨e, rfl, he⟩ : ∃ e : Pr2, x = V.ref e.2 ∧ e ∈ o := by
        rw [List.getElem?_map] at hx
        obtain ⟨z, h1, h2⟩ := Option.map_eq_some_iff.mp hx
        exact ⟨z, h2.symm, List.mem_of_getElem? h1⟩
      have e3 : Ex H (upd H' T (.tup [.int (i : Nat), .ref e.2])) := e2.trans (Ex.new hT)
      have hp := e3 _ _ (ha.2 e he)
      obtain ⟨b1, b2, b3⟩ := hb e.1 (mem_prs he)
      refine s_when (b := false) (et_or (a := false) (b := false) (et_not (a := true) (et_B (ev_call (ea_3 (ev_var rfl) ev_c ev_c) fun H1 e Q q E => ⟨_, _, _, _, rfl, e _ _ hp, by show (2 : Int) ≤ 2; decide, by show (2 : Int) ≤ 2; decide, q⟩))) fun _ =>
        et_or (a := false) (b := false) (et_not (a := true) (et_B (ev_allIn (ns := [e.1.1, e.1.2]) ?_))) fun _ => et_test (ev_is (ev_eqN (ev_ixT (ev_var rfl) ev_c hp (atI_nat (j := 0) rfl)) (ev_ixT (ev_var rfl) ev_c hp (atI_nat (j := 1) rfl))) (congrArg V.bl (decide_eq_false b3)))) (fun z => nomatch z) fun _ H4 e4 => ⟨e3.trans e4, _, _, _, rfl⟩
      refine el_lcM [e.1.1, e.1.2] nv (fun j => [some (.ref a), some (nv n), some (.int (i : Nat)), some (.ref e.2), some (nv j)]) _ (w1_tup (ev_var rfl) hp) (by show 2 ≤ 40000; decide) (fun j _ H1 _ Q q => q) (fun j _ => rfl) fun j hj H1 e4 => ?_
      have hjn : j < n := by
        rcases List.mem_cons.mp hj with z | z
        · rw [z]
          exact b1
        · rw [List.mem_singleton.mp z]
          exact b2
      exact ev_call (ea_3 (ev_var rfl) ev_c (ev_op (ev_var rfl) ev_c rv_I0)) fun H1 e Q q E => ⟨(j : Int), 0, (n : Int) - 1, rfl, by omega, by omega, q⟩
    · rintro σ' H' ⟨e2, y2, y3, y4, rfl⟩
      refine s_when (b := false) (et_isNref fun H1 e Q k => tc_call (ea_2 (σ := [some (.ref a), some (nv n), y2, y3, y4]) (H := H') (ev_var (i := 0) (v := .ref a) rfl) (ev_var (i := 1) (v := nv n) rfl)) e fun H2 e3 => ?_) (fun z => nomatch z) fun _ H3 e3 => q H3 (e2.trans e3)
      exact ⟨a, n, o, rk, rfl, ((ha.ex e2).ex e).ex e3, hn, by omega, hrk, fun p H4 e4 => k p H4 (e3.trans e4)⟩
def spIsOrder : Sp := fun vs H Q _ => ∃ (a : Addr) (n : Nat) (o : List Nat), vs = [.ref a, nv n] ∧ H a = some (.tup (jl o)) ∧ o.Perm (List.range n) ∧ n ≤ 1000 ∧ ∀ H', Ex H H' → Q (.bl true) H'
theorem ok_isOrder (F : FnP K "is_order" sIsOrder f fd) (g : Gs mg) (CL : Cal P w K mg base "is_list" 1 ["value", "least", "most"] spIsList) (CI : Cal P w K mg base "is_in" 2 ["value", "least", "most"] spIsIn) :
    FnOk P w K mg base CX0 3 f fd ["value", "many"] spIsOrder := by
  refine F.ok scIsOrder (fun vs H Q E h => ?_) (fun cdv A outer s H vs Q E hr h => ?_)
  · obtain ⟨a, n, o, rfl, _⟩ := h
    rfl
  · obtain ⟨a, n, o, rfl, ha, hp, hn, q⟩ := h
    have hlen : o.length = n := by rw [hp.length_eq, List.length_range]
    refine ⟨_, PSs.nox (pss_one (ps_ret (pe_and (pe_cal CL (hr.mono (by decide)) (pa_cons (pv 0) (pa_cons (pv 1) (pa_cons (pv 1) pa_nil))))
      (pe_and (pe_callB (k_all (K := K) rfl rfl) (by rfl) g.all (by decide +kernel) (pa_cons
            (pe_lc (own := [("job", 2)]) (g := gName 2) (by rfl) scIsOrder.nd (k_piT (K := K) rfl (pv 0)) (blkOk_by (N := nIsOrder) (sc := defScope sIsOrder) (by decide +kernel))
              (fun _ _ _ _ _ => pg_name (i := 2) scIsOrder.nd rfl (.inl rfl)) (fun _ _ _ _ _ => pts_nil)
              (fun _ _ _ _ _ => pe_cal CI hr (pa_cons (pv 2) (pa_cons pe_int (pa_cons (pe_op op_sub (pv 1) pe_int) pa_nil))))) pa_nil))
      (pe_one (pe_cmpR op_eq (k_lenSet (K := K) rfl (by rfl) g.len (by rfl) g.set (pv 0)) (pv 1) (nomark _))))))), ?_⟩
    refine s_ret (ev_andV (a := true) (b := true) (ev_call (ea_3 (ev_var rfl) (ev_var rfl) (ev_var rfl)) fun H1 e Q q E => ⟨a, _, _, _, rfl, e _ _ ha, by rw [List.length_map]; omega, by rw [List.length_map]; omega, q⟩) fun _ =>
      ev_andV (a := true) (b := true) (ev_allIn (ns := o) ?_) fun _ => ev_is (ev_eqN (a := o.length) (b := n) (ev_lenSet (ev_var rfl) ha (hp.nodup_iff.mpr List.nodup_range) (by omega)) (ev_var rfl)) (congrArg V.bl (decide_eq_true hlen))) q
    refine el_lcM o nv (fun j => [some (.ref a), some (nv n), some (nv j)]) _ (w1_tup (ev_var rfl) ha) (by omega) (fun j _ H1 _ Q q => q) (fun j _ => rfl) fun j hj H1 e4 => ?_
    have hjn : j < n := List.mem_range.mp (hp.mem_iff.mp hj)
    exact ev_call (ea_3 (ev_var rfl) ev_c (ev_op (ev_var rfl) ev_c rv_I0)) fun H1 e Q q E => ⟨(j : Int), 0, (n : Int) - 1, rfl, by omega, by omega, q⟩
def spNeedOrder : Sp := fun vs H Q _ => ∃ (a : Addr) (n : Nat) (o : List Nat), vs = [.ref a, nv n] ∧ H a = some (.tup (jl o)) ∧ o.Perm (List.range n) ∧ n ≤ 1000 ∧ ∀ H', Ex H H' → Q .non H'
theorem ok_needOrder (F : FnP K "need_order" sNeedOrder f fd) (CO : Cal P w K mg base "is_order" 3 ["value", "many"] spIsOrder) : FnOk P w K mg base CX0 4 f fd ["order", "many"] spNeedOrder := by
  refine F.ok scNeedOrder (fun vs H Q E h => ?_) (fun cdv A outer s H vs Q E hr h => ?_)
  · obtain ⟨a, n, o, rfl, _⟩ := h
    rfl
  · obtain ⟨a, n, o, rfl, ha, hp, hn, q⟩ := h
    refine ⟨_, PSs.nox (pss_one (ps_if (pt_not (pt_val (pe_cal CO hr (pa_cons (pv 0) (pa_cons (pv 1) pa_nil))))) pss_never pss_nil)), ?_⟩
    exact s_when (b := false) (et_not (a := true) (et_B (ev_call (ea_2 (ev_var rfl) (ev_var rfl)) fun H1 e Q q E => ⟨a, n, o, rfl, e _ _ ha, hp, hn, q⟩))) (fun z => nomatch z) fun _ H1 e1 => q H1 e1

def spNeedWeighed : Sp := fun vs H Q _ => ∃ (a b : Addr) (ts ws : List Int), vs = [.ref a, .ref b] ∧ H a = some (.tup (il ts)) ∧ H b = some (.tup (il ws)) ∧ (∀ z ∈ ts, 1 ≤ z ∧ z ≤ 60) ∧ (∀ z ∈ ws, 0 ≤ z ∧ z ≤ 60) ∧ 1 ≤ ts.length ∧ ts.length ≤ 10 ∧ ws.length = ts.length ∧ ∀ H', Ex H H' → Q .non H'
theorem ok_needWeighed (F : FnP K "need_weighed" sNeedWeighed f fd) (g : Gs mg) (CT : Cal P w K mg base "need_times" 4 ["times"] spNeedTimes) (CW : Cal P w K mg base "need_weights" 4 ["weights", "many"] (spNeedW 0 60)) : FnOk P w K mg base CX0 5 f fd ["times", "weights"] spNeedWeighed := by
  refine F.ok scNeedWeighed (fun vs H Q E h => ?_) (fun cdv A outer s H vs Q E hr h => ?_)
  · obtain ⟨a, b, ts, ws, rfl, _⟩ := h
    rfl
  · obtain ⟨a, b, ts, ws, rfl, ha, hb, h1, h2, h3, h4, h5, q⟩ := h
    refine ⟨_, PSs.nox (pss_cons (ps_expr (pe_cal CT hr (pa_cons (pv 0) pa_nil))) (pss_one (ps_expr (pe_cal CW hr (pa_cons (pv 1) (pa_cons (pe_callB (k_len (K := K) rfl) (by rfl) g.len boot_len (pa_cons (pv 0) pa_nil)) pa_nil)))))), ?_⟩
    refine q_drop (v := .non) (ev_call (ea_1 (ev_var rfl)) fun H1 e Q q E => ⟨a, ts, rfl, e _ _ ha, h1, h3, h4, q⟩) fun H1 e1 => ?_
    exact s_drop (v := .non) (ev_call (ea_2 (ev_var rfl) (ev_cb (ea_1 (ev_var rfl)) (rc_lenT (e1 _ _ ha)))) fun H2 e Q q E => ⟨b, ws, by rw [h5, List.length_map] <;> rfl, e _ _ (e1 _ _ hb), h2, q⟩) fun H2 e2 => q H2 (e1.trans e2)
end
end K6
set_option Elab.async false
set_option linter.all false
set_option maxRecDepth 100000
set_option maxHeartbeats 4000000
/-! need_costs, cost_at, ends_in, _law_ends. -/
namespace K6
open PySem PySem.Spec PyProof.Rows L2 Evl
section
variable {P : Program} {w : World} {K : PySem.W.Frag} {mg : Str → Option Value} {base : Heap} {f : Addr} {fd : FuncData}
/-- the three rows of a shop -/
structure Ins (H : Hp) (a b c : Addr) (n : Nat) (t w d : Nat → Int) : Prop where
  ha : H a = some (.tup (fl n t))
  hb : H b = some (.tup (fl n w))
  hc : H c = some (.tup (fl n d))
  jb : Jb n t w d
theorem Ins.ex {H H' : Hp} {a b c : Addr} {n : Nat} {t w d : Nat → Int} (e : Ex H H') (h : Ins H a b c n t w d) : Ins H' a b c n t w d := ⟨e _ _ h.ha, e _ _ h.hb, e _ _ h.hc, h.jb⟩
structure Prc (n : Nat) (o : List Pr2) (rk : Nat → Nat) : Prop where
  len : o.length ≤ 40
  rng : ∀ p ∈ prs o, p.1 < n ∧ p.2 < n ∧ p.1 ≠ p.2
  rk : ∀ p ∈ prs o, rk p.1 < rk p.2
theorem ev_needW {ta : TA} {σ : L2.St} {H : Hp} {lo hi : Int} {a : Addr} {n : Nat} {F : Nat → Int} {E : XK} (h : EvA ta σ H [.ref a, nv n]) (ha : H a = some (.tup (fl n F))) (hb : ∀ j, lo ≤ F j ∧ F j ≤ hi) : Ev (tCall (spNeedW lo hi) [] E ta) σ H .non :=
  ev_call h fun H1 e Q q E => ⟨a, tl n F, by rw [tl_len] <;> rfl, e _ _ ha, tl_all hb, q⟩
theorem ev_needWeighed {ta : TA} {σ : L2.St} {H : Hp} {a b c : Addr} {n : Nat} {t w d : Nat → Int} {E : XK} (h : EvA ta σ H [.ref a, .ref b]) (I : Ins H a b c n t w d) : Ev (tCall spNeedWeighed [] E ta) σ H .non :=
  ev_call h fun H1 e Q q E => ⟨a, b, tl n t, tl n w, rfl, e _ _ I.ha, e _ _ I.hb, tl_all I.jb.ht, tl_all I.jb.hw, by rw [tl_len]; exact I.jb.n1, by rw [tl_len]; exact I.jb.n2, by rw [tl_len, tl_len], q⟩
def spNeedCosts : Sp := fun vs H Q _ => ∃ (a b c p : Addr) (n : Nat) (t w d : Nat → Int) (o : List Pr2) (rk : Nat → Nat), vs = [.ref a, .ref b, .ref c, .ref p] ∧ Ins H a b c n t w d ∧ PrsAt H p o ∧ Prc n o rk ∧ ∀ H', Ex H H' → Q .non H'
theorem ok_needCosts (F : FnP K "need_costs" sNeedCosts f fd) (g : Gs mg) (CW : Cal P w K mg base "need_weighed" 5 ["times", "weights"] spNeedWeighed) (CD : Cal P w K mg base "need_dues" 4 ["dues", "many"] (spNeedW 0 600))
    (CP : Cal P w K mg base "need_pairs" 3 ["pairs", "many"] spNeedPairs) : FnOk P w K mg base CX0 6 f fd ["times", "weights", "dues", "pairs"] spNeedCosts := by
  refine F.ok scNeedCosts (fun vs H Q E h => ?_) (fun cdv A outer s H vs Q E hr h => ?_)
  · obtain ⟨a, b, c, p, n, t, w, d, o, rk, rfl, _⟩ := h
    rfl
  · obtain ⟨a, b, c, p, n, t, w, d, o, rk, rfl, I, hp, hc, q⟩ := h
    refine ⟨_, PSs.nox (pss_cons (ps_expr (pe_cal CW hr (pa_cons (pv 0) (pa_cons (pv 1) pa_nil))))
      (pss_cons (ps_expr (pe_cal CD (hr.mono (by decide)) (pa_cons (pv 2) (pa_cons (pe_callB (k_len (K := K) rfl) (by rfl) g.len boot_len (pa_cons (pv 0) pa_nil)) pa_nil))))
      (pss_one (ps_expr (pe_cal CP (hr.mono (by decide)) (pa_cons (pv 3) (pa_cons (pe_callB (k_len (K := K) rfl) (by rfl) g.len boot_len (pa_cons (pv 0) pa_nil)) pa_nil))))))), ?_⟩
    refine q_drop (v := .non) (ev_needWeighed (ea_2 (ev_var rfl) (ev_var rfl)) I) fun H1 e1 => ?_
    refine q_drop (v := .non) (ev_needW (n := n) (ea_2 (ev_var rfl) (ev_cb (ea_1 (ev_var rfl)) (rc_lenF (e1 _ _ I.ha)))) (e1 _ _ I.hc) I.jb.hd) fun H2 e2 => ?_
    have n2 := I.jb.n2
    exact s_drop (v := .non) (ev_call (ea_2 (ev_var rfl) (ev_cb (ea_1 (ev_var rfl)) (rc_lenF (e2 _ _ (e1 _ _ I.ha))))) fun H3 e Q q E => ⟨p, n, o, rk, rfl, ((hp.ex e1).ex e2).ex e, by omega, hc.len, hc.rng, hc.rk, q⟩) fun H3 e3 => q H3 ((e1.trans e2).trans e3)
def spCostAt : Sp := fun vs H Q _ => ∃ (a b c : Int), vs = [.int a, .int b, .int c] ∧ 0 ≤ a ∧ a ≤ 60 ∧ ∀ H', Ex H H' → Q (.int (cst a b c)) H'
theorem ok_costAt (F : FnP K "cost_at" sCostAt f fd) (g : Gs mg) : FnOk P w K mg base CX0 1 f fd ["weight", "due", "end"] spCostAt := by
  refine F.ok scCostAt (fun vs H Q E h => ?_) (fun cdv A outer s H vs Q E hr h => ?_)
  · obtain ⟨a, b, c, rfl, _⟩ := h
    rfl
  · obtain ⟨a, b, c, rfl, h1, h2, q⟩ := h
    refine ⟨_, PSs.nox (pss_one (ps_ret (pe_op op_mul (pv 0) (pe_callB (call_max2 rfl) (by rfl) g.max (by decide +kernel) (pa_cons pe_int (pa_cons (pe_op op_sub (pv 2) (pv 1)) pa_nil)))))), ?_⟩
    exact s_ret (ev_mul (ev_var rfl) (ev_max2 ev_c (ev_op (ev_var rfl) (ev_var rfl) rv_I0)) (by omega)) q
def spEndsIn : Sp := fun vs H Q _ => ∃ (a b : Addr) (n : Nat) (t : Nat → Int) (o : List Nat), vs = [.ref a, .ref b] ∧ H a = some (.tup (fl n t)) ∧ H b = some (.tup (jl o)) ∧ n ≤ 1000 ∧ o.Nodup ∧ (∀ j ∈ o, j < n) ∧
  ∀ p H', H p = none → Ex H H' → H' p = some (.lst (fl n (endOf t 0 o))) → Q (.ref p) H'
/-- the days after a job more -/
theorem ends_step {n i : Nat} {t : Nat → Int} {o : List Nat} {j : Nat} (nd : o.Nodup) (hj : o[i]? = some j) : (fl n (endOf t 0 (o.take i))).set j (.int (sumT t (o.take i) + t j)) = fl n (endOf t 0 (o.take (i + 1))) ∧ sumT t (o.take i) + t j = sumT t (o.take (i + 1)) := by
  have tk : o.take (i + 1) = o.take i ++ [j] := by rw [List.take_add_one, hj] <;> rfl
  have hn : j ∉ o.take i := fun z => by
    have h2 : (o.take i ++ [j]).Nodup := by
      rw [← tk]
      exact nd.sublist (List.take_sublist ..)
    exact (List.nodup_append.mp h2).2.2 j z j (by simp) rfl
  rw [tk, sumT_snoc, set_fl]
  refine ⟨fl_congr fun k _ => ?_, rfl⟩
  rw [endOf_snoc hn, Int.zero_add]
theorem ok_endsIn (F : FnP K "ends_in" sEndsIn f fd) (g : Gs mg) : FnOk P w K mg base CX0 1 f fd ["times", "order"] spEndsIn := by
  refine F.ok scEndsIn (fun vs H Q E h => ?_) (fun cdv A outer s H vs Q E hr h => ?_)
  · obtain ⟨a, b, n, t, o, rfl, _⟩ := h
    rfl
  · obtain ⟨a, b, n, t, o, rfl, ha, hb, hn, nd, hlt, q⟩ := h
    refine ⟨_, PSs.nox (pss_cons (ps_par (i := 2) (j := 3) rfl scEndsIn.nd rfl rfl (by decide) rfl rfl (pa_cons (pe_op op_rep (pe_lst (pa_cons pe_int pa_nil)) (pe_callB (k_len (K := K) rfl) (by rfl) g.len boot_len (pa_cons (pv 0) pa_nil))) (pa_cons pe_int pa_nil)) (by rfl))
      (pss_cons (ps_for PassesOwn.never rfl (k_piT (K := K) rfl (pv 1)) (pg_name (i := 4) scEndsIn.nd rfl (.inl rfl))
        (pss_cons (ps_aug (i := 3) scEndsIn.nd rfl (.inl rfl) (pe_ix (k_ixT (K := K) rfl) (pv 0) (pv 4) (fun _ _ => rfl)) ip_add)
        (pss_one (ps_asg (pv 3) (pg_sub (pv 2) (pv 4) set_list)))))
      (pss_one (ps_ret (pv 2))))), ?_⟩
    refine el_rep0 (ev_cb (ea_1 (ev_var rfl)) (rc_lenF ha)) hn H (Ex.refl _) _ fun l H1 hl e1 h1 => ⟨_, _, rfl, ?_⟩
    refine q_forT (ev_var rfl) (st_of (e1 _ _ hb)) (fun i σ' H' => Ex H H' ∧ H' l = some (.lst (fl n (endOf t 0 (o.take i)))) ∧ ∃ y, σ' = [some (.ref a), some (.ref b), some (.ref l), some (.int (sumT t (o.take i))), y]) (fun H2 e2 => ⟨e1.trans e2, e2 _ _ h1, none, rfl⟩) (fun i σ' H' _ p => st_of (p.1 _ _ hb)) ?_ ?_
    · rintro i x σ' H' hx ⟨e2, h2, y, rfl⟩
      rw [List.getElem?_map] at hx
      obtain ⟨j, hj, rfl⟩ := Option.map_eq_some_iff.mp hx
      have hjn := hlt j (List.mem_of_getElem? hj)
      obtain ⟨s1, s2⟩ := ends_step (n := n) (t := t) nd hj
      refine q_aug rfl (ev_jobT (j := j) (ev_var rfl) (ev_var rfl) (e2 _ _ ha) hjn) fun H3 e3 => ?_
      refine s_setL (j := j) (e3 _ _ h2) (ev_var rfl) (ev_var rfl) (ev_var rfl) (by rw [fl_len]; exact hjn) fun H4 e4 => ⟨Ex.mut ((e2.trans e3).trans e4) hl, ?_, some (nv j), ?_⟩
      · rw [upd_same, s1]
      · rw [← s2]
        rfl
    · rintro σ' H' ⟨e2, h2, y, rfl⟩
      rw [List.length_map, List.take_length] at h2
      exact s_ret (ev_var rfl) fun H3 e3 => q l H3 hl (e2.trans e3) (e3 _ _ h2)
theorem ok_ends (F : FnP K "_law_ends" sEnds f fd) (g : Gs mg) : FnOk P w K mg base CX0 1 f fd ["_law_times", "_law_order_here"] spEndsIn := by
  refine F.ok scEnds (fun vs H Q E h => ?_) (fun cdv A outer s H vs Q E hr h => ?_)
  · obtain ⟨a, b, n, t, o, rfl, _⟩ := h
    rfl
  · obtain ⟨a, b, n, t, o, rfl, ha, hb, hn, nd, hlt, q⟩ := h
    refine ⟨_, PSs.nox (pss_cons (ps_par (i := 2) (j := 3) rfl scEnds.nd rfl rfl (by decide) rfl rfl (pa_cons (pe_op op_rep (pe_lst (pa_cons pe_int pa_nil)) (pe_callB (k_len (K := K) rfl) (by rfl) g.len boot_len (pa_cons (pv 0) pa_nil))) (pa_cons pe_int pa_nil)) (by rfl))
      (pss_cons (ps_for PassesOwn.never rfl (k_piT (K := K) rfl (pv 1)) (pg_name (i := 4) scEnds.nd rfl (.inl rfl))
        (pss_cons (ps_set (i := 3) scEnds.nd rfl (.inl rfl) (pe_op op_add (pv 3) (pe_ix (k_ixT (K := K) rfl) (pv 0) (pv 4) (fun _ _ => rfl))))
        (pss_one (ps_asg (pv 3) (pg_sub (pv 2) (pv 4) set_list)))))
      (pss_one (ps_ret (pv 2))))), ?_⟩
    refine el_rep0 (ev_cb (ea_1 (ev_var rfl)) (rc_lenF ha)) hn H (Ex.refl _) _ fun l H1 hl e1 h1 => ⟨_, _, rfl, ?_⟩
    refine q_forT (ev_var rfl) (st_of (e1 _ _ hb)) (fun i σ' H' => Ex H H' ∧ H' l = some (.lst (fl n (endOf t 0 (o.take i)))) ∧ ∃ y, σ' = [some (.ref a), some (.ref b), some (.ref l), some (.int (sumT t (o.take i))), y]) (fun H2 e2 => ⟨e1.trans e2, e2 _ _ h1, none, rfl⟩) (fun i σ' H' _ p => st_of (p.1 _ _ hb)) ?_ ?_
    · rintro i x σ' H' hx ⟨e2, h2, y, rfl⟩
      rw [List.getElem?_map] at hx
      obtain ⟨j, hj, rfl⟩ := Option.map_eq_some_iff.mp hx
      have hjn := hlt j (List.mem_of_getElem? hj)
      obtain ⟨s1, s2⟩ := ends_step (n := n) (t := t) nd hj
      refine q_asg (ev_op (ev_var rfl) (ev_jobT (j := j) (ev_var rfl) (ev_var rfl) (e2 _ _ ha) hjn) rv_I0) fun H3 e3 => ?_
      refine s_setL (j := j) (e3 _ _ h2) (ev_var rfl) (ev_var rfl) (ev_var rfl) (by rw [fl_len]; exact hjn) fun H4 e4 => ⟨Ex.mut ((e2.trans e3).trans e4) hl, ?_, some (nv j), ?_⟩
      · rw [upd_same, s1]
      · rw [← s2]
        rfl
    · rintro σ' H' ⟨e2, h2, y, rfl⟩
      rw [List.length_map, List.take_length] at h2
      exact s_ret (ev_var rfl) fun H3 e3 => q l H3 hl (e2.trans e3) (e3 _ _ h2)
end
end K6
set_option Elab.async false
set_option linter.all false
set_option maxRecDepth 100000
set_option maxHeartbeats 4000000
/-! greatest_in, greatest_cost, _law_greatest, _law_late. -/
namespace K6
open PySem PySem.Spec PyProof.Rows L2 Evl
theorem walk_zip3 {K : PySem.W.Frag} {a b c : Addr} {n : Nat} {xs ys zs : List V} (h1 : xs.length = n) (h2 : ys.length = n) (h3 : zs.length = n) : Walk (Itz3 K a b c) n (fun H => SqT K H a xs ∧ SqT K H b ys ∧ SqL K H c zs)
    (fun i H v H' => ∃ T x y z, v = .ref T ∧ H T = none ∧ H' = upd H T (.tup [x, y, z]) ∧ xs[i]? = some x ∧ ys[i]? = some y ∧ zs[i]? = some z) := by
  refine ⟨fun i _ hi q => ⟨xs, ys, zs, xs[i], ys[i], zs[i], q.1, q.2.1, q.2.2, by simp, by simp, by simp⟩, fun _ q => ⟨xs, ys, zs, q.1, q.2.1, q.2.2, h1, h2, h3⟩, fun i H v H' _ q y => ?_⟩
  obtain ⟨T, x, y, z, e1, e2, e3, e4, e5, e6⟩ := y
  exact ⟨T, x, y, z, e1, e2, e3, e4 _ q.1, e5 _ q.2.1, e6 _ q.2.2⟩
theorem lc_zip3 {X : Cx} {i i1 i2 i3 : Nat} {te : TE} {vs : List Nat} {σ : L2.St} {H : Hp} {n a b c : Addr} {N : Nat} {w d e G : Nat → Int} {Q : VK} (hi : σ[i]? = some (some (.ref (n + 5))))
    (hz : ∀ dd, n ≤ dd ∧ dd < n + 6 → H dd = some (CellO X.s_0.heap.objs.size dd (zCell n a b c (dd - n)))) (ha : H a = some (.tup (fl N w))) (hb : H b = some (.tup (fl N d))) (hc : H c = some (.lst (fl N e))) (la : a < n) (lb : b < n) (lc : c < n) (hN : N ≤ 1000)
    (hw : ∀ x y z, wipe ((((wipe σ vs).set i1 (some x)).set i2 (some y)).set i3 (some z)) vs = wipe σ vs)
    (he : ∀ j, j < N → ∀ H1, Ex (zOut H n) H1 → Ev te ((((wipe σ vs).set i1 (some (.int (w j)))).set i2 (some (.int (d j)))).set i3 (some (.int (e j)))) H1 (.int (G j)))
    (q : ∀ p H', zOut H n p = none → Ex (zOut H n) H' → H' p = some (.lst (fl N G)) → Q (.ref p) H') : tLc (iZip3 X i) (gTup X.K 3 (gCons (gName i1) (gCons (gName i2) (gCons (gName i3) gNil)))) tYes te vs σ H Q := by
  have out : ∀ {x : Addr}, x < n → zOut H n x = H x := fun {x} h => zOut_ne fun z => Nat.lt_irrefl _ (Nat.lt_of_lt_of_le h z.1)
  have ha' : zOut H n a = some (.tup (fl N w)) := (out la).trans ha
  have hb' : zOut H n b = some (.tup (fl N d)) := (out lb).trans hb
  have hc' : zOut H n c = some (.lst (fl N e)) := (out lc).trans hc
  refine ⟨n, a, b, c, _, _, _, hi, hz, st_of ha, st_of hb, sq_of hc, la, lb, lc, fun Dl hD => ?_⟩
  refine lc_it (walk_zip3 (n := N) (fl_len N w) (fl_len N d) (fl_len N e)) (Qd := fun H' => Q (.ref Dl) H') (fun j H' => Ex (zOut H n) H' ∧ H' Dl = some (.lst (fl j G))) ⟨Ex.new hD, upd_same⟩ (fun j H' _ p => ⟨st_of (p.1 _ _ ha'), st_of (p.1 _ _ hb'), sq_of (p.1 _ _ hc')⟩) (fun j x H3 H4 hj p y => ?_) (fun H' p => q Dl H' hD p.1 p.2)
  obtain ⟨T, x1, x2, x3, e1, e2, e3, e4, e5, e6⟩ := y
  obtain ⟨p1, p2⟩ := p
  rw [get_fl hj] at e4 e5 e6
  have f1 := Option.some.inj e4
  have f2 := Option.some.inj e5
  have f3 := Option.some.inj e6
  subst e1 e3 f1 f2 f3
  have x4 : Ex (zOut H n) (upd H3 T (.tup [.int (w j), .int (d j), .int (e j)])) := p1.trans (Ex.new e2)
  refine g_three upd_same ⟨hw _ _ _, et_yes _ (Ex.refl _) _ fun H5 e5 => ?_⟩
  simp only [if_true]
  refine he j hj H5 (x4.trans e5) H5 (Ex.refl _) _ fun H6 e6 => ⟨fl j G, e6 _ _ (e5 _ _ (by rw [upd_ne (ne_of_none p2 e2)]; exact p2)), sz_lt (by rw [fl_len]; omega), Ex.mut ((x4.trans e5).trans e6) hD, ?_⟩
  rw [upd_same, fl, fl, il, il, tl, tl, List.range_succ, List.map_append, List.map_append]
  rfl
theorem q_asgZ {N0 : Nat} {K : PySem.W.Frag} {ta tb tc : TE} {tz : TS} {D : Ends} {σ : L2.St} {H : Hp} {i : Nat} {a b : Addr} {xs ys zs : List V} (h1 : Ev ta σ H (.ref a)) (h2 : Ev tb σ H (.ref b)) (h3 : EvL tc σ H zs) (ha : H a = some (.tup xs)) (hb : H b = some (.tup ys))
    (k : ∀ l H3, H l = none → Ex H H3 → H3 l = some (.lst zs) → ∀ n : Addr, (∀ m, n ≤ m → H3 m = none) → a < n → b < n → l < n → tz D (σ.set i (some (.ref (n + 5)))) (zIn N0 H3 n a b l)) : tSeq (tAsg (tZip3 N0 K (tCons ta (tCons tb (tCons tc tNil)))) (gName i)) tz D σ H :=
  h1 H (Ex.refl _) _ fun H1 e1 => h2 H1 e1 _ fun H2 e2 => h3 H2 (e1.trans e2) _ fun l H3 hl e3 h => ⟨a, b, l, xs, ys, zs, rfl, st_of (((e1.trans e2).trans e3) _ _ ha), st_of (((e1.trans e2).trans e3) _ _ hb), sq_of h, k l H3 (fresh_back (e1.trans e2) hl) ((e1.trans e2).trans e3) h⟩
theorem s_retCB1 {r : List V → Hp → VK → Prop} {te : TE} {D : Ends} {σ : L2.St} {H : Hp} (h : te σ H fun v H1 => r [v] H1 D.rt) : tRet (tCB r (tCons te tNil)) D σ H := h
/-- the greatest cost of an order -/
def gst (n : Nat) (t w d : Nat → Int) (o : List Nat) : Int := imx (tl n fun j => cst (w j) (d j) (endOf t 0 o j))
/-- the greatest lateness of an order -/
def lat (n : Nat) (t d : Nat → Int) (o : List Nat) : Int := imx (tl n fun j => endOf t 0 o j - d j)
theorem tl_ne {n : Nat} {F : Nat → Int} (h : 1 ≤ n) : tl n F ≠ [] := by
  intro z
  have := tl_len n F
  rw [z] at this
  simp at this
  omega
section
variable {P : Program} {w : World} {K : PySem.W.Frag} {mg : Str → Option Value} {base : Heap} {f : Addr} {fd : FuncData}
theorem k_max {X : Cx} (hK : X.K = K) (hc : X.calm = true) : CallR X (.builtin "max") (rMax K) := by subst hK; exact cr_max hc
theorem k_min {X : Cx} (hK : X.K = K) (hc : X.calm = true) : CallR X (.builtin "min") (rMin K) := by subst hK; exact cr_min hc
theorem k_sum {X : Cx} (hK : X.K = K) (hc : X.calm = true) : CallR X (.builtin "sum") (rSum K) := by subst hK; exact cr_sum hc
def spGreatestIn : Sp := fun vs H Q _ => ∃ (a b c p : Addr) (n : Nat) (t w d : Nat → Int) (o : List Nat), vs = [.ref a, .ref b, .ref c, .ref p] ∧ Ins H a b c n t w d ∧ H p = some (.tup (jl o)) ∧ o.Nodup ∧ (∀ j ∈ o, j < n) ∧ ∀ H', Ex H H' → Q (.int (gst n t w d o)) H'
theorem ok_greatestIn (F : FnP K "greatest_in" sGreatestIn f fd) (g : Gs mg) (CE : Cal P w K mg base "ends_in" 1 ["times", "order"] spEndsIn) (CC : Cal P w K mg base "cost_at" 1 ["weight", "due", "end"] spCostAt) : FnOk P w K mg base CX0 2 f fd ["times", "weights", "dues", "order"] spGreatestIn := by
  refine F.ok scGreatestIn (fun vs H Q E h => ?_) (fun cdv A outer s H vs Q E hr h => ?_)
  · obtain ⟨a, b, c, p, n, t, w, d, o, rfl, _⟩ := h
    rfl
  · obtain ⟨a, b, c, p, n, t, w, d, o, rfl, I, hp, nd, hlt, q⟩ := h
    refine ⟨_, PSs.nox (pss_cons (ps_set (i := 4) scGreatestIn.nd rfl (.inl rfl) (pe_zip3 (by rfl) g.zip (pa_cons (pv 1) (pa_cons (pv 2) (pa_cons (pe_cal CE hr (pa_cons (pv 0) (pa_cons (pv 3) pa_nil))) pa_nil)))))
      (pss_one (ps_ret (pe_callB (k_max (K := K) rfl rfl) (by rfl) g.max (by decide +kernel) (pa_cons
        (pe_lc (own := [("weight", 5), ("due", 6), ("end", 7)]) (g := gTup K 3 (gCons (gName 5) (gCons (gName 6) (gCons (gName 7) gNil)))) (by rfl) scGreatestIn.nd (pi_zip3 (pv 4) rfl) (blkOk_by (N := nGreatestIn) (sc := defScope sGreatestIn) (by decide +kernel))
          (fun _ _ _ _ _ => pg_tup rfl (pgs_cons (pg_name (i := 5) scGreatestIn.nd rfl (.inl rfl)) (pgs_cons (pg_name (i := 6) scGreatestIn.nd rfl (.inl rfl)) (pgs_cons (pg_name (i := 7) scGreatestIn.nd rfl (.inl rfl)) pgs_nil))))
          (fun _ _ _ _ _ => pts_nil) (fun _ _ _ _ _ => pe_cal CC hr (pa_cons (pv 5) (pa_cons (pv 6) (pa_cons (pv 7) pa_nil))))) pa_nil))))), ?_⟩
    have n1 := I.jb.n1
    have n2 := I.jb.n2
    refine q_asgZ (zs := fl n (endOf t 0 o)) (ev_var rfl) (ev_var rfl) (el_call (ea_2 (ev_var rfl) (ev_var rfl)) fun H1 e Q q E => ⟨a, p, n, t, o, rfl, e _ _ I.ha, e _ _ hp, by omega, nd, hlt, q⟩) I.hb I.hc fun l H3 hl e13 h3 m hm lb lc ll => ?_
    have eo : Ex H3 (zOut (zIn s.heap.objs.size H3 m b c l) m) := fun x u hx => by
      have hxm : ¬ (m ≤ x ∧ x < m + 6) := fun z => by
        rw [hm x z.1] at hx
        cases hx
      rw [zOut_ne hxm, zIn_ne hxm]
      exact hx
    have zin : ∀ {x : Addr}, x < m → zIn s.heap.objs.size H3 m b c l x = H3 x := fun {x} h => zIn_ne fun z => Nat.lt_irrefl _ (Nat.lt_of_lt_of_le h z.1)
    refine s_retCB1 ?_
    refine lc_zip3 (N := n) (w := w) (d := d) (e := endOf t 0 o) (G := fun j => cst (w j) (d j) (endOf t 0 o j)) (n := m) (a := b) (b := c) (c := l) rfl (fun dd h => zIn_at h) ((zin lb).trans (e13 _ _ I.hb)) ((zin lc).trans (e13 _ _ I.hc)) ((zin ll).trans h3) lb lc ll (by omega) (fun x y z => rfl) (fun j hj H4 e4 => ?_) fun r H4 hr e4 h4 => ?_
    · exact ev_call (ea_3 (ev_var rfl) (ev_var rfl) (ev_var rfl)) fun H1 e Q q E => ⟨_, _, _, rfl, (I.jb.hw j).1, (I.jb.hw j).2, q⟩
    · refine ⟨r, tl n fun j => cst (w j) (d j) (endOf t 0 o j), rfl, sq_of h4, by rw [tl_len]; omega, fun mm h5 h6 => ?_⟩
      rw [imx_eq h5 h6]
      exact q H4 ((e13.trans eo).trans e4)
def spGreatestCost : Sp := fun vs H Q _ => ∃ (a b c p : Addr) (n : Nat) (t w d : Nat → Int) (o : List Nat), vs = [.ref a, .ref b, .ref c, .ref p] ∧ Ins H a b c n t w d ∧ H p = some (.tup (jl o)) ∧ o.Perm (List.range n) ∧ ∀ H', Ex H H' → Q (.int (gst n t w d o)) H'
theorem ok_greatestCost (F : FnP K "greatest_cost" sGreatestCost f fd) (g : Gs mg) (CW : Cal P w K mg base "need_weighed" 5 ["times", "weights"] spNeedWeighed) (CD : Cal P w K mg base "need_dues" 4 ["dues", "many"] (spNeedW 0 600))
    (CO : Cal P w K mg base "need_order" 4 ["order", "many"] spNeedOrder) (CG : Cal P w K mg base "greatest_in" 2 ["times", "weights", "dues", "order"] spGreatestIn) : FnOk P w K mg base CX0 6 f fd ["times", "weights", "dues", "order"] spGreatestCost := by
  refine F.ok scGreatestCost (fun vs H Q E h => ?_) (fun cdv A outer s H vs Q E hr h => ?_)
  · obtain ⟨a, b, c, p, n, t, w, d, o, rfl, _⟩ := h
    rfl
  · obtain ⟨a, b, c, p, n, t, w, d, o, rfl, I, hp, pm, q⟩ := h
    refine ⟨_, PSs.nox (pss_cons (ps_expr (pe_cal CW hr (pa_cons (pv 0) (pa_cons (pv 1) pa_nil))))
      (pss_cons (ps_expr (pe_cal CD (hr.mono (by decide)) (pa_cons (pv 2) (pa_cons (pe_callB (k_len (K := K) rfl) (by rfl) g.len boot_len (pa_cons (pv 0) pa_nil)) pa_nil))))
      (pss_cons (ps_expr (pe_cal CO (hr.mono (by decide)) (pa_cons (pv 3) (pa_cons (pe_callB (k_len (K := K) rfl) (by rfl) g.len boot_len (pa_cons (pv 0) pa_nil)) pa_nil))))
      (pss_one (ps_ret (pe_cal CG (hr.mono (by decide)) (pa_cons (pv 0) (pa_cons (pv 1) (pa_cons (pv 2) (pa_cons (pv 3) pa_nil)))))))))), ?_⟩
    refine q_drop (v := .non) (ev_needWeighed (ea_2 (ev_var rfl) (ev_var rfl)) I) fun H1 e1 => ?_
    refine q_drop (v := .non) (ev_needW (n := n) (ea_2 (ev_var rfl) (ev_cb (ea_1 (ev_var rfl)) (rc_lenF (e1 _ _ I.ha)))) (e1 _ _ I.hc) I.jb.hd) fun H2 e2 => ?_
    have n2 := I.jb.n2
    refine q_drop (v := .non) (ev_call (ea_2 (ev_var rfl) (ev_cb (ea_1 (ev_var rfl)) (rc_lenF (e2 _ _ (e1 _ _ I.ha))))) fun H3 e Q q E => ⟨p, n, o, rfl, e _ _ (e2 _ _ (e1 _ _ hp)), pm, by omega, q⟩) fun H3 e3 => ?_
    have e13 := (e1.trans e2).trans e3
    exact s_ret (ev_call (ea_4 (ev_var rfl) (ev_var rfl) (ev_var rfl) (ev_var rfl)) fun H4 e Q q E => ⟨a, b, c, p, n, t, w, d, o, rfl, (I.ex e13).ex e, e _ _ (e13 _ _ hp), pm.nodup_iff.mpr List.nodup_range, fun j hj => List.mem_range.mp (pm.mem_iff.mp hj), q⟩) fun H4 e4 => q H4 (e13.trans e4)
theorem range_iv (n : Nat) (F : Nat → Int) : (List.range n).map (fun j => V.int (F j)) = fl n F := by rw [fl, il, tl, List.map_map] <;> rfl
def spLate : Sp := fun vs H Q _ => ∃ (a b p : Addr) (n : Nat) (t d : Nat → Int) (o : List Nat), vs = [.ref a, .ref b, .ref p] ∧ H a = some (.tup (fl n t)) ∧ H b = some (.tup (fl n d)) ∧ H p = some (.tup (jl o)) ∧ 1 ≤ n ∧ n ≤ 1000 ∧ o.Nodup ∧ (∀ j ∈ o, j < n) ∧ ∀ H', Ex H H' → Q (.int (lat n t d o)) H'
theorem ok_late (F : FnP K "_law_late" sLate f fd) (g : Gs mg) (CE : Cal P w K mg base "_law_ends" 1 ["_law_times", "_law_order_here"] spEndsIn) : FnOk P w K mg base CX0 2 f fd ["_law_times", "_law_dues", "_law_order_here"] spLate := by
  refine F.ok scLate (fun vs H Q E h => ?_) (fun cdv A outer s H vs Q E hr h => ?_)
  · obtain ⟨a, b, p, n, t, d, o, rfl, _⟩ := h
    rfl
  · obtain ⟨a, b, p, n, t, d, o, rfl, ha, hb, hp, n1, n2, nd, hlt, q⟩ := h
    refine ⟨_, PSs.nox (pss_cons (ps_set (i := 3) scLate.nd rfl (.inr rfl) (pe_cal CE hr (pa_cons (pv 0) (pa_cons (pv 2) pa_nil))))
      (pss_one (ps_ret (pe_callB (k_max (K := K) rfl rfl) (by rfl) g.max (by decide +kernel) (pa_cons
        (pe_lc (own := [("_law_at", 4)]) (g := gName 4) (by rfl) scLate.nd (pi_range1 (by rfl) g.range (pa_cons (pe_callB (k_len (K := K) rfl) (by rfl) g.len boot_len (pa_cons (pv 0) pa_nil)) pa_nil)) (blkOk_by (N := nLate) (sc := defScope sLate) (by decide +kernel))
          (fun _ _ _ _ _ => pg_name (i := 4) scLate.nd rfl (.inl rfl)) (fun _ _ _ _ _ => pts_nil)
          (fun _ _ _ _ _ => pe_op op_sub (pe_ix (k_ixL (K := K) rfl) (pv 3) (pv 4) (fun _ _ => rfl)) (pe_ix (k_ixT (K := K) rfl) (pv 1) (pv 4) (fun _ _ => rfl)))) pa_nil))))), ?_⟩
    refine q_asgL (xs := fl n (endOf t 0 o)) (el_call (ea_2 (ev_var rfl) (ev_var rfl)) fun H1 e Q q E => ⟨a, p, n, t, o, rfl, e _ _ ha, e _ _ hp, n2, nd, hlt, q⟩) fun l H1 hl e1 h1 => ?_
    refine s_ret (ev_maxN (ns := tl n fun j => endOf t 0 o j - d j) ?_ (tl_ne n1)) fun H2 e2 => q H2 (e1.trans e2)
    show EvL _ _ _ (fl n _)
    rw [← range_iv]
    refine el_lcM (List.range n) (fun j => .int (j : Nat)) (fun j => [some (.ref a), some (.ref b), some (.ref p), some (.ref l), some (nv j)]) _ (w1_range (ea_1 (ev_cb (ea_1 (ev_var rfl)) (rc_lenF (e1 _ _ ha)))) (by omega)) (by rw [List.length_range]; omega) (fun j _ H1 _ Q q => q) (fun j _ => rfl) fun j hj H2 e2 => ?_
    have hjn := List.mem_range.mp hj
    exact ev_op (ev_jobL (j := j) (ev_var rfl) (ev_var rfl) (e2 _ _ h1) hjn) (ev_jobT (j := j) (ev_var rfl) (ev_var rfl) (e2 _ _ (e1 _ _ hb)) hjn) rv_I0
theorem ok_greatest (F : FnP K "_law_greatest" sGreatest f fd) (g : Gs mg) (CE : Cal P w K mg base "_law_ends" 1 ["_law_times", "_law_order_here"] spEndsIn) : FnOk P w K mg base CX0 2 f fd ["_law_times", "_law_weights", "_law_dues", "_law_order_here"] spGreatestIn := by
  refine F.ok scGreatest (fun vs H Q E h => ?_) (fun cdv A outer s H vs Q E hr h => ?_)
  · obtain ⟨a, b, c, p, n, t, w, d, o, rfl, _⟩ := h
    rfl
  · obtain ⟨a, b, c, p, n, t, w, d, o, rfl, I, hp, nd, hlt, q⟩ := h
    refine ⟨_, PSs.nox (pss_cons (ps_set (i := 4) scGreatest.nd rfl (.inr rfl) (pe_cal CE hr (pa_cons (pv 0) (pa_cons (pv 3) pa_nil))))
      (pss_one (ps_ret (pe_callB (k_max (K := K) rfl rfl) (by rfl) g.max (by decide +kernel) (pa_cons
        (pe_lc (own := [("_law_at", 5)]) (g := gName 5) (by rfl) scGreatest.nd (pi_range1 (by rfl) g.range (pa_cons (pe_callB (k_len (K := K) rfl) (by rfl) g.len boot_len (pa_cons (pv 0) pa_nil)) pa_nil)) (blkOk_by (N := nGreatest) (sc := defScope sGreatest) (by decide +kernel))
          (fun _ _ _ _ _ => pg_name (i := 5) scGreatest.nd rfl (.inl rfl)) (fun _ _ _ _ _ => pts_nil)
          (fun _ _ _ _ _ => pe_op op_mul (pe_ix (k_ixT (K := K) rfl) (pv 1) (pv 5) (fun _ _ => rfl)) (pe_callB (call_max2 rfl) (by rfl) g.max (by decide +kernel) (pa_cons pe_int (pa_cons (pe_op op_sub (pe_ix (k_ixL (K := K) rfl) (pv 4) (pv 5) (fun _ _ => rfl)) (pe_ix (k_ixT (K := K) rfl) (pv 2) (pv 5) (fun _ _ => rfl))) pa_nil))))) pa_nil))))), ?_⟩
    have n1 := I.jb.n1
    have n2 := I.jb.n2
    refine q_asgL (xs := fl n (endOf t 0 o)) (el_call (ea_2 (ev_var rfl) (ev_var rfl)) fun H1 e Q q E => ⟨a, p, n, t, o, rfl, e _ _ I.ha, e _ _ hp, by omega, nd, hlt, q⟩) fun l H1 hl e1 h1 => ?_
    refine s_ret (ev_maxN (ns := tl n fun j => cst (w j) (d j) (endOf t 0 o j)) ?_ (tl_ne n1)) fun H2 e2 => q H2 (e1.trans e2)
    show EvL _ _ _ (fl n _)
    rw [← range_iv]
    refine el_lcM (List.range n) (fun j => .int (j : Nat)) (fun j => [some (.ref a), some (.ref b), some (.ref c), some (.ref p), some (.ref l), some (nv j)]) _ (w1_range (ea_1 (ev_cb (ea_1 (ev_var rfl)) (rc_lenF (e1 _ _ I.ha)))) (by omega)) (by rw [List.length_range]; omega) (fun j _ H1 _ Q q => q) (fun j _ => rfl) fun j hj H2 e2 => ?_
    have hjn := List.mem_range.mp hj
    have hwj := I.jb.hw j
    exact ev_mul (ev_jobT (j := j) (ev_var rfl) (ev_var rfl) (e2 _ _ (e1 _ _ I.hb)) hjn) (ev_max2 ev_c (ev_op (ev_jobL (j := j) (ev_var rfl) (ev_var rfl) (e2 _ _ h1) hjn) (ev_jobT (j := j) (ev_var rfl) (ev_var rfl) (e2 _ _ (e1 _ _ I.hc)) hjn) rv_I0)) (by omega)
end
end K6
set_option Elab.async false
set_option linter.all false
set_option maxRecDepth 100000
set_option maxHeartbeats 4000000
/-! due_days. -/
namespace K6
open PySem PySem.Spec PyProof.Rows L2 Evl
section
variable {P : Program} {w : World} {K : PySem.W.Frag} {mg : Str → Option Value} {base : Heap} {f : Addr} {fd : FuncData}
def rMin2 : List V → Hp → VK → Prop := fun xs H Q => ∃ i j, xs = [.int i, .int j] ∧ Q (.int (if j < i then j else i)) H
theorem k_min2 {X : Cx} (hc : X.calm = true) : CallR X (.builtin "min") rMin2 := call_min2 hc
theorem ev_min2 {σ : L2.St} {H : Hp} {ta tb : TE} {i j : Int} (ha : Ev ta σ H (.int i)) (hb : Ev tb σ H (.int j)) : Ev (tCB rMin2 (tCons ta (tCons tb tNil))) σ H (.int (imin i j)) := fun H1 e Q q =>
  ha H1 e _ fun H2 e2 => hb H2 (e.trans e2) _ fun H3 e3 => ⟨i, j, rfl, q H3 (e2.trans e3)⟩
theorem prs_get {o : List Pr2} {i : Nat} {e : Pr2} (h : o[i]? = some e) : (prs o)[i]? = some e.1 := by
  unfold prs
  rw [List.getElem?_map, h]
  rfl
theorem rel_step {t : Nat → Int} {ps : Prs} {F : Nat → Int} {n i : Nat} {p : Nat × Nat} (h : ps[i]? = some p) :
    (fl n (relAll t (ps.take i) F)).set p.1 (.int (imin (relAll t (ps.take i) F p.1) (relAll t (ps.take i) F p.2 - t p.2))) = fl n (relAll t (ps.take (i + 1)) F) := by
  have tk : ps.take (i + 1) = ps.take i ++ [p] := by rw [List.take_add_one, h] <;> rfl
  rw [tk, set_fl]
  refine fl_congr fun j _ => ?_
  unfold relAll
  rw [List.foldl_append]
  rfl
def spDueDays : Sp := fun vs H Q _ => ∃ (a b p : Addr) (n : Nat) (t d : Nat → Int) (o : List Pr2) (rk : Nat → Nat), vs = [.ref a, .ref b, .ref p] ∧ H a = some (.tup (fl n t)) ∧ H b = some (.tup (fl n d)) ∧ 1 ≤ n ∧ n ≤ 10 ∧ (∀ j, 1 ≤ t j ∧ t j ≤ 60) ∧ (∀ j, 0 ≤ d j ∧ d j ≤ 600) ∧ PrsAt H p o ∧ Prc n o rk ∧
  ∀ q H', H q = none → Ex H H' → H' q = some (.tup (fl n (relN t d (prs o) n))) → Q (.ref q) H'
theorem ok_dueDays (F : FnP K "due_days" sDueDays f fd) (g : Gs mg) (CT : Cal P w K mg base "need_times" 4 ["times"] spNeedTimes) (CD : Cal P w K mg base "need_dues" 4 ["dues", "many"] (spNeedW 0 600))
    (CP : Cal P w K mg base "need_pairs" 3 ["pairs", "many"] spNeedPairs) : FnOk P w K mg base CX0 5 f fd ["times", "dues", "pairs"] spDueDays := by
  refine F.ok scDueDays (fun vs H Q E h => ?_) (fun cdv A outer s H vs Q E hr h => ?_)
  · obtain ⟨a, b, p, n, t, d, o, rk, rfl, _⟩ := h
    rfl
  · obtain ⟨a, b, p, n, t, d, o, rk, rfl, ha, hb, n1, n2, ht, hd, hp, hc, q⟩ := h
    refine ⟨_, PSs.nox (pss_cons (ps_expr (pe_cal CT hr (pa_cons (pv 0) pa_nil)))
      (pss_cons (ps_expr (pe_cal CD hr (pa_cons (pv 1) (pa_cons (pe_callB (k_len (K := K) rfl) (by rfl) g.len boot_len (pa_cons (pv 0) pa_nil)) pa_nil))))
      (pss_cons (ps_expr (pe_cal CP (hr.mono (by decide)) (pa_cons (pv 2) (pa_cons (pe_callB (k_len (K := K) rfl) (by rfl) g.len boot_len (pa_cons (pv 0) pa_nil)) pa_nil))))
      (pss_cons (ps_set (i := 3) scDueDays.nd rfl (.inl rfl) (pe_callTy (k_list (K := K) rfl) (by rfl) g.list (by decide +kernel) (pa_cons (pv 1) pa_nil)))
      (pss_cons (ps_for PassesOwn.never rfl (pi_range1 (by rfl) g.range (pa_cons (pe_callB (k_len (K := K) rfl) (by rfl) g.len boot_len (pa_cons (pv 0) pa_nil)) pa_nil)) (pg_name (i := 4) scDueDays.nd rfl (.inl rfl))
        (pss_one (ps_for PassesOwn.never rfl (k_piT (K := K) rfl (pv 2)) (pg_tup rfl (pgs_cons (pg_name (i := 5) scDueDays.nd rfl (.inl rfl)) (pgs_cons (pg_name (i := 6) scDueDays.nd rfl (.inl rfl)) pgs_nil)))
          (pss_one (ps_asg (pe_callB (k_min2 rfl) (by rfl) g.min (by decide +kernel) (pa_cons (pe_ix (k_ixL (K := K) rfl) (pv 3) (pv 5) (fun _ _ => rfl)) (pa_cons (pe_op op_sub (pe_ix (k_ixL (K := K) rfl) (pv 3) (pv 6) (fun _ _ => rfl)) (pe_ix (k_ixT (K := K) rfl) (pv 0) (pv 6) (fun _ _ => rfl))) pa_nil)))
            (pg_sub (pv 3) (pv 5) set_list))))))
      (pss_one (ps_ret (pe_callTy (k_tuple (K := K) rfl) (by rfl) g.tuple (by decide +kernel) (pa_cons (pv 3) pa_nil))))))))), ?_⟩
    refine q_drop (v := .non) (ev_call (ea_1 (ev_var rfl)) fun H1 e Q q E => ⟨a, tl n t, rfl, e _ _ ha, tl_all ht, by rw [tl_len]; exact n1, by rw [tl_len]; exact n2, q⟩) fun H1 e1 => ?_
    refine q_drop (v := .non) (ev_needW (n := n) (ea_2 (ev_var rfl) (ev_cb (ea_1 (ev_var rfl)) (rc_lenF (e1 _ _ ha)))) (e1 _ _ hb) hd) fun H2 e2 => ?_
    refine q_drop (v := .non) (ev_call (ea_2 (ev_var rfl) (ev_cb (ea_1 (ev_var rfl)) (rc_lenF (e2 _ _ (e1 _ _ ha))))) fun H3 e Q q E => ⟨p, n, o, rk, rfl, ((hp.ex e1).ex e2).ex e, by omega, hc.len, hc.rng, hc.rk, q⟩) fun H3 e3 => ?_
    have e13 := (e1.trans e2).trans e3
    refine q_asgL (xs := fl n d) (el_lstT (ev_var rfl) (e13 _ _ hb)) fun l H4 hl4 e4 h4 => ?_
    have hl : H l = none := fresh_back e13 hl4
    have e14 := e13.trans e4
    refine q_forR1 (n := (n : Int)) (ea_1 (ev_cb (ea_1 (ev_var rfl)) (rc_lenF (e14 _ _ ha)))) (by omega) (fun r σ' H' => Ex H H' ∧ H' l = some (.lst (fl n (relN t d (prs o) r))) ∧ ∃ y4 y5 y6, σ' = [some (.ref a), some (.ref b), some (.ref p), some (.ref l), y4, y5, y6]) (fun H5 e5 => ⟨e14.trans e5, e5 _ _ h4, none, none, none, rfl⟩) ?_ ?_
    · rintro r σ' H' hr ⟨e5, h5, y4, y5, y6, rfl⟩
      refine s_forT (ev_var rfl) (st_of (e5 _ _ hp.1)) (fun i σ' H' => Ex H H' ∧ H' l = some (.lst (fl n (relAll t ((prs o).take i) (relN t d (prs o) r)))) ∧ ∃ y5 y6, σ' = [some (.ref a), some (.ref b), some (.ref p), some (.ref l), some (.int (r : Int)), y5, y6]) (fun H6 e6 => ⟨e5.trans e6, e6 _ _ h5, y5, y6, rfl⟩) (fun i σ' H' _ p => st_of (p.1 _ _ hp.1)) ?_ ?_
      · rintro i x σ' H' hx ⟨e6, h6, y5, y6, rfl⟩
        rw [List.getElem?_map] at hx
        obtain ⟨e, he, rfl⟩ := Option.map_eq_some_iff.mp hx
        have hmem : e ∈ o := List.mem_of_getElem? he
        obtain ⟨b1, b2, b3⟩ := hc.rng e.1 (mem_prs hmem)
        refine g_two (e6 _ _ (hp.2 e hmem)) ?_
        refine s_setL (j := e.1.1) h6 (ev_min2 (ev_jobL (j := e.1.1) (ev_var rfl) (ev_var rfl) h6 b1) (ev_op (ev_jobL (j := e.1.2) (ev_var rfl) (ev_var rfl) h6 b2) (ev_jobT (j := e.1.2) (ev_var rfl) (ev_var rfl) (e6 _ _ ha) b2) rv_I0)) (ev_var rfl) (ev_var rfl) (by rw [fl_len]; exact b1) fun H7 e7 => ⟨Ex.mut (e6.trans e7) hl, ?_, _, _, rfl⟩
        rw [upd_same, rel_step (prs_get he)]
      · rintro σ' H' ⟨e6, h6, y5, y6, rfl⟩
        refine ⟨e6, ?_, _, _, _, rfl⟩
        rw [h6, List.length_map, show o.length = (prs o).length by unfold prs; rw [List.length_map], List.take_length]
        rfl
    · rintro σ' H' ⟨e5, h5, y4, y5, y6, rfl⟩
      exact s_retU (eu_tupL (ev_var rfl) h5) fun x H6 hx e6 h6 => q x H6 (fresh_back e5 hx) (e5.trans e6) h6
end
end K6
set_option Elab.async false
set_option linter.all false
set_option maxRecDepth 100000
set_option maxHeartbeats 4000000
/-! least_greatest. -/
namespace K6
open PySem PySem.Spec PyProof.Rows L2 Evl LamX
theorem PrsAt.exN {H H' : Hp} {a : Addr} {o : List Pr2} (e : ExtN H H') (h : PrsAt H a o) : PrsAt H' a o := ⟨e _ _ h.1 (fun ps z => nomatch z), fun p hp => e _ _ (h.2 p hp) (fun ps z => nomatch z)⟩
theorem Ins.exN {H H' : Hp} {a b c : Addr} {n : Nat} {t w d : Nat → Int} (e : ExtN H H') (h : Ins H a b c n t w d) : Ins H' a b c n t w d := ⟨e _ _ h.ha (fun ps z => nomatch z), e _ _ h.hb (fun ps z => nomatch z), e _ _ h.hc (fun ps z => nomatch z), h.jb⟩
/-- the greatest cost is at most c -/
theorem gst_le {n : Nat} {t w d : Nat → Int} {ps : Prs} {o : List Nat} {c : Int} (n1 : 1 ≤ n) (F : Feas n ps o) : gst n t w d o ≤ c ↔ Und (fun j e => cst (w j) (d j) e) t c 0 o := by
  unfold gst
  rw [imx_le (tl_ne n1), und_iff (F.1.nodup_iff.mpr List.nodup_range)]
  constructor
  · intro h j hj
    exact h _ (List.mem_map.mpr ⟨j, F.1.mem_iff.mp hj, rfl⟩)
  · intro h y hy
    obtain ⟨j, hj, rfl⟩ := List.mem_map.mp hy
    exact h j (F.1.mem_iff.mpr hj)
/-- the key of the lambda -/
def kfn (w d : Nat → Int) (S : Int) : V → Int × Int
  | .int i => (cst (w i.toNat) (d i.toNat) S, i)
  | _ => (0, 0)
section
variable {K : PySem.W.Frag} {σ : L2.St} {H : Hp} {ta tb te : TE}
theorem el_listRg {n : Nat} (h : Ev te σ H (nv n)) (hn : n ≤ 1000) : EvL (tLstRg (tRg1 te)) σ H (jl (List.range n)) := fun H1 e Q q =>
  h H1 e _ fun H2 e2 => ⟨(n : Int), rfl, .of_le (by omega) (by omega) (by omega) (by omega), fun l hl => by
    have e3 : rgV 0 (n : Int) = jl (List.range n) := by
      unfold rgV
      rw [show ((n : Int) - 0).toNat = n by omega]
      refine List.map_congr_left fun j _ => ?_
      rw [Int.zero_add]
    rw [e3]
    exact q l _ (fresh_back e2 hl) (e2.trans (Ex.new hl)) upd_same⟩
theorem q_asgMin {T : List (Addr × Str)} {js i : Nat} {ta : TA} {tb : TE} {tz : TS} {D : Ends} {l : Addr} {xs : List V} (h : EvA ta σ H [.ref l]) (hx : H l = some (.lst xs)) (hne : 0 < xs.length) (hT : Tabs T H)
    (k : ∀ H2, ExtN H H2 → Tabs T H2 → ∃ kf : V → Int × Int, (∀ x ∈ xs, EvU tb (σ.set js (some x)) H2 [.int (kf x).1, .int (kf x).2]) ∧ ∀ (x : V) (H3 : Hp), x ∈ xs → Ex H2 H3 → (∀ x' ∈ xs, (kf x).1 ≤ (kf x').1) → tz D (σ.set i (some x)) H3) :
    tSeq (tAsg (tMinLam K T js ta tb) (gName i)) tz D σ H := h H (Ex.refl _) _ fun H1 e => ⟨l, xs, rfl, sq_of (e _ _ hx), hne, hT.ext e, fun H2 e2 t2 => k H2 ((ExtN.of e).trans e2) t2⟩
theorem q_asgTwo {tz : TS} {D : Ends} {i j : Nat} {xs ys : List V} (h1 : EvL ta σ H xs) (h2 : EvL tb σ H ys) (k : ∀ p q H3, H p = none → H q = none → p ≠ q → Ex H H3 → H3 p = some (.lst xs) → H3 q = some (.lst ys) → tz D ((σ.set i (some (.ref p))).set j (some (.ref q))) H3) :
    tSeq (tAsg (tTup (tCons ta (tCons tb tNil))) (gTup K 2 (gCons (gName i) (gCons (gName j) gNil)))) tz D σ H :=
  h1 H (Ex.refl _) _ fun p H1 hp e1 g1 => h2 H1 e1 _ fun q H2 hq e2 g2 => ⟨by show 2 ≤ sizeLine; decide, fun T hT =>
    g_two upd_same (k p q _ hp (fresh_back e1 hq) (ne_of_none g1 hq) ((e1.trans e2).trans (Ex.new hT)) ((Ex.new hT) _ _ (e2 _ _ g1)) ((Ex.new hT) _ _ g2))⟩
theorem eu_tupRev {l : Addr} {xs : List V} (h : Ev te σ H (.ref l)) (hx : H l = some (.lst xs)) : EvU (RT.tTupRev K te) σ H xs.reverse := fun H1 e Q q =>
  h H1 e _ fun H2 e2 => ⟨l, xs, rfl, sq_of ((e.trans e2) _ _ hx), fun r hr => q r _ (fresh_back e2 hr) (e2.trans (Ex.new hr)) upd_same⟩
end
section
variable {P : Program} {w : World} {K : PySem.W.Frag} {mg : Str → Option Value} {base : Heap} {f : Addr} {fd : FuncData}
/-- THE RULE, the def's code object known -/
theorem okC {x : Str} {st : Stmt} {CX : CXT} {N ps : List Str} {k : Nat} {sp : Sp} {c : Addr} (F : FnP K x st f fd) (hc : fd.code = .ref c) (S : FnScope N ps (defScope st)) (len : ∀ vs H Q E, sp vs H Q E → vs.length = ps.length)
    (hbody : ∀ (A : Around) (outer : List Env) (s : Shared) (H : Hp) (vs : List V) (Q : VK) (E : XK), Room k (A.deeper (envOfC x (defScope st) s.heap.objs.size f (.ref c))) → sp vs H Q E →
      ∃ t, PSs (cxOf CX P w K mg base N x (defScope st) f (.ref c) A outer s H E) (defBody st) t ∧ t { nx := fun _ H' => Q .non H', rt := Q } (start N vs) H) : FnOk P w K mg base CX (k + 1) f fd ps sp := by
  obtain ⟨oc, od, dV, kV, doc, pm, an, cdv, ct, osl, rfl, lk, hcd, _, _⟩ := F.ex
  have e : cdv = .ref c := hc
  subst e
  exact fn_of lk hcd S len fun A outer s H vs Q E hr hsp => hbody A outer s H vs Q E hr hsp
/-- the lambda's name and table -/
abbrev lamT (Pt : Addr) : List (Addr × Str) := [(Pt, ("least_greatest" : Str) ++ ".<locals>." ++ "<lambda>")]
def spLeast (Pt : Addr) : Sp := fun vs H Q _ => ∃ (a b c p : Addr) (n : Nat) (t w d : Nat → Int) (o : List Pr2) (rk : Nat → Nat), vs = [.ref a, .ref b, .ref c, .ref p] ∧ Ins H a b c n t w d ∧ PrsAt H p o ∧ Prc n o rk ∧ Tabs (lamT Pt) H ∧
  ∀ q H' best, ExtN H H' → Tabs (lamT Pt) H' → H' q = some (.tup (jl best)) → Feas n (prs o) best → (∀ e, Feas n (prs o) e → gst n t w d best ≤ gst n t w d e) → Q (.ref q) H'
theorem ok_least {cc Pt : Addr} (F : FnP K "least_greatest" sLeastGreatest f fd) (hcc : fd.code = .ref cc) (TB : TabB base mg cc Pt) (g : Gs mg) (CN : Cal P w K mg base "need_costs" 6 ["times", "weights", "dues", "pairs"] spNeedCosts)
    (CC : Cal P w K mg base "cost_at" 1 ["weight", "due", "end"] spCostAt) : FnOk P w K mg base CX0 7 f fd ["times", "weights", "dues", "pairs"] (spLeast Pt) := by
  refine okC F hcc scLeastGreatest (fun vs H Q E h => ?_) (fun A outer s H vs Q E hr h => ?_)
  · obtain ⟨a, b, c, p, n, t, w, d, o, rk, rfl, _⟩ := h
    rfl
  · obtain ⟨a, b, c, p, n, t, w, d, o, rk, rfl, I, hp, hc, hT, q⟩ := h
    refine ⟨_, PSs.nox (pss_cons (ps_expr (pe_cal CN hr (pa_cons (pv 0) (pa_cons (pv 1) (pa_cons (pv 2) (pa_cons (pv 3) pa_nil))))))
      (pss_cons (ps_asg (pe_tup (pa_cons (pe_listRg rfl (by rfl) g.list (prg_1 (by rfl) g.range (pe_callB (k_len (K := K) rfl) (by rfl) g.len boot_len (pa_cons (pv 0) pa_nil)))) (pa_cons (pe_lst pa_nil) pa_nil)))
        (pg_tup rfl (pgs_cons (pg_name (i := 4) scLeastGreatest.nd rfl (.inr rfl)) (pgs_cons (pg_name (i := 5) scLeastGreatest.nd rfl (.inl rfl)) pgs_nil))))
      (pss_cons (ps_while PassesOwn.never (pt_cmpR (op_neD hr.units) (pv 4) (pe_lst pa_nil) (nomark _))
        (pss_cons (ps_set (i := 8) scLeastGreatest.nd rfl (.inr rfl) (pe_callB (k_sum (K := K) rfl rfl) (by rfl) g.sum (by decide +kernel) (pa_cons
          (pe_lc (own := [("job", 9)]) (g := gName 9) (by rfl) scLeastGreatest.nd (k_piL (K := K) rfl (pv 4)) (blkOk_by (N := nLeastGreatest) (sc := defScope sLeastGreatest) (by decide +kernel))
            (fun _ _ _ _ _ => pg_name (i := 9) scLeastGreatest.nd rfl (.inl rfl)) (fun _ _ _ _ _ => pts_nil) (fun _ _ _ _ _ => pe_ix (k_ixT (K := K) rfl) (pv 0) (pv 9) (fun _ _ => rfl))) pa_nil)))
        (pss_cons (ps_setLc (i := 6) (own := [("job", 9)]) (g := gName 9) (by rfl) scLeastGreatest.nd rfl rfl (by rfl) (k_piL (K := K) rfl (pv 4)) (blkOk_by (N := nLeastGreatest) (sc := defScope sLeastGreatest) (by decide +kernel))
            (fun _ _ _ _ _ => pg_name (i := 9) scLeastGreatest.nd rfl (.inr rfl))
            (fun _ _ _ _ _ => pts_one (pt_not (pt_val (pe_callB (k_any (K := K) rfl rfl) (by rfl) g.any (by decide +kernel) (pa_cons
              (pe_lc (own := [("pair", 10)]) (g := gName 10) (by rfl) scLeastGreatest.nd (k_piT (K := K) rfl (pv 3)) (blkOk_by (N := nLeastGreatest) (by rfl))
                (fun _ _ _ _ _ => pg_name (i := 10) scLeastGreatest.nd rfl (.inl rfl)) (fun _ _ _ _ _ => pts_nil)
                (fun _ _ _ _ _ => pe_and (pe_cmpR op_eq (pe_ix (k_ixT (K := K) rfl) (pv 10) pe_int (fun _ _ => rfl)) (pv 9) (nomark _)) (pe_one (pe_cmpR (k_in (K := K) rfl) (pe_ix (k_ixT (K := K) rfl) (pv 10) pe_int (fun _ _ => rfl)) (pv 4) (by rfl))))) pa_nil)))))
            (fun _ _ _ _ _ => pv 9))
        (pss_cons (ps_set (i := 7) scLeastGreatest.nd rfl (.inr rfl)
          (pe_minLam (T := lamT Pt) (c := cc) (P := Pt) (k := 1) (js := 9) (a := "job") (by rfl) g.min (pa_cons (pv 6) pa_nil) TB rfl List.mem_cons_self (fun p hp _ => by rw [List.mem_singleton.mp hp]; rfl) (hr.mono (by decide)) (lam1_by (sc := defScope sLeastGreatest) (by decide +kernel)) scLeastGreatest.nd rfl rfl (fun _ _ _ _ _ _ => rfl)
            (fun _ _ _ _ _ hr' => pe_tup (pa_cons (pe_cal CC hr' (pa_cons (pe_ix (k_ixT (K := K) rfl) (pv 1) (pv 9) (fun _ _ => rfl)) (pa_cons (pe_ix (k_ixT (K := K) rfl) (pv 2) (pv 9) (fun _ _ => rfl)) (pa_cons (pv 8) pa_nil)))) (pa_cons (pv 9) pa_nil)))))
        (pss_cons (ps_expr (pe_bm PySem.F.plainAttrs_list PySem.F.slot_list_append PySem.F.type_list_append mt_append (pv 5) (pa_cons (pv 7) pa_nil)))
        (pss_one (ps_set (i := 4) scLeastGreatest.nd rfl (.inr rfl)
          (pe_lc (own := [("job", 9)]) (g := gName 9) (by rfl) scLeastGreatest.nd (k_piL (K := K) rfl (pv 4)) (blkOk_by (N := nLeastGreatest) (sc := defScope sLeastGreatest) (by decide +kernel))
            (fun _ _ _ _ _ => pg_name (i := 9) scLeastGreatest.nd rfl (.inl rfl)) (fun _ _ _ _ _ => pts_one (pt_cmpR op_ne (pv 9) (pv 7) (nomark _))) (fun _ _ _ _ _ => pv 9)))))))))
      (pss_one (ps_ret (RT.pe_tupRev rfl (by rfl) g.tuple (by rfl) g.reversed (pv 5))))))), ?_⟩
    have n1 := I.jb.n1
    have n2 := I.jb.n2
    have hrng : ∀ x, x ∈ prs o → x.1 < n ∧ x.2 < n := fun x hx => ⟨(hc.rng x hx).1, (hc.rng x hx).2.1⟩
    have ht0 : ∀ j, 0 ≤ t j := fun j => Int.le_trans (by decide) (I.jb.ht j).1
    refine q_drop (v := .non) (ev_call (ea_4 (ev_var rfl) (ev_var rfl) (ev_var rfl) (ev_var rfl)) fun H1 e Q q E => ⟨a, b, c, p, n, t, w, d, o, rk, rfl, I.ex e, hp.ex e, hc, q⟩) fun H1 e1 => ?_
    refine q_asgTwo (xs := jl (List.range n)) (ys := []) (el_listRg (ev_cb (ea_1 (ev_var rfl)) (rc_lenF (e1 _ _ I.ha))) (by omega)) (el_lst ea_nil (by decide)) fun pL0 l H2 hpL0 hl2 ne0 e2 h2 h2l => ?_
    have hl : H l = none := fresh_back e1 hl2
    refine q_while (fun m σ' H' => ∃ (left suf : List Nat) (pL : Addr) (y6 y7 y8 : Option V), σ' = [some (.ref a), some (.ref b), some (.ref c), some (.ref p), some (.ref pL), some (.ref l), y6, y7, y8, none, none] ∧ ExtN H H' ∧ Tabs (lamT Pt) H' ∧
      H' pL = some (.lst (jl left)) ∧ H' l = some (.lst (jl suf.reverse)) ∧ pL ≠ l ∧ Law n (prs o) (fun j e => cst (w j) (d j) e) t left suf ∧ (∀ j ∈ left, j < n) ∧ left.length + suf.length = n ∧ m = left.length) n
      ⟨List.range n, [], pL0, none, none, none, rfl, ExtN.of (e1.trans e2), hT.ext (e1.trans e2), h2, h2l, ne0, law_start hrng, fun j hj => List.mem_range.mp hj, by rw [List.length_range] <;> rfl, by rw [List.length_range]⟩ ?_
    rintro m σ' H' ⟨left, suf, pL, y6, y7, y8, rfl, eN, T', hL, hF, neL, LW, hlt, hlen, rfl⟩
    refine ⟨!left.isEmpty, et_test (ev_neNil (ev_var rfl) hL), fun hb H3 e3 => ?_, fun hb H3 e3 => ?_⟩
    · have hne : left ≠ [] := fun z => by
        rw [z] at hb
        cases hb
      have IN := I.exN eN
      have PN := hp.exN eN
      refine ⟨fun σ2 H4 => ∃ (left' suf' : List Nat) (pL : Addr) (y6 y7 y8 : Option V), σ2 = [some (.ref a), some (.ref b), some (.ref c), some (.ref p), some (.ref pL), some (.ref l), y6, y7, y8, none, none] ∧ ExtN H H4 ∧ Tabs (lamT Pt) H4 ∧
        H4 pL = some (.lst (jl left')) ∧ H4 l = some (.lst (jl suf'.reverse)) ∧ pL ≠ l ∧ Law n (prs o) (fun j e => cst (w j) (d j) e) t left' suf' ∧ (∀ j ∈ left', j < n) ∧ left'.length + suf'.length = n ∧ left'.length < left.length,
        fun σ2 H4 ⟨l', s', p', z6, z7, z8, g1, g2, g3, g4, g5, g6, g7, g8, g9, g10⟩ => ⟨l'.length, g10, l', s', p', z6, z7, z8, g1, g2, g3, g4, g5, g6, g7, g8, g9, rfl⟩, ?_⟩
      have hz : left.length ≤ 10 := by omega
      refine q_asg (v := .int (left.map t).sum) (ev_sumN ?_) fun H4 e4 => ?_
      · rw [List.map_map]
        exact el_lcM left nv (fun j => [some (.ref a), some (.ref b), some (.ref c), some (.ref p), some (.ref pL), some (.ref l), y6, y7, y8, some (nv j), none]) _ (w1_list (ev_var rfl) (e3 _ _ hL)) (by omega) (fun j _ H1 _ Q q => q) (fun j _ => rfl) fun j hj H4 e4 => ev_jobT (j := j) (ev_var rfl) (ev_var rfl) (e4 _ _ (e3 _ _ IN.ha)) (hlt j hj)
      rw [sumT_map]
      have e34 := e3.trans e4
      refine q_asgL (xs := jl (left.filter (ableB (prs o) left))) ?_ fun pA H5 hpA e5 h5 => ?_
      · refine el_lcG left nv (fun j => [some (.ref a), some (.ref b), some (.ref c), some (.ref p), some (.ref pL), some (.ref l), y6, y7, some (.int (sumT t left)), some (nv j), none]) (ableB (prs o) left) nv (w1_list (ev_var rfl) (e34 _ _ hL)) (by omega)
          (fun j _ H1 _ Q q => q) (fun j _ => rfl) (fun j _ H5 e5 => ?_) (fun j _ H1 e _ => ev_var rfl)
        refine et_not (a := (prs o).any fun p => decide (p.1 = j) && left.contains p.2) (et_B (ev_is (ev_anyN (bs := o.map fun e => decide (e.1.1 = j) && left.contains e.1.2) ?_) (congrArg V.bl (any_prs o fun p => decide (p.1 = j) && left.contains p.2))))
        rw [List.map_map]
        have e35 := e34.trans e5
        have h40 := hc.len
        refine el_lcM o (fun e => V.ref e.2) (fun e => [some (.ref a), some (.ref b), some (.ref c), some (.ref p), some (.ref pL), some (.ref l), y6, y7, some (.int (sumT t left)), some (nv j), some (.ref e.2)]) _ (w1_tup (ev_var rfl) (e35 _ _ PN.1)) (by omega)
          (fun e _ H1 _ Q q => q) (fun e _ => rfl) fun e he H6 e6 => ?_
        have hq := (e35.trans e6) _ _ (PN.2 e he)
        exact ev_andV (a := decide (e.1.1 = j)) (b := left.contains e.1.2) (ev_eqN (ev_ixT (ev_var rfl) ev_c hq (by rfl)) (ev_var rfl)) fun _ => ev_inL (ev_ixT (ev_var rfl) ev_c hq (by rfl)) (ev_var rfl) ((e35.trans e6) _ _ hL)
      have e35 := e34.trans e5
      obtain ⟨j0, hj0, ha0⟩ := able_some hc.rk left hne
      have hne2 : left.filter (ableB (prs o) left) ≠ [] := fun z => by
        have h6 : j0 ∈ left.filter (ableB (prs o) left) := List.mem_filter.mpr ⟨hj0, ha0⟩
        rw [z] at h6
        cases h6
      refine q_asgMin (ea_1 (ev_var rfl)) h5 (by rw [List.length_map]; exact List.length_pos_iff.mpr hne2) (T'.ext e35) fun H6 e6 T6 => ⟨kfn w d (sumT t left), fun x hx => ?_, fun x H7 hx e7 hbest => ?_⟩
      · obtain ⟨j, hj, rfl⟩ := List.mem_map.mp hx
        have hjn := hlt j (List.mem_filter.mp hj).1
        have I6 := I.exN (eN.trans ((ExtN.of e35).trans e6))
        exact eu_tup (ea_2 (ev_call (ea_3 (ev_jobT (j := j) (ev_var rfl) (ev_var rfl) I6.hb hjn) (ev_jobT (j := j) (ev_var rfl) (ev_var rfl) I6.hc hjn) (ev_var rfl)) fun H1 e Q q E => ⟨_, _, _, rfl, (I.jb.hw j).1, (I.jb.hw j).2, q⟩) (ev_var rfl)) (by show 2 ≤ 100000; decide)
      · obtain ⟨lj, hlj, rfl⟩ := List.mem_map.mp hx
        obtain ⟨hll, hab⟩ := List.mem_filter.mp hlj
        have hmin : ∀ k, k ∈ left → ableB (prs o) left k = true → cst (w lj) (d lj) (sumT t left) ≤ cst (w k) (d k) (sumT t left) := fun k hk hka => hbest (nv k) (List.mem_map.mpr ⟨k, List.mem_filter.mpr ⟨hk, hka⟩, rfl⟩)
        have LW2 := law_step (f := fun j e => cst (w j) (d j) e) (fun j x y hxy => cst_mono (I.jb.hw j).1 hxy) ht0 LW hll hab hmin (fun x hx => (hc.rng x hx).2.2)
        have e37 : ExtN H' H7 := (ExtN.of e35).trans (e6.trans (ExtN.of e7))
        have hF7 := e37 _ _ hF (fun ps z => nomatch z)
        have hL7 := e37 _ _ hL (fun ps z => nomatch z)
        refine q_app (xs := jl suf.reverse) (v := nv lj) hF7 (ev_var rfl) (ev_var rfl) (by rw [List.length_map, List.length_reverse]; omega) fun H8 e8 => ?_
        have hU : ∀ x u, H8 x = some u → x ≠ l → upd H8 l (.lst (jl suf.reverse ++ [nv lj])) x = some u := fun x u hx hne => by
          rw [upd_ne hne]
          exact hx
        refine s_asgL (xs := jl (left.filter fun j => decide (j ≠ lj))) ?_ fun pL' H9 hpL' e9 h9 => ?_
        · refine el_lcG left nv (fun j => [some (.ref a), some (.ref b), some (.ref c), some (.ref p), some (.ref pL), some (.ref l), some (.ref pA), some (nv lj), some (.int (sumT t left)), some (nv j), none]) (fun j => decide (j ≠ lj)) nv (w1_list (ev_var rfl) (hU _ _ (e8 _ _ hL7) neL)) (by omega)
            (fun j _ H1 _ Q q => q) (fun j _ => rfl) (fun j _ H9 e9 => et_test (ev_is (ev_op (ev_var rfl) (ev_var rfl) (rv_ne rfl)) (congrArg V.bl ?_))) (fun j _ H1 e _ => ev_var rfl)
          show (!decide (nv j = nv lj)) = decide (j ≠ lj)
          rw [dec_nv]
          simp
        · have hsub : ∀ j ∈ left.filter (fun j => decide (j ≠ lj)), j ∈ left := fun j hj => (List.mem_filter.mp hj).1
          have hlen2 : (left.filter fun j => decide (j ≠ lj)).length + 1 = left.length := by
            have e10 : left.filter (fun j => decide (j ≠ lj)) = left.erase lj := by
              rw [LW.nd.erase_eq_filter]
              congr 1
              funext x
              simp [bne_iff_ne, Bool.beq_eq_decide_eq, decide_not, bne]
            rw [e10, List.length_erase_of_mem hll]
            have := List.length_pos_of_mem hll
            omega
          have hl9 : H9 l = some (.lst (jl suf.reverse ++ [nv lj])) := e9 _ _ upd_same
          refine ⟨_, lj :: suf, pL', _, _, _, rfl, fun x u hx hnt => ?_, ?_, h9, ?_, ?_, LW2, fun j hj => hlt j (hsub j hj), by rw [List.length_cons]; omega, by omega⟩
          · have hxl : x ≠ l := ne_of_none hx hl
            exact e9 _ _ (hU _ _ (e8 _ _ (e37 _ _ (eN _ _ hx hnt) hnt)) hxl)
          · refine Tabs.ext ?_ e9
            have T8 : Tabs (lamT Pt) H8 := (T6.ext e7).ext e8
            intro x hx
            obtain ⟨ps, g1, g2, g3⟩ := T8 x hx
            have hF8 := e8 _ _ hF7
            refine ⟨ps, hU _ _ g1 (fun z => ?_), g2, fun pos cv hcv => ?_⟩
            · rw [z, hF8] at g1
              cases g1
            · obtain ⟨cx, g4, g5⟩ := g3 pos cv hcv
              refine ⟨cx, g4, hU _ _ g5 (fun z => ?_)⟩
              rw [z, hF8] at g5
              cases g5
          · rw [hl9, List.reverse_cons, jl, jl, List.map_append]
            rfl
          · intro z
            rw [z, upd_same] at hpL'
            cases hpL'
    · have hnil : left = [] := by
        cases left with
        | nil => rfl
        | cons x r => cases hb
      subst hnil
      obtain ⟨g1, g2⟩ := law_end LW
      refine s_retU (xs := (jl suf.reverse).reverse) (eu_tupRev (ev_var rfl) (e3 _ _ hF)) fun r H4 hr e4 h4 => ?_
      have e34 : ExtN H' H4 := ExtN.of (e3.trans e4)
      refine q r H4 suf (eN.trans e34) (T'.ext (e3.trans e4)) ?_ g1 fun e he => (gst_le n1 g1).mpr (g2 _ e he ((gst_le n1 he).mp (Int.le_refl _)))
      rw [h4, jl, List.map_reverse, List.reverse_reverse]
end
end K6
set_option Elab.async false
set_option linter.all false
set_option maxRecDepth 100000
set_option maxHeartbeats 4000000
/-! The row of the law's script: _law_taken, _law_pick; _law_alike of numbers. -/
namespace K6
open PySem PySem.Spec PyProof.Rows L2 Evl
/-- the row at r over the script at sc -/
def RowAt (K : PySem.W.Frag) (r sc : Addr) (ns : List Int) (H : Hp) : Prop := SqL K H sc (ns.map V.int) ∧ ∃ pos seed rest : Int, 0 ≤ pos ∧ H r = some (.lst [.ref sc, .int pos, .int seed, .int rest])
/-- all but the row stays, the row is a row -/
def XR (K : PySem.W.Frag) (r sc : Addr) (ns : List Int) (H H' : Hp) : Prop := (∀ a o, a ≠ r → H a = some o → H' a = some o) ∧ RowAt K r sc ns H'
section
variable {K : PySem.W.Frag} {r sc : Addr} {ns : List Int} {H H1 H2 : Hp}
theorem RowAt.ex (e : Ex H H1) (h : RowAt K r sc ns H) : RowAt K r sc ns H1 := by
  obtain ⟨h1, p, s, q, h2, h3⟩ := h
  exact ⟨ex_l e h1, p, s, q, h2, e _ _ h3⟩
theorem XR.refl (h : RowAt K r sc ns H) : XR K r sc ns H H := ⟨fun _ _ _ h => h, h⟩
theorem XR.trans (a : XR K r sc ns H H1) (b : XR K r sc ns H1 H2) : XR K r sc ns H H2 := ⟨fun x o n h => b.1 x o n (a.1 x o n h), b.2⟩
theorem XR.ex (a : XR K r sc ns H H1) (e : Ex H1 H2) : XR K r sc ns H H2 := ⟨fun x o n h => e x o (a.1 x o n h), a.2.ex e⟩
theorem RowAt.xr (h : RowAt K r sc ns H) (e : Ex H H1) : XR K r sc ns H H1 := (XR.refl h).ex e
theorem sq_upd {o : HO} {xs ys : List V} (h : SqL K H sc (ns.map V.int)) (hr : H r = some (.lst (.ref sc :: ys))) (hx : ∀ z : Int, True) : SqL K (upd H r o) sc (ns.map V.int) := by
  rcases h with (h | ⟨ob, h⟩) | h
  · refine .inl (.inl ?_)
    rw [upd_ne (fun z => ?_)]
    · exact h
    · rw [z, hr] at h
      have h1 := Option.some.inj h
      have h2 : V.ref sc :: ys = ns.map V.int := HO.lst.inj h1
      cases ns with
      | nil => cases h2
      | cons x t => cases (List.cons.inj h2).1
  · refine .inl (.inr ⟨ob, ?_⟩)
    rw [upd_ne (fun z => ?_)]
    · exact h
    · rw [z, hr] at h
      cases h
  · exact .inr h
/-- the row is written -/
theorem RowAt.set {p s q : Int} (hs : SqL K H sc (ns.map V.int)) {ys : List V} (hr : H r = some (.lst (.ref sc :: ys))) (hp : 0 ≤ p) : RowAt K r sc ns (upd H r (.lst [.ref sc, .int p, .int s, .int q])) := ⟨sq_upd (xs := []) hs hr fun _ => trivial, p, s, q, hp, upd_same⟩
theorem XR.set {p s q : Int} (a : XR K r sc ns H H1) (e : Ex H1 H2) {ys : List V} (hr : H1 r = some (.lst (.ref sc :: ys))) (hp : 0 ≤ p) : XR K r sc ns H (upd H2 r (.lst [.ref sc, .int p, .int s, .int q])) :=
  ⟨fun x o n h => by
    rw [upd_ne n]
    exact e _ _ (a.1 x o n h), .set (ex_l e a.2.1) (e _ _ hr) hp⟩
end
section
variable {P : Program} {w : World} {K : PySem.W.Frag} {mg : Str → Option Value} {base : Heap} {f : Addr} {fd : FuncData}
def rInt1 : List V → Hp → VK → Prop := fun xs H Q => (∃ i, xs = [.int i] ∧ Q (.int i) H) ∨ ∃ k, xs = [.bl k] ∧ Q (.int (if k then 1 else 0)) H
theorem k_int1 {X : Cx} : CallR X (.type "int") rInt1 := call_int1
section
variable {σ : L2.St} {H : Hp} {ta tb te : TE}
theorem ev_int1 {i : Int} (h : Ev te σ H (.int i)) : Ev (tCB rInt1 (tCons te tNil)) σ H (.int i) := fun H1 e Q q => h H1 e _ fun H2 e2 => .inl ⟨i, rfl, q H2 e2⟩
theorem ev_mulR {a b : Int} (ha : Ev ta σ H (.int a)) (hb : Ev tb σ H (.int b)) (h : -(2 ^ 64) < b ∧ b < 2 ^ 64) : Ev (tOp (rI CMul fun i j => .int (i * j)) ta tb) σ H (.int (a * b)) := ev_op ha hb (rv_I (.inr h))
theorem ev_mod {a b : Int} (ha : Ev ta σ H (.int a)) (hb : Ev tb σ H (.int b)) (h : 0 < b) : Ev (tOp (rI (fun _ j => 0 < j) fun i j => .int (i % j)) ta tb) σ H (.int (a % b)) := ev_op ha hb (rv_I h)
theorem ev_fdiv {a b : Int} (ha : Ev ta σ H (.int a)) (hb : Ev tb σ H (.int b)) (h : 0 < b) (h2 : b < 1073741824) : Ev (tOp (rI CDiv fun i j => .int (i / j)) ta tb) σ H (.int (a / b)) := ev_op ha hb (rv_I ⟨h, h2⟩)
theorem ev_pow {a b : Int} (ha : Ev ta σ H (.int a)) (hb : Ev tb σ H (.int b)) (h : CPow a b) : Ev (tOp (rI CPow fun i j => .int (i ^ j.toNat)) ta tb) σ H (.int (a ^ b.toNat)) := ev_op ha hb (rv_I h)
end
def spTaken (K : PySem.W.Frag) : Sp := fun vs H Q _ => ∃ (r sc : Addr) (ns : List Int) (m : Int), vs = [.ref r, .int m] ∧ RowAt K r sc ns H ∧ 0 < m ∧ m < 1000000 ∧ ∀ v H', 0 ≤ v → v < m → XR K r sc ns H H' → Q (.int v) H'
theorem ok_taken (F : FnP K "_law_taken" sTaken f fd) (g : Gs mg) : FnOk P w K mg base CX0 1 f fd ["_law_row", "_law_many"] (spTaken K) := by
  refine F.ok scTaken (fun vs H Q E h => ?_) (fun cdv A outer s H vs Q E hr h => ?_)
  · obtain ⟨r, sc, ns, m, rfl, _⟩ := h
    rfl
  · obtain ⟨r, sc, ns, m, rfl, hR, m0, m1, q⟩ := h
    refine ⟨_, PSs.nox (pss_cons (ps_if (pt_cmpR op_gt (pe_ix (k_ixL (K := K) rfl) (pv 0) pe_int (fun _ _ => rfl)) pe_int (nomark _))
        (pss_cons (ps_set (i := 2) scTaken.nd rfl (.inl rfl) (pe_op op_mod (pe_callTy k_int1 (by rfl) g.int (by decide +kernel) (pa_cons (pe_ix (k_ixL (K := K) rfl) (pv 0) pe_int (fun _ _ => rfl)) pa_nil)) (pv 1)))
        (pss_cons (ps_asg (pe_op op_fdiv (pe_ix (k_ixL (K := K) rfl) (pv 0) pe_int (fun _ _ => rfl)) (pv 1)) (pg_sub (pv 0) pe_int set_list))
        (pss_one (ps_ret (pv 2))))) pss_nil)
      (pss_cons (ps_asg (pe_op op_add (pe_ix (k_ixL (K := K) rfl) (pv 0) pe_int (fun _ _ => rfl)) pe_int) (pg_sub (pv 0) pe_int set_list))
      (pss_cons (ps_if (pt_cmpR op_gt (pe_ix (k_ixL (K := K) rfl) (pv 0) pe_int (fun _ _ => rfl)) (pe_callB (k_len (K := K) rfl) (by rfl) g.len boot_len (pa_cons (pe_ix (k_ixL (K := K) rfl) (pv 0) pe_int (fun _ _ => rfl)) pa_nil)) (nomark _))
        (pss_cons (ps_asg (pe_op op_mod (pe_callTy k_int1 (by rfl) g.int (by decide +kernel) (pa_cons (pe_op op_add (pe_op op_mul (pe_ix (k_ixL (K := K) rfl) (pv 0) pe_int (fun _ _ => rfl)) pe_int) pe_int) pa_nil)) pe_int) (pg_sub (pv 0) pe_int set_list))
        (pss_one (ps_ret (pe_op op_mod (pe_callTy k_int1 (by rfl) g.int (by decide +kernel) (pa_cons (pe_op op_fdiv (pe_ix (k_ixL (K := K) rfl) (pv 0) pe_int (fun _ _ => rfl)) pe_int) pa_nil)) (pv 1))))) pss_nil)
      (pss_cons (ps_set (i := 3) scTaken.nd rfl (.inl rfl) (pe_ix (k_ixL (K := K) rfl) (pe_ix (k_ixL (K := K) rfl) (pv 0) pe_int (fun _ _ => rfl)) (pe_op op_sub (pe_ix (k_ixL (K := K) rfl) (pv 0) pe_int (fun _ _ => rfl)) pe_int) (fun _ _ => rfl)))
      (pss_cons (ps_asg (pe_op op_mod (pe_callTy k_int1 (by rfl) g.int (by decide +kernel) (pa_cons (pe_op op_add (pe_op op_add (pe_op op_mul (pe_ix (k_ixL (K := K) rfl) (pv 0) pe_int (fun _ _ => rfl)) pe_int) (pv 3)) pe_int) pa_nil)) pe_int) (pg_sub (pv 0) pe_int set_list))
      (pss_cons (ps_if (pt_cmpR op_ge (pv 3) (pe_op op_pow pe_int pe_int) (nomark _))
        (pss_one (ps_asg (pe_op op_fdiv (pv 3) (pv 1)) (pg_sub (pv 0) pe_int set_list))) pss_nil)
      (pss_one (ps_ret (pe_op op_mod (pe_callTy k_int1 (by rfl) g.int (by decide +kernel) (pa_cons (pv 3) pa_nil)) (pv 1)))))))))), ?_⟩
    have XH := XR.refl hR
    obtain ⟨hs, pos, seed, rest, hp, h0⟩ := hR
    refine q_when (b := decide (0 < rest)) (et_test (ev_op (ev_ixL (ev_var rfl) ev_c h0 (atI_nat (j := 3) rfl)) ev_c rv_I0)) (fun _ H1 e1 => ?_) fun _ H1 e1 => ?_
    · have h1 := e1 _ _ h0
      refine q_asg (v := .int (rest % m)) (ev_mod (ev_int1 (ev_ixL (ev_var rfl) ev_c h1 (atI_nat (j := 3) rfl))) (ev_var rfl) m0) fun H2 e2 => ?_
      have h2 := e2 _ _ h1
      refine q_setL (j := 3) h2 (ev_fdiv (ev_ixL (ev_var rfl) ev_c h2 (atI_nat (j := 3) rfl)) (ev_var rfl) m0 (by omega)) (ev_var rfl) ev_c (by show 3 < 4; decide) fun H3 e3 => ?_
      refine s_ret (v := .int (rest % m)) (ev_var rfl) fun H4 e4 => q _ H4 (Int.emod_nonneg _ (by omega)) (Int.emod_lt_of_pos _ m0) ?_
      exact (XH.set ((e1.trans e2).trans e3) h0 hp).ex e4
    · have h1 := e1 _ _ h0
      refine q_setL (j := 1) h1 (ev_op (ev_ixL (ev_var rfl) ev_c h1 (atI_nat (j := 1) rfl)) ev_c rv_I0) (ev_var rfl) ev_c (by show 1 < 4; decide) fun H2 e2 => ?_
      have X2 : XR K r sc ns H (upd H2 r (.lst [.ref sc, .int (pos + 1), .int seed, .int rest])) := XH.set (e1.trans e2) h0 (by omega)
      have h3 : upd H2 r (.lst [.ref sc, .int (pos + 1), .int seed, .int rest]) r = some (.lst [.ref sc, .int (pos + 1), .int seed, .int rest]) := upd_same
      show tSeq _ _ _ _ (upd H2 r (.lst [.ref sc, .int (pos + 1), .int seed, .int rest]))
      generalize upd H2 r (.lst [.ref sc, .int (pos + 1), .int seed, .int rest]) = H3 at X2 h3 ⊢
      have s3 := X2.2.1
      refine q_when (b := decide (((ns.map V.int).length : Int) < pos + 1)) (et_test (ev_op (ev_ixL (ev_var rfl) ev_c h3 (atI_nat (j := 1) rfl)) (ev_len (ev_ixL (ev_var rfl) ev_c h3 (atI_nat (j := 0) rfl)) s3) rv_I0)) (fun _ H4 e4 => ?_) fun hb H4 e4 => ?_
      · have h4 := e4 _ _ h3
        refine q_setL (j := 2) h4 (ev_mod (ev_int1 (ev_op (ev_mulR (ev_ixL (ev_var rfl) ev_c h4 (atI_nat (j := 2) rfl)) ev_c (by decide)) ev_c rv_I0)) ev_c (by decide)) (ev_var rfl) ev_c (by show 2 < 4; decide) fun H5 e5 => ?_
        have X5 := X2.set (s := (seed * 48271 + 11) % 2147483647) (q := rest) (e4.trans e5) h3 (p := pos + 1) (by omega)
        refine s_ret (ev_mod (ev_int1 (ev_fdiv (ev_ixL (ev_var rfl) ev_c upd_same (atI_nat (j := 2) rfl)) ev_c (by decide) (by decide))) (ev_var rfl) m0) fun H6 e6 => q _ H6 (Int.emod_nonneg _ (by omega)) (Int.emod_lt_of_pos _ m0) (X5.ex e6)
      · have hlen : pos + 1 ≤ ((ns.map V.int).length : Int) := by
          have := of_decide_eq_false hb
          omega
        rw [List.length_map] at hlen
        have h4 := e4 _ _ h3
        obtain ⟨c, hcell⟩ : ∃ c, ns[pos.toNat]? = some c := ⟨_, List.getElem?_eq_getElem (by omega)⟩
        refine q_asg (v := .int c) (ev_op (ev_ixL (ev_var rfl) ev_c h4 (atI_nat (j := 0) rfl)) (ev_op (ev_ixL (ev_var rfl) ev_c h4 (atI_nat (j := 1) rfl)) ev_c rv_I0) (rv_ixL (ex_l e4 s3) ?_)) fun H5 e5 => ?_
        · have e0 : pos + 1 - 1 = ((pos.toNat : Nat) : Int) := by omega
          rw [e0]
          exact atI_nat (j := pos.toNat) (by rw [List.getElem?_map, hcell] <;> rfl)
        · have h5 := e5 _ _ h4
          refine q_setL (j := 2) h5 (ev_mod (ev_int1 (ev_op (ev_op (ev_mulR (ev_ixL (ev_var rfl) ev_c h5 (atI_nat (j := 2) rfl)) ev_c (by decide)) (ev_var rfl) rv_I0) ev_c rv_I0)) ev_c (by decide)) (ev_var rfl) ev_c (by show 2 < 4; decide) fun H6 e6 => ?_
          have X6 := X2.set (s := (seed * 48271 + c + 11) % 2147483647) (q := rest) ((e4.trans e5).trans e6) h3 (p := pos + 1) (by omega)
          have h6 : upd H6 r (.lst [.ref sc, .int (pos + 1), .int ((seed * 48271 + c + 11) % 2147483647), .int rest]) r = some (.lst [.ref sc, .int (pos + 1), .int ((seed * 48271 + c + 11) % 2147483647), .int rest]) := upd_same
          show tSeq _ _ _ _ (upd H6 r (.lst [.ref sc, .int (pos + 1), .int ((seed * 48271 + c + 11) % 2147483647), .int rest]))
          generalize upd H6 r (.lst [.ref sc, .int (pos + 1), .int ((seed * 48271 + c + 11) % 2147483647), .int rest]) = H7 at X6 h6 ⊢
          refine q_when (b := decide ((10 : Int) ^ (18 : Int).toNat ≤ c)) (et_test (ev_op (ev_var rfl) (ev_pow ev_c ev_c ⟨by decide, by decide, by decide⟩) rv_I0)) (fun _ H8 e8 => ?_) fun _ H8 e8 => ?_
          · refine s_setL (j := 3) (e8 _ _ h6) (ev_fdiv (ev_var rfl) (ev_var rfl) m0 (by omega)) (ev_var rfl) ev_c (by show 3 < 4; decide) fun H9 e9 => ?_
            have X9 := X6.set (s := (seed * 48271 + c + 11) % 2147483647) (q := c / m) (e8.trans e9) h6 (p := pos + 1) (by omega)
            exact s_ret (ev_mod (ev_int1 (ev_var rfl)) (ev_var rfl) m0) fun H10 e10 => q _ H10 (Int.emod_nonneg _ (by omega)) (Int.emod_lt_of_pos _ m0) (X9.ex e10)
          · exact s_ret (ev_mod (ev_int1 (ev_var rfl)) (ev_var rfl) m0) fun H10 e10 => q _ H10 (Int.emod_nonneg _ (by omega)) (Int.emod_lt_of_pos _ m0) (X6.ex (e8.trans e10))
end
end K6
set_option Elab.async false
set_option linter.all false
set_option maxRecDepth 100000
set_option maxHeartbeats 4000000
/-! _law_pick, _law_alike, _law_jobs. -/
namespace K6
open PySem PySem.Spec PyProof.Rows L2 Evl
section
variable {X : Cx}
/-- sum(xs) of a tuple of ints -/
def rSumT (K : PySem.W.Frag) : List V → Hp → VK → Prop := fun vs H Q => ∃ (a : Addr) (ns : List Int), vs = [V.ref a] ∧ SqT K H a (ns.map V.int) ∧ Q (.int ns.sum) H
theorem cr_sumT (hc : X.calm = true) : CallR X (.builtin "sum") (rSumT X.K) := by
  intro pins s σ H vs us Q I r h
  obtain ⟨a, ns, rfl, hs, q⟩ := h
  obtain ⟨its, rv, hl, _⟩ := I.tuple hs
  rw [Vals.ref1 r]
  have hl : s.heap.IsTuple a its.toArray := hl
  have hi := rv.ints
  obtain ⟨xs, e⟩ := hi.allInts.items
  have hn : numsOf (intItems xs).toList = ns := by rw [← e]; exact hi.numsOf
  rw [nums_intItems] at hn
  rw [e] at hl
  refine PySem.W.ktm_sumG (I.ok.hd hc) hl fun h' tk t' hk => ?_
  have := (⟨.int ns.sum, H, I.kept hk, ⟨t', rfl⟩, q⟩ : EP X pins σ Q (.int ns.sum t') { s with heap := h', toks := tk })
  rw [preSum_eq, List.take_of_length_le (by simp), hn]
  exact this
theorem k_sumT {K : PySem.W.Frag} (hK : X.K = K) (hc : X.calm = true) : CallR X (.builtin "sum") (rSumT K) := by subst hK; exact cr_sumT hc
end
section
variable {K : PySem.W.Frag} {r sc : Addr} {ns : List Int} {σ : L2.St} {H : Hp} {ta tb te : TE} {D : Ends} {tz : TS}
theorem s_retRaw (h : te σ H D.rt) : tRet te D σ H := h
theorem t_opRaw {R : R2} {x : V} {Q : VK} (ha : Ev ta σ H x) (hb : ∀ H1, Ex H H1 → tb σ H1 fun y H2 => R x y H2 Q) : tOp R ta tb σ H Q := ha H (Ex.refl _) _ hb
theorem ta_2L {x : V} {xs : List V} {Q : List V → Hp → Prop} (ha : Ev ta σ H x) (hb : EvL tb σ H xs) (q : ∀ p H1, H p = none → Ex H H1 → H1 p = some (.lst xs) → Q [x, .ref p] H1) : tCons ta (tCons tb tNil) σ H Q :=
  ha H (Ex.refl _) _ fun H1 e1 => hb H1 e1 _ fun p H2 hp e2 h2 => q p H2 (fresh_back e1 hp) (e1.trans e2) h2
theorem ev_cbU {R : List V → Hp → VK → Prop} {x z : V} {xs : List V} (ha : Ev ta σ H x) (hb : EvU tb σ H xs) (hr : ∀ p H1, H1 p = some (.tup xs) → Ex H H1 → RC R [x, .ref p] H1 z) : Ev (tCB R (tCons ta (tCons tb tNil))) σ H z := fun H1 e Q q =>
  ha H1 e _ fun H2 e2 => hb H2 (e.trans e2) _ fun p H3 _ e3 hp => hr p H3 hp ((e.trans e2).trans e3) H3 (Ex.refl _) Q fun H4 e4 => q H4 ((e2.trans e3).trans e4)
theorem tc_taken {i : Nat} {m : Int} {E : XK} {Q : VK} (hv : σ[i]? = some (some (.ref r))) (hm : Ev te σ H (.int m)) (hR : RowAt K r sc ns H) (m0 : 0 < m) (m1 : m < 1000000) (q : ∀ v H', 0 ≤ v → v < m → XR K r sc ns H H' → Q (.int v) H') :
    tCall (spTaken K) [] E (tCons (tVar i) (tCons te tNil)) σ H Q := ea_2 (ev_var hv) hm H (Ex.refl _) _ fun H1 e1 => ⟨r, sc, ns, m, rfl, hR.ex e1, m0, m1, fun v H' h1 h2 x => q v H' h1 h2 (XR.trans (hR.xr e1) x)⟩
end
section
variable {P : Program} {w : World} {K : PySem.W.Frag} {mg : Str → Option Value} {base : Heap} {f : Addr} {fd : FuncData}
def spPick (K : PySem.W.Frag) : Sp := fun vs H Q _ => ∃ (r sc l : Addr) (ns : List Int) (xs : List V), vs = [.ref r, .ref l] ∧ RowAt K r sc ns H ∧ H l = some (.lst xs) ∧ l ≠ r ∧ 0 < xs.length ∧ xs.length < 1000 ∧ ∀ x H', x ∈ xs → XR K r sc ns H H' → Q x H'
theorem ok_pick (F : FnP K "_law_pick" sPick f fd) (g : Gs mg) (CT : Cal P w K mg base "_law_taken" 1 ["_law_row", "_law_many"] (spTaken K)) : FnOk P w K mg base CX0 2 f fd ["_law_row", "_law_things"] (spPick K) := by
  refine F.ok scPick (fun vs H Q E h => ?_) (fun cdv A outer s H vs Q E hr h => ?_)
  · obtain ⟨r, sc, l, ns, xs, rfl, _⟩ := h
    rfl
  · obtain ⟨r, sc, l, ns, xs, rfl, hR, hl, nl, l0, l1, q⟩ := h
    refine ⟨_, PSs.nox (pss_one (ps_ret (pe_ix (k_ixL (K := K) rfl) (pv 1) (pe_cal CT hr (pa_cons (pv 0) (pa_cons (pe_callB (k_len (K := K) rfl) (by rfl) g.len boot_len (pa_cons (pv 1) pa_nil)) pa_nil))) (fun _ _ => rfl)))), ?_⟩
    refine s_retRaw (t_opRaw (ev_var rfl) fun H1 e1 => tc_taken (m := (xs.length : Int)) rfl (ev_cb (ea_1 (ev_var rfl)) (rc_lenL (e1 _ _ hl))) (hR.ex e1) (by omega) (by omega) fun v H2 v0 v1 x2 => ?_)
    obtain ⟨j, rfl⟩ : ∃ j : Nat, v = (j : Int) := ⟨v.toNat, by omega⟩
    have hj : j < xs.length := by omega
    exact ⟨l, xs, _, _, rfl, rfl, sq_of (x2.1 _ _ nl (e1 _ _ hl)), atI_nat (j := j) (List.getElem?_eq_getElem hj), q _ H2 (List.getElem_mem hj) (XR.trans (hR.xr e1) x2)⟩
theorem ne_row {K : PySem.W.Frag} {r sc l : Addr} {ns : List Int} {H : Hp} (hR : RowAt K r sc ns H) (hn : H l = none) : l ≠ r := by
  obtain ⟨_, p, s, q, _, h3⟩ := hR
  intro z
  rw [z, h3] at hn
  cases hn
theorem tc_pick {r sc : Addr} {ns : List Int} {σ : L2.St} {H : Hp} {tl : TE} {i : Nat} {xs : List V} {E : XK} {Q : VK} (hv : σ[i]? = some (some (.ref r))) (hl : EvL tl σ H xs) (hR : RowAt K r sc ns H) (l0 : 0 < xs.length) (l1 : xs.length < 1000) (q : ∀ x H', x ∈ xs → XR K r sc ns H H' → Q x H') :
    tCall (spPick K) [] E (tCons (tVar i) (tCons tl tNil)) σ H Q := ta_2L (ev_var hv) hl fun l H2 hn e2 h2 => ⟨r, sc, l, ns, xs, rfl, hR.ex e2, h2, ne_row hR hn, l0, l1, fun x H' hx x2 => q x H' hx (XR.trans (hR.xr e2) x2)⟩
def spAlike : Sp := fun vs H Q _ => ∃ i : Int, vs = [.int i, .int i] ∧ ∀ H', Ex H H' → Q (.bl true) H'
theorem et_isInt {σ : L2.St} {H : Hp} {te : TE} {i : Int} (h : Ev te σ H (.int i)) : EvT (tB (tIsN te)) σ H false := fun H1 e Q q =>
  h H1 e _ fun H2 e2 => ⟨false, congrArg V.bl (decide_eq_false (fun z => nomatch z)), q H2 e2⟩
theorem rc_isiTI {K : PySem.W.Frag} {i : Int} {p : Addr} {H : Hp} (h : H p = some (.tup [.ty "tuple", .ty "list"])) : RC (rIsiT K) [.int i, .ref p] H (.bl false) := fun H1 e Q q =>
  ⟨.int i, p, [.ty "tuple", .ty "list"], .type "int", [.type "tuple", .type "list"], false, rfl, e _ _ h, .cons (.ty _) (.cons (.ty _) .nil), .base (.int i), kitAny_cons (b := false) (kit_ty (by decide +kernel)) (fun _ => kitAny_cons (b := false) (kit_ty (by decide +kernel)) (fun _ => kitAny_nil) (fun z => nomatch z)) (fun z => nomatch z), q H1 (Ex.refl _)⟩
theorem ok_alike (F : FnP K "_law_alike" sAlike f fd) (g : Gs mg) : FnOk P w K mg base CX0 1 f fd ["_law_found", "_law_due"] spAlike := by
  refine F.ok scAlike (fun vs H Q E h => ?_) (fun cdv A outer s H vs Q E hr h => ?_)
  · obtain ⟨i, rfl, _⟩ := h
    rfl
  · obtain ⟨i, rfl, q⟩ := h
    refine ⟨_, PSs.nox (pss_cons (ps_if (pt_val (pe_callB call_isiT (by rfl) g.isinstance (by decide +kernel) (pa_cons (pv 1) (pa_cons (pe_tup (pa_cons (pe_bltn (v := .ty "tuple") (by rfl) g.tuple (by decide +kernel) rfl) (pa_cons (pe_bltn (v := .ty "list") (by rfl) g.list (by decide +kernel) rfl) pa_nil))) pa_nil)))) pss_never pss_nil)
      (pss_cons (ps_if (PW.pt (pw_or (pt_cmp (pc_isN (pv 1)) rfl) (pw_or1 (pt_val (pe_callB call_isi (by rfl) g.isinstance (by decide +kernel) (pa_cons (pv 1) (pa_cons (pe_bltn (v := .ty "str") (by rfl) g.str (by decide +kernel) rfl) pa_nil))))))) pss_never pss_nil)
      (pss_one (ps_ret (pe_and (pe_callB call_isi (by rfl) g.isinstance (by decide +kernel) (pa_cons (pv 0) (pa_cons (pe_bltn (v := .ty "int") (by rfl) g.int (by decide +kernel) rfl) pa_nil)))
        (pe_and (pe_cmpR op_eq (pe_callB call_isi (by rfl) g.isinstance (by decide +kernel) (pa_cons (pv 0) (pa_cons (pe_bltn (v := .ty "bool") (by rfl) g.bool (by decide +kernel) rfl) pa_nil))) (pe_callB call_isi (by rfl) g.isinstance (by decide +kernel) (pa_cons (pv 1) (pa_cons (pe_bltn (v := .ty "bool") (by rfl) g.bool (by decide +kernel) rfl) pa_nil))) (nomark _))
        (pe_one (pe_cmpR op_eq (pv 0) (pv 1) (nomark _))))))))), ?_⟩
    refine q_when (b := false) (et_B (ev_cbU (ev_var rfl) (eu_tup (ea_2 ev_c ev_c) (by show 2 ≤ 100000; decide)) fun p H1 h _ => rc_isiTI h)) (fun z => nomatch z) fun _ H1 e1 => ?_
    refine q_when (b := false) (et_or (a := false) (b := false) (et_isInt (ev_var rfl)) fun _ => et_B (ev_cb (ea_2 (ev_var rfl) ev_c) (rc_isiI (by decide +kernel)))) (fun z => nomatch z) fun _ H2 e2 => ?_
    refine s_ret (ev_andV (a := true) (b := true) (ev_cb (ea_2 (ev_var rfl) ev_c) (rc_isiI (by decide +kernel))) fun _ => ev_andV (a := true) (b := true)
      (ev_is (ev_op (x := .bl false) (y := .bl false) (ev_cb (ea_2 (ev_var rfl) ev_c) (rc_isiI (by decide +kernel))) (ev_cb (ea_2 (ev_var rfl) ev_c) (rc_isiI (by decide +kernel))) (rv_eq rfl)) (by rfl)) fun _ => ev_is (ev_op (ev_var rfl) (ev_var rfl) (rv_eq rfl)) (congrArg V.bl (decide_eq_true rfl))) fun H3 e3 => q H3 ((e1.trans e2).trans e3)
end
end K6
set_option Elab.async false
set_option linter.all false
set_option maxRecDepth 100000
set_option maxHeartbeats 4000000
/-! _law_jobs. -/
namespace K6
open PySem PySem.Spec PyProof.Rows L2 Evl
section
variable {K : PySem.W.Frag} {r sc : Addr} {ns : List Int} {σ : L2.St} {H : Hp} {ta : TA} {te : TE} {D : Ends} {tz : TS}
/-- a comprehension over range(n) whose items are taken from the row -/
theorem lc_row {j n : Nat} {vs : List Nat} {lo hi : Int} {Q : VK} (h : EvA ta σ H [nv n]) (hn : n ≤ 1000) (hR : RowAt K r sc ns H) (hw : ∀ i : Nat, wipe ((wipe σ vs).set j (some (nv i))) vs = wipe σ vs)
    (he : ∀ (i : Nat) H1, XR K r sc ns H H1 → ∀ Q' : VK, (∀ v H2, lo ≤ v → v ≤ hi → XR K r sc ns H1 H2 → Q' (.int v) H2) → te ((wipe σ vs).set j (some (nv i))) H1 Q')
    (q : ∀ p H' ws, H p = none → XR K r sc ns H H' → H' p = some (.lst (il ws)) → ws.length = n → (∀ z ∈ ws, lo ≤ z ∧ z ≤ hi) → Q (.ref p) H') : tLc (iRng1 ta) (gName j) tYes te vs σ H Q :=
  h H (Ex.refl _) _ fun H2 e2 => ⟨(n : Nat), rfl, by omega, by omega, fun Dl hD => by
    have hD0 : H Dl = none := fresh_back e2 hD
    have nD : Dl ≠ r := ne_row hR hD0
    refine lc_it (walk_range (lo := 0) (n := n)) (Qd := fun H' => Q (.ref Dl) H') (fun i H' => ∃ ws : List Int, XR K r sc ns H H' ∧ H' Dl = some (.lst (il ws)) ∧ ws.length = i ∧ ∀ z ∈ ws, lo ≤ z ∧ z ≤ hi) ⟨[], (hR.xr e2).ex (Ex.new hD), upd_same, rfl, fun z hz => by cases hz⟩ (fun i H' _ p => trivial) (fun i x H3 H4 hi p y => ?_) (fun H' p => ?_)
    · obtain ⟨ws, p1, p2, p3, p4⟩ := p
      obtain ⟨y1, y2⟩ := y
      subst y1
      have y3 : x = V.int (0 + (i : Int)) := y2
      rw [Int.zero_add] at y3
      subst y3
      refine ⟨hw i, et_yes _ (Ex.refl _) _ fun H5 e5 => ?_⟩
      simp only [if_true]
      have p5 := p1.ex e5
      refine he i H5 p5 _ fun v H6 v0 v1 x6 => ?_
      have h6 := x6.1 _ _ nD (e5 _ _ p2)
      refine ⟨il ws, h6, sz_lt (by rw [List.length_map]; omega), ws ++ [v], ⟨fun a o na ha => ?_, ?_⟩, ?_, by rw [List.length_append, p3] <;> rfl, fun z hz => ?_⟩
      · rw [upd_ne (ne_of_none ha hD0)]
        exact (XR.trans p5 x6).1 a o na ha
      · obtain ⟨s1, pp, ss, rr, s2, s3⟩ := x6.2
        refine ⟨?_, pp, ss, rr, s2, by rw [upd_ne (Ne.symm nD)]; exact s3⟩
        have hs := hR.1
        rcases hs with (hs | ⟨ob, hs⟩) | hs
        · have e : sc ≠ r := fun z => by
            obtain ⟨_, a1, a2, a3, _, a4⟩ := hR
            rw [z, a4] at hs
            have := HO.lst.inj (Option.some.inj hs)
            cases ns with
            | nil => cases this
            | cons x t => cases (List.cons.inj this).1
          refine .inl (.inl ?_)
          rw [upd_ne (ne_of_none hs hD0)]
          exact (XR.trans p5 x6).1 _ _ e hs
        · have e : sc ≠ r := fun z => by
            obtain ⟨_, a1, a2, a3, _, a4⟩ := hR
            rw [z, a4] at hs
            cases hs
          refine .inl (.inr ⟨ob, ?_⟩)
          rw [upd_ne (ne_of_none hs hD0)]
          exact (XR.trans p5 x6).1 _ _ e hs
        · exact .inr hs
      · rw [upd_same, il, il, List.map_append]
        rfl
      · rcases List.mem_append.mp hz with hz | hz
        · exact p4 z hz
        · rw [List.mem_singleton.mp hz]
          exact ⟨v0, v1⟩
    · obtain ⟨ws, p1, p2, p3, p4⟩ := p
      exact q Dl H' ws hD0 p1 p2 p3 p4⟩
theorem s_asgCB1 {R : List V → Hp → VK → Prop} {i : Nat} (h : te σ H fun v H1 => R [v] H1 fun z H2 => tz D (σ.set i (some z)) H2) : tSeq (tAsg (tCB R (tCons te tNil)) (gName i)) tz D σ H := h
theorem q_tupRow {i j n : Nat} {vs : List Nat} {lo hi : Int} (h : EvA ta σ H [nv n]) (hn : n ≤ 1000) (hR : RowAt K r sc ns H) (hw : ∀ i : Nat, wipe ((wipe σ vs).set j (some (nv i))) vs = wipe σ vs)
    (he : ∀ (i : Nat) H1, XR K r sc ns H H1 → ∀ Q' : VK, (∀ v H2, lo ≤ v → v ≤ hi → XR K r sc ns H1 H2 → Q' (.int v) H2) → te ((wipe σ vs).set j (some (nv i))) H1 Q')
    (k : ∀ p H' ws, XR K r sc ns H H' → H' p = some (.tup (il ws)) → ws.length = n → (∀ z ∈ ws, lo ≤ z ∧ z ≤ hi) → tz D (σ.set i (some (.ref p))) H') :
    tSeq (tAsg (tCB (rTupOf K) (tCons (tLc (iRng1 ta) (gName j) tYes te vs) tNil)) (gName i)) tz D σ H :=
  s_asgCB1 <| lc_row h hn hR hw he fun p H' ws hp x hx hl ha => ⟨p, il ws, rfl, .inl ⟨sq_of hx, fun l hn => k l _ ws (x.ex (Ex.new hn)) upd_same hl ha⟩⟩
theorem q_asg3 {A1 A2 A3 : TE} {G : TGs} (h : A1 σ H fun x H1 => A2 σ H1 fun y H2 => A3 σ H2 fun z H3 => ([x, y, z].length ≤ sizeLine ∧ ∀ T, H3 T = none → gTup K 3 G (.ref T) σ (upd H3 T (.tup [x, y, z])) (tz D))) : tSeq (tAsg (tTup (tCons A1 (tCons A2 (tCons A3 tNil)))) (gTup K 3 G)) tz D σ H := h
end
theorem sum_bound {b : Int} : ∀ {ts : List Int}, (∀ z ∈ ts, 1 ≤ z ∧ z ≤ b) → 0 ≤ ts.sum ∧ ts.sum ≤ b * ts.length
  | [], _ => by
    show (0 : Int) ≤ 0 ∧ (0 : Int) ≤ b * ((0 : Nat) : Int)
    omega
  | a :: r, h => by
    obtain ⟨h1, h2⟩ := sum_bound (ts := r) fun z hz => h z (List.mem_cons_of_mem _ hz)
    obtain ⟨h3, h4⟩ := h a List.mem_cons_self
    rw [List.sum_cons, List.length_cons, Int.natCast_add, Int.mul_add]
    omega
theorem il_fl (ts : List Int) (d : Int) : il ts = fl ts.length fun j => ts.getD j d := by
  refine List.ext_getElem? fun k => ?_
  by_cases hk : k < ts.length
  · rw [get_fl hk, List.getElem?_map, List.getElem?_eq_getElem hk, List.getD_eq_getElem?_getD, List.getElem?_eq_getElem hk]
    rfl
  · rw [List.getElem?_eq_none (by rw [List.length_map]; omega), List.getElem?_eq_none (by rw [fl_len]; omega)]
theorem getD_in {ts : List Int} {lo hi d : Int} (h : ∀ z ∈ ts, lo ≤ z ∧ z ≤ hi) (hd : lo ≤ d ∧ d ≤ hi) (j : Nat) : lo ≤ ts.getD j d ∧ ts.getD j d ≤ hi := by
  rw [List.getD_eq_getElem?_getD]
  by_cases hk : j < ts.length
  · rw [List.getElem?_eq_getElem hk]
    exact h _ (List.getElem_mem hk)
  · rw [List.getElem?_eq_none (by omega)]
    exact hd
section
variable {P : Program} {w : World} {K : PySem.W.Frag} {mg : Str → Option Value} {base : Heap} {f : Addr} {fd : FuncData}
def spJobs (K : PySem.W.Frag) : Sp := fun vs H Q _ => ∃ (r sc : Addr) (ns : List Int), vs = [.ref r, .int 5, .int 9] ∧ RowAt K r sc ns H ∧
  ∀ T a b c n t w d H', H' T = some (.tup [.ref a, .ref b, .ref c]) → Ins H' a b c n t w d → n ≤ 5 → XR K r sc ns H H' → Q (.ref T) H'
theorem ok_jobs (F : FnP K "_law_jobs" sJobs f fd) (g : Gs mg) (CT : Cal P w K mg base "_law_taken" 1 ["_law_row", "_law_many"] (spTaken K)) (CP : Cal P w K mg base "_law_pick" 2 ["_law_row", "_law_things"] (spPick K)) :
    FnOk P w K mg base CX0 3 f fd ["_law_row", "_law_most", "_law_time"] (spJobs K) := by
  refine F.ok scJobs (fun vs H Q E h => ?_) (fun cdv A outer s H vs Q E hr h => ?_)
  · obtain ⟨r, sc, ns, rfl, _⟩ := h
    rfl
  · obtain ⟨r, sc, ns, rfl, hR, q⟩ := h
    refine ⟨_, PSs.nox (pss_cons (ps_asg (pe_tup (pa_cons (pe_op op_add pe_int (pe_cal CT (hr.mono (by decide)) (pa_cons (pv 0) (pa_cons (pv 1) pa_nil)))) (pa_cons (pe_cal CP hr (pa_cons (pv 0) (pa_cons (pe_lst (pa_cons pe_int (pa_cons (pv 2) pa_nil))) pa_nil)))
        (pa_cons (pe_cal CP hr (pa_cons (pv 0) (pa_cons (pe_lst (pa_cons pe_int (pa_cons pe_int (pa_cons pe_int pa_nil)))) pa_nil))) pa_nil))))
        (pg_tup rfl (pgs_cons (pg_name (i := 3) scJobs.nd rfl (.inl rfl)) (pgs_cons (pg_name (i := 4) scJobs.nd rfl (.inr rfl)) (pgs_cons (pg_name (i := 5) scJobs.nd rfl (.inr rfl)) pgs_nil)))))
      (pss_cons (ps_set (i := 6) scJobs.nd rfl (.inl rfl) (pe_callTy (k_tuple (K := K) rfl) (by rfl) g.tuple (by decide +kernel) (pa_cons
        (pe_lc (own := [("_law_at", 10)]) (g := gName 10) (by rfl) scJobs.nd (pi_range1 (by rfl) g.range (pa_cons (pv 3) pa_nil)) (blkOk_by (N := nJobs) (sc := defScope sJobs) (by decide +kernel))
          (fun _ _ _ _ _ => pg_name (i := 10) scJobs.nd rfl (.inl rfl)) (fun _ _ _ _ _ => pts_nil) (fun _ _ _ _ _ => pe_op op_add pe_int (pe_cal CT (hr.mono (by decide)) (pa_cons (pv 0) (pa_cons (pv 4) pa_nil))))) pa_nil)))
      (pss_cons (ps_set (i := 7) scJobs.nd rfl (.inl rfl) (pe_callTy (k_tuple (K := K) rfl) (by rfl) g.tuple (by decide +kernel) (pa_cons
        (pe_lc (own := [("_law_at", 10)]) (g := gName 10) (by rfl) scJobs.nd (pi_range1 (by rfl) g.range (pa_cons (pv 3) pa_nil)) (blkOk_by (N := nJobs) (sc := defScope sJobs) (by decide +kernel))
          (fun _ _ _ _ _ => pg_name (i := 10) scJobs.nd rfl (.inl rfl)) (fun _ _ _ _ _ => pts_nil) (fun _ _ _ _ _ => pe_cal CT (hr.mono (by decide)) (pa_cons (pv 0) (pa_cons (pe_op op_add (pv 5) pe_int) pa_nil)))) pa_nil)))
      (pss_cons (ps_set (i := 8) scJobs.nd rfl (.inr rfl) (pe_op op_add (pe_callB (k_sumT (K := K) rfl rfl) (by rfl) g.sum (by decide +kernel) (pa_cons (pv 6) pa_nil)) pe_int))
      (pss_cons (ps_set (i := 9) scJobs.nd rfl (.inl rfl) (pe_callTy (k_tuple (K := K) rfl) (by rfl) g.tuple (by decide +kernel) (pa_cons
        (pe_lc (own := [("_law_at", 10)]) (g := gName 10) (by rfl) scJobs.nd (pi_range1 (by rfl) g.range (pa_cons (pv 3) pa_nil)) (blkOk_by (N := nJobs) (sc := defScope sJobs) (by decide +kernel))
          (fun _ _ _ _ _ => pg_name (i := 10) scJobs.nd rfl (.inl rfl)) (fun _ _ _ _ _ => pts_nil) (fun _ _ _ _ _ => pe_cal CT (hr.mono (by decide)) (pa_cons (pv 0) (pa_cons (pv 8) pa_nil)))) pa_nil)))
      (pss_one (ps_ret (pe_tup (pa_cons (pv 6) (pa_cons (pv 7) (pa_cons (pv 9) pa_nil))))))))))), ?_⟩
    refine q_asg3 (t_opRaw ev_c fun H1 e1 => tc_taken (m := 5) rfl (ev_var rfl) (hR.ex e1) (by decide) (by decide) fun v H2 v0 v1 x2 => ⟨1, v, rfl, rfl, ?_⟩)
    refine tc_pick (xs := [.int 2, .int 9]) rfl (el_lst (ea_2 ev_c (ev_var rfl)) (by decide)) x2.2 (by decide) (by decide) fun y3 H3 hy3 x3 => ?_
    refine tc_pick (xs := [.int 1, .int 3, .int 9]) rfl (el_lst (ea_3 ev_c ev_c ev_c) (by decide)) x3.2 (by decide) (by decide) fun y4 H4 hy4 x4 => ⟨by show 3 ≤ sizeLine; decide, fun T hT => g_three upd_same ?_⟩
    obtain ⟨n, hn⟩ : ∃ n : Nat, (n : Int) = 1 + v := ⟨(1 + v).toNat, by omega⟩
    obtain ⟨tp, rfl, tp0, tp1⟩ : ∃ tp, y3 = V.int tp ∧ 2 ≤ tp ∧ tp ≤ 9 := by
      rcases List.mem_cons.mp hy3 with z | z
      · exact ⟨2, z, by decide, by decide⟩
      · exact ⟨9, List.mem_singleton.mp z, by decide, by decide⟩
    obtain ⟨wd, rfl, wd0, wd1⟩ : ∃ wd, y4 = V.int wd ∧ 1 ≤ wd ∧ wd ≤ 9 := by
      rcases List.mem_cons.mp hy4 with z | z
      · exact ⟨1, z, by decide, by decide⟩
      · rcases List.mem_cons.mp z with z | z
        · exact ⟨3, z, by decide, by decide⟩
        · exact ⟨9, List.mem_singleton.mp z, by decide, by decide⟩
    dsimp only
    rw [← hn]
    have x14 : XR K r sc ns H (upd H4 T (.tup [nv n, .int tp, .int wd])) := ((XR.trans (hR.xr e1) (XR.trans x2 (XR.trans x3 x4))).ex (Ex.new hT))
    generalize upd H4 T (.tup [nv n, .int tp, .int wd]) = H5 at x14 ⊢
    refine q_tupRow (lo := 1) (hi := 9) (n := n) (ea_1 (ev_var rfl)) (by omega) x14.2 (fun i => rfl) (fun i H6 x6 Q' q' => t_opRaw ev_c fun H7 e7 => tc_taken (m := tp) rfl (ev_var rfl) (x6.2.ex e7) (by omega) (by omega) fun v H8 v0 v1 x8 => ⟨1, v, rfl, rfl, q' _ H8 (by omega) (by omega) (XR.trans (x6.2.xr e7) x8)⟩) fun a H6 ts x6 ha la ba => ?_
    refine q_tupRow (lo := 0) (hi := 60) (n := n) (ea_1 (ev_var rfl)) (by omega) x6.2 (fun i => rfl) (fun i H7 x7 Q' q' => tc_taken (m := wd + 1) rfl (ev_op (ev_var rfl) ev_c rv_I0) x7.2 (by omega) (by omega) fun v H8 v0 v1 x8 => q' _ H8 (by omega) (by omega) x8) fun b H7 ws x7 hb lb bb => ?_
    have nr : ∀ {x : Addr} {xs : List V} {H : Hp}, RowAt K r sc ns H → H x = some (.tup xs) → x ≠ r := fun {x xs H} hR hx z => by
      obtain ⟨_, _, _, _, _, h3⟩ := hR
      rw [z, h3] at hx
      cases hx
    have ha7 := x7.1 _ _ (nr x6.2 ha) ha
    refine q_asg (v := .int (ts.sum + 2)) (ev_op (ev_cb (ea_1 (ev_var rfl)) fun H8 e8 Q q => ⟨a, ts, rfl, st_of (e8 _ _ ha7), q H8 (Ex.refl _)⟩) ev_c rv_I0) fun H8 e8 => ?_
    obtain ⟨sm0, sm1⟩ := sum_bound ba
    have x8 := (XR.trans x6 x7).ex e8
    refine q_tupRow (lo := 0) (hi := 600) (n := n) (ea_1 (ev_var rfl)) (by omega) x8.2 (fun i => rfl) (fun i H9 x9 Q' q' => tc_taken (m := ts.sum + 2) rfl (ev_var rfl) x9.2 (by omega) (by omega) fun v H10 v0 v1 x10 => q' _ H10 (by omega) (by omega) x10) fun c H9 ds x9 hc lc bc => ?_
    have ha9 := x9.1 _ _ (nr x8.2 (e8 _ _ ha7)) (e8 _ _ ha7)
    have hb9 := x9.1 _ _ (nr x8.2 (e8 _ _ hb)) (e8 _ _ hb)
    refine s_retU (eu_tup (ea_3 (ev_var rfl) (ev_var rfl) (ev_var rfl)) (by show 3 ≤ 100000; decide)) fun T2 H10 hT2 e10 h10 => ?_
    rw [il_fl ts 1, la] at ha9
    rw [il_fl ws 0, lb] at hb9
    rw [il_fl ds 0, lc] at hc
    exact q T2 a b c n _ _ _ H10 h10 ⟨e10 _ _ ha9, e10 _ _ hb9, e10 _ _ hc, by omega, by omega, fun j => by have := getD_in (d := 1) ba (by decide) j; omega, getD_in (d := 0) bb (by decide), getD_in (d := 0) bc (by decide)⟩ (by omega) ((XR.trans x14 (XR.trans x8 x9)).ex e10)
end
end K6
set_option Elab.async false
set_option linter.all false
set_option maxRecDepth 100000
set_option maxHeartbeats 4000000
/-! _law_order, _law_pairs. -/
namespace K6
open PySem PySem.Spec PyProof.Rows L2 Evl
theorem erase_perm {α : Type} : ∀ {xs : List α} {k : Nat} {y : α}, xs[k]? = some y → (y :: xs.eraseIdx k).Perm xs
  | [], k, y, h => by simp at h
  | x :: r, 0, y, h => by
    have e : x = y := by simpa using h
    rw [e]
    exact .refl _
  | x :: r, k + 1, y, h => by
    have e : r[k]? = some y := by simpa using h
    exact (List.Perm.swap x y (r.eraseIdx k)).trans ((erase_perm e).cons x)
theorem jl_erase : ∀ (o : List Nat) (k : Nat), (jl o).eraseIdx k = jl (o.eraseIdx k)
  | [], k => by simp [jl]
  | x :: r, 0 => rfl
  | x :: r, k + 1 => congrArg (nv x :: ·) (jl_erase r k)
section
variable {K : PySem.W.Frag} {r sc : Addr} {ns : List Int} {σ : L2.St} {H H' : Hp} {ta tb te : TE} {D : Ends} {tz tu tw : TS}
/-- an object that H does not know may change -/
theorem XR.mut {p : Addr} {o : HO} (hR : RowAt K r sc ns H) (a : XR K r sc ns H H') (h : H p = none) : XR K r sc ns H (upd H' p o) := by
  have nD : p ≠ r := ne_row hR h
  refine ⟨fun x u n hx => ?_, ?_⟩
  · rw [upd_ne (ne_of_none hx h)]
    exact a.1 x u n hx
  · obtain ⟨s1, pp, ss, rr, s2, s3⟩ := a.2
    refine ⟨?_, pp, ss, rr, s2, by rw [upd_ne (Ne.symm nD)]; exact s3⟩
    have hs := hR.1
    rcases hs with (hs | ⟨ob, hs⟩) | hs
    · have e : sc ≠ r := fun z => by
        obtain ⟨_, a1, a2, a3, _, a4⟩ := hR
        rw [z, a4] at hs
        have := HO.lst.inj (Option.some.inj hs)
        cases ns with
        | nil => cases this
        | cons x t => cases (List.cons.inj this).1
      refine .inl (.inl ?_)
      rw [upd_ne (ne_of_none hs h)]
      exact a.1 _ _ e hs
    · have e : sc ≠ r := fun z => by
        obtain ⟨_, a1, a2, a3, _, a4⟩ := hR
        rw [z, a4] at hs
        cases hs
      refine .inl (.inr ⟨ob, ?_⟩)
      rw [upd_ne (ne_of_none hs h)]
      exact a.1 _ _ e hs
    · exact .inr hs
theorem XR.fresh {p : Addr} (hR : RowAt K r sc ns H) (a : XR K r sc ns H H') (h : H' p = none) : H p = none := by
  cases e : H p with
  | none => rfl
  | some u =>
    by_cases hp : p = r
    · obtain ⟨_, _, _, _, _, h3⟩ := a.2
      rw [hp, h3] at h
      cases h
    · rw [a.1 p u hp e] at h
      cases h
/-- found.append(left.pop(taken(row, many))) -/
theorem s_popTk {i j k : Nat} {lf fo : Addr} {left found : List Nat} {E : XK} (hv : σ[i]? = some (some (.ref r))) (hj : σ[j]? = some (some (.ref lf))) (hk : σ[k]? = some (some (.ref fo))) (hR : RowAt K r sc ns H) (hl : H lf = some (.lst (jl left))) (hf : H fo = some (.lst (jl found))) (n1 : lf ≠ r) (n2 : fo ≠ r) (n3 : lf ≠ fo)
    (hm : Ev te σ H (nv left.length)) (l0 : 0 < left.length) (l1 : left.length < 1000) (l2 : found.length < 1000)
    (q : ∀ x y H', left[x]? = some y → XR K r sc ns H H' → H' lf = some (.lst (jl left)) → H' fo = some (.lst (jl found)) → D.nx σ (upd (upd H' lf (.lst (jl (left.eraseIdx x)))) fo (.lst (jl (found ++ [y]))))) :
    tDrop (tBM K "list" rAppend (tVar k) (tCons (tBM K "list" rPopAt (tVar j) (tCons (tCall (spTaken K) [] E (tCons (tVar i) (tCons te tNil))) tNil)) tNil)) D σ H :=
  ⟨_, hk, .inl ⟨rfl, _, sq_of hf⟩, _, hj, .inl ⟨rfl, _, sq_of hl⟩, tc_taken hv hm hR (by omega) (by omega) fun v H' v0 v1 x => by
    obtain ⟨a, rfl⟩ : ∃ a : Nat, v = (a : Int) := ⟨v.toNat, by omega⟩
    have ha : a < left.length := by omega
    have hl' := x.1 _ _ n1 hl
    have hf' := x.1 _ _ n2 hf
    have hg : left[a]? = some left[a] := List.getElem?_eq_getElem ha
    refine ⟨lf, jl left, (a : Int), a, nv left[a], rfl, rfl, hl', by omega, by omega, (ixN_seq (ixN_nat (by rw [List.length_map]; exact ha))).1, by rw [List.getElem?_map, hg] <;> rfl, ?_⟩
    refine ⟨fo, jl found, nv left[a], rfl, rfl, by rw [upd_ne (Ne.symm n3)]; exact hf', sz_lt (by rw [List.length_map]; omega), ?_⟩
    have q2 := q a left[a] H' hg x hl' hf'
    rw [jl_erase]
    have e : jl (found ++ [left[a]]) = jl found ++ [nv left[a]] := by rw [jl, jl, List.map_append] <;> rfl
    rw [e] at q2
    exact q2⟩
theorem s_ifTk {i : Nat} {m : Int} {E : XK} (hv : σ[i]? = some (some (.ref r))) (hm : Ev te σ H (.int m)) (hR : RowAt K r sc ns H) (m0 : 0 < m) (m1 : m < 1000000) (k : ∀ (b : Bool) H', XR K r sc ns H H' → if b = true then tu D σ H' else tw D σ H') :
    tIfS (tTest (tOp rEq (tCall (spTaken K) [] E (tCons (tVar i) (tCons te tNil))) (tC (.int 0)))) tu tw D σ H :=
  tc_taken hv hm hR m0 m1 fun v H' v0 v1 x => ⟨rfl, _, rfl, k _ H' x⟩
theorem s_asgRaw {t1 : TE} {i : Nat} (h : t1 σ H fun x H1 => tz D (σ.set i (some x)) H1) : tSeq (tAsg t1 (gName i)) tz D σ H := h
theorem q_par {i j : Nat} {t1 t2 : TE} (h : t1 σ H fun x H1 => t2 σ H1 fun y H2 => tz D ((σ.set i (some x)).set j (some y)) H2) : tSeq (tPar i j (tCons t1 (tCons t2 tNil))) tz D σ H :=
  show t1 σ H (fun x H1 => t2 σ H1 (fun y H2 => ∃ v w, [x, y] = [v, w] ∧ tz D ((σ.set i (some v)).set j (some w)) H2)) from by
    have e : (fun x H1 => t2 σ H1 (fun y H2 => ∃ v w, [x, y] = [v, w] ∧ tz D ((σ.set i (some v)).set j (some w)) H2)) = fun x H1 => t2 σ H1 fun y H2 => tz D ((σ.set i (some x)).set j (some y)) H2 := by
      funext x H1
      congr 1
      funext y H2
      refine propext ⟨fun ⟨v, w, e, q⟩ => ?_, fun q => ⟨x, y, rfl, q⟩⟩
      cases e
      exact q
    rw [e]
    exact h
end
theorem get_jl {o : List Nat} {i : Nat} (h : i < o.length) : (jl o)[i]? = some (nv (o.getD i 0)) := by
  rw [List.getElem?_map, List.getElem?_eq_getElem h, List.getD_eq_getElem?_getD, List.getElem?_eq_getElem h]
  rfl
theorem getD_at {o : List Nat} {i : Nat} (h : i < o.length) : o.getD i 0 = o[i] := by
  rw [List.getD_eq_getElem?_getD, List.getElem?_eq_getElem h]
  rfl
/-- pairs drawn so far -/
def PW (K : PySem.W.Frag) (r sc : Addr) (ns : List Int) (H : Hp) (po fo : Addr) (π : List Nat) (n : Nat) (o : List Pr2) (B : Nat) (H' : Hp) : Prop :=
  XR K r sc ns H H' ∧ H' po = some (.tup (jl π)) ∧ H' fo = some (.lst (o.map fun e => V.ref e.2)) ∧ (∀ e ∈ o, H' e.2 = some (.tup [nv e.1.1, nv e.1.2])) ∧ o.length ≤ B ∧ ∀ e ∈ o, ∃ i j, i < j ∧ j < n ∧ e.1 = (π.getD i 0, π.getD j 0)
theorem nt_row {K : PySem.W.Frag} {r sc x : Addr} {ns : List Int} {xs : List V} {H : Hp} (hR : RowAt K r sc ns H) (hx : H x = some (.tup xs)) : x ≠ r := fun z => by
  obtain ⟨_, _, _, _, _, h3⟩ := hR
  rw [z, h3] at hx
  cases hx
theorem PW.xr {K : PySem.W.Frag} {r sc : Addr} {ns : List Int} {H : Hp} {po fo : Addr} {π : List Nat} {n : Nat} {o : List Pr2} {B : Nat} {H' H2 : Hp} (h : PW K r sc ns H po fo π n o B H') (nf : fo ≠ r) (x : XR K r sc ns H' H2) : PW K r sc ns H po fo π n o B H2 := by
  obtain ⟨a, b, c, d, e, f⟩ := h
  exact ⟨XR.trans a x, x.1 _ _ (nt_row a.2 b) b, x.1 _ _ nf c, fun y hy => x.1 _ _ (nt_row a.2 (d y hy)) (d y hy), e, f⟩
section
variable {P : Program} {w : World} {K : PySem.W.Frag} {mg : Str → Option Value} {base : Heap} {f : Addr} {fd : FuncData}
def spOrder (K : PySem.W.Frag) : Sp := fun vs H Q _ => ∃ (r sc : Addr) (ns : List Int) (n : Nat), vs = [.ref r, nv n] ∧ RowAt K r sc ns H ∧ n ≤ 500 ∧ ∀ p o H', o.Perm (List.range n) → XR K r sc ns H H' → H' p = some (.tup (jl o)) → Q (.ref p) H'
theorem ok_order (F : FnP K "_law_order" sOrder f fd) (g : Gs mg) (CT : Cal P w K mg base "_law_taken" 1 ["_law_row", "_law_many"] (spTaken K)) : FnOk P w K mg base CX0 2 f fd ["_law_row", "_law_many"] (spOrder K) := by
  refine F.ok scOrder (fun vs H Q E h => ?_) (fun cdv A outer s H vs Q E hr h => ?_)
  · obtain ⟨r, sc, ns, n, rfl, _⟩ := h
    rfl
  · obtain ⟨r, sc, ns, n, rfl, hR, hn, q⟩ := h
    refine ⟨_, PSs.nox (pss_cons (ps_par (i := 2) (j := 3) rfl scOrder.nd rfl rfl (by decide) rfl rfl (pa_cons (pe_listRg rfl (by rfl) g.list (prg_1 (by rfl) g.range (pv 1))) (pa_cons (pe_lst pa_nil) pa_nil)) (by rfl))
      (pss_cons (ps_for PassesOwn.never rfl (pi_range1 (by rfl) g.range (pa_cons (pv 1) pa_nil)) (pg_name (i := 4) scOrder.nd rfl (.inl rfl))
        (pss_one (ps_expr (pe_bm PySem.F.plainAttrs_list PySem.F.slot_list_append PySem.F.type_list_append mt_append (pv 3)
          (pa_cons (pe_bm PySem.F.plainAttrs_list PySem.F.slot_list_pop PySem.F.type_list_pop mt_popAt (pv 2) (pa_cons (pe_cal CT hr (pa_cons (pv 0) (pa_cons (pe_callB (k_len (K := K) rfl) (by rfl) g.len boot_len (pa_cons (pv 2) pa_nil)) pa_nil))) pa_nil)) pa_nil)))))
      (pss_one (ps_ret (pe_callTy (k_tuple (K := K) rfl) (by rfl) g.tuple (by decide +kernel) (pa_cons (pv 3) pa_nil)))))), ?_⟩
    refine q_par (el_listRg (ev_var rfl) (by omega) H (Ex.refl _) _ fun lf H1 hlf e1 h1 => el_lst (σ := [some (.ref r), some (nv n), none, none, none]) ea_nil (by decide) H1 (Ex.refl _) _ fun fo H2 hfo e2 h2 => ?_)
    have e12 := e1.trans e2
    have hfo0 : H fo = none := fresh_back e1 hfo
    have n1 := ne_row hR hlf
    have n2 := ne_row hR hfo0
    have n3 : lf ≠ fo := ne_of_none h1 hfo
    refine q_forR1 (n := (n : Int)) (ea_1 (ev_var rfl)) (by omega) (fun i σ' H' => ∃ (left found : List Nat) (y : Option V), σ' = [some (.ref r), some (nv n), some (.ref lf), some (.ref fo), y] ∧ XR K r sc ns H H' ∧ H' lf = some (.lst (jl left)) ∧ H' fo = some (.lst (jl found)) ∧ (found ++ left).Perm (List.range n) ∧ found.length = i)
      (fun H3 e3 => ⟨List.range n, [], none, rfl, hR.xr (e12.trans e3), e3 _ _ (e2 _ _ h1), e3 _ _ h2, .refl _, rfl⟩) ?_ ?_
    · rintro i σ' H' hi ⟨left, found, y, rfl, x1, h3, h4, hp, hlen⟩
      have hl := hp.length_eq
      rw [List.length_append, List.length_range] at hl
      refine s_popTk (i := 0) (j := 2) (k := 3) rfl rfl rfl x1.2 h3 h4 n1 n2 n3 (ev_cb (ea_1 (ev_var rfl)) (by
        have q := rc_lenL (K := K) h3
        rw [List.length_map] at q
        exact q)) (by omega) (by omega) (by omega) fun a b H4 hab x4 h5 h6 => ⟨left.eraseIdx a, found ++ [b], _, rfl, ((XR.mut hR (XR.mut hR (XR.trans x1 x4) hlf) hfo0)), ?_, upd_same, ?_, by rw [List.length_append, hlen] <;> rfl⟩
      · rw [upd_ne n3, upd_same]
      · rw [List.append_assoc]
        exact ((List.Perm.append_left found (erase_perm hab))).trans hp
    · rintro σ' H' ⟨left, found, y, rfl, x1, h3, h4, hp, hlen⟩
      have hl := hp.length_eq
      rw [List.length_append, List.length_range, hlen] at hl
      have e0 : left = [] := List.length_eq_zero_iff.mp (by omega)
      rw [e0, List.append_nil] at hp
      exact s_retU (eu_tupL (ev_var rfl) h4) fun p H4 hp4 e4 h5 => q p found H4 hp (x1.ex e4) h5
def spPairs (K : PySem.W.Frag) : Sp := fun vs H Q _ => ∃ (r sc : Addr) (ns : List Int) (n : Nat), vs = [.ref r, nv n] ∧ RowAt K r sc ns H ∧ n ≤ 5 ∧ ∀ p o rk H', PrsAt H' p o → Prc n o rk → (∀ j, j < n → rk j < n) → XR K r sc ns H H' → Q (.ref p) H'
theorem ok_pairs (F : FnP K "_law_pairs" sPairs f fd) (g : Gs mg) (CT : Cal P w K mg base "_law_taken" 1 ["_law_row", "_law_many"] (spTaken K)) (CP : Cal P w K mg base "_law_pick" 2 ["_law_row", "_law_things"] (spPick K))
    (CO : Cal P w K mg base "_law_order" 2 ["_law_row", "_law_many"] (spOrder K)) : FnOk P w K mg base CX0 3 f fd ["_law_row", "_law_many"] (spPairs K) := by
  refine F.ok scPairs (fun vs H Q E h => ?_) (fun cdv A outer s H vs Q E hr h => ?_)
  · obtain ⟨r, sc, ns, n, rfl, _⟩ := h
    rfl
  · obtain ⟨r, sc, ns, n, rfl, hR, hn, q⟩ := h
    refine ⟨_, PSs.nox (pss_cons (ps_par (i := 2) (j := 3) rfl scPairs.nd rfl rfl (by decide) rfl rfl (pa_cons (pe_cal CO hr (pa_cons (pv 0) (pa_cons (pv 1) pa_nil))) (pa_cons (pe_lst pa_nil) pa_nil)) (by rfl))
      (pss_cons (ps_set (i := 4) scPairs.nd rfl (.inl rfl) (pe_cal CP hr (pa_cons (pv 0) (pa_cons (pe_lst (pa_cons pe_int (pa_cons pe_int (pa_cons pe_int pa_nil)))) pa_nil))))
      (pss_cons (ps_for PassesOwn.never rfl (pi_range1 (by rfl) g.range (pa_cons (pv 1) pa_nil)) (pg_name (i := 5) scPairs.nd rfl (.inl rfl))
        (pss_one (ps_for PassesOwn.never rfl (pi_range2 (by rfl) g.range (pa_cons (pe_op op_add (pv 5) pe_int) (pa_cons (pv 1) pa_nil))) (pg_name (i := 6) scPairs.nd rfl (.inl rfl))
          (pss_one (ps_if (pt_cmpR op_eq (pe_cal CT (hr.mono (by decide)) (pa_cons (pv 0) (pa_cons (pv 4) pa_nil))) pe_int (nomark _))
            (pss_one (ps_expr (pe_bm PySem.F.plainAttrs_list PySem.F.slot_list_append PySem.F.type_list_append mt_append (pv 3)
              (pa_cons (pe_tup (pa_cons (pe_ix (k_ixT (K := K) rfl) (pv 2) (pv 5) (fun _ _ => rfl)) (pa_cons (pe_ix (k_ixT (K := K) rfl) (pv 2) (pv 6) (fun _ _ => rfl)) pa_nil))) pa_nil)))) pss_nil)))))
      (pss_one (ps_ret (pe_callTy (k_tuple (K := K) rfl) (by rfl) g.tuple (by decide +kernel) (pa_cons (pv 3) pa_nil))))))), ?_⟩
    refine q_par (ea_2 (σ := [some (.ref r), some (nv n), none, none, none, none, none]) (ev_var (i := 0) rfl) (ev_var (i := 1) rfl) H (Ex.refl _) _ fun H1 e1 => ⟨r, sc, ns, n, rfl, hR.ex e1, by omega, fun po π H2 hπ x2 h2 => ?_⟩)
    refine el_lst (σ := [some (.ref r), some (nv n), none, none, none, none, none]) ea_nil (by decide) H2 (Ex.refl _) _ fun fo H3 hfo e3 h3 => ?_
    have x3 := XR.trans (hR.xr e1) (x2.ex e3)
    have hfo0 : H fo = none := XR.fresh hR (XR.trans (hR.xr e1) x2) hfo
    have n2 := ne_row hR hfo0
    have nt : ∀ {x : Addr} {xs : List V} {H : Hp}, RowAt K r sc ns H → H x = some (.tup xs) → x ≠ r := fun {x xs H} hR hx z => by
      obtain ⟨_, _, _, _, _, h3⟩ := hR
      rw [z, h3] at hx
      cases hx
    have h2' := e3 _ _ h2
    have ndπ : π.Nodup := hπ.nodup_iff.mpr List.nodup_range
    have lπ : π.length = n := by rw [hπ.length_eq, List.length_range]
    refine s_asgRaw (tc_pick (xs := [.int 2, .int 3, .int 6]) rfl (el_lst (ea_3 ev_c ev_c ev_c) (by decide)) x3.2 (by decide) (by decide) fun y4 H4 hy4 x4 => ?_)
    obtain ⟨dn, rfl, dn0, dn1⟩ : ∃ dn, y4 = V.int dn ∧ 2 ≤ dn ∧ dn ≤ 6 := by
      rcases List.mem_cons.mp hy4 with z | z
      · exact ⟨2, z, by decide, by decide⟩
      · rcases List.mem_cons.mp z with z | z
        · exact ⟨3, z, by decide, by decide⟩
        · exact ⟨6, List.mem_singleton.mp z, by decide, by decide⟩
    have w4 : PW K r sc ns H po fo π n [] (5 * 0) H4 := ⟨XR.trans x3 x4, x4.1 _ _ (nt x3.2 h2') h2', x4.1 _ _ n2 h3, (fun e he => nomatch he), Nat.le_refl _, (fun e he => nomatch he)⟩
    refine q_forR1 (n := (n : Int)) (ea_1 (ev_var rfl)) (by omega) (fun i σ' H' => ∃ (o : List Pr2) (y5 y6 : Option V), σ' = [some (.ref r), some (nv n), some (.ref po), some (.ref fo), some (.int dn), y5, y6] ∧ PW K r sc ns H po fo π n o (5 * i) H')
      (fun H5 e5 => ⟨[], none, none, rfl, w4.xr n2 (w4.1.2.xr e5)⟩) ?_ ?_
    · rintro i σ' H' hi ⟨o, y5, y6, rfl, w5⟩
      have hin : i < n := by omega
      refine s_forR2 (lo := (i : Int) + 1) (n := (n : Int)) (ea_2 (ev_op (ev_var rfl) ev_c rv_I0) (ev_var rfl)) (by omega) (fun k σ' H' => ∃ (o : List Pr2) (y6 : Option V), σ' = [some (.ref r), some (nv n), some (.ref po), some (.ref fo), some (.int dn), some (nv i), y6] ∧ PW K r sc ns H po fo π n o (5 * i + k) H')
        (fun H5 e5 => ⟨o, y6, rfl, w5.xr n2 (w5.1.2.xr e5)⟩) ?_ ?_
      · rintro k σ' H' hk ⟨o, y6, rfl, w6⟩
        have ej : (i : Int) + 1 + (k : Int) = ((i + 1 + k : Nat) : Int) := by omega
        have hjn : i + 1 + k < n := by omega
        rw [ej]
        refine s_ifTk (m := dn) rfl (ev_var rfl) w6.1.2 (by omega) (by omega) fun b H5 x5 => ?_
        have w7 := w6.xr n2 x5
        cases b with
        | false => exact ⟨o, some (nv (i + 1 + k)), rfl, w7.1, w7.2.1, w7.2.2.1, w7.2.2.2.1, Nat.le_succ_of_le w7.2.2.2.2.1, w7.2.2.2.2.2⟩
        | true =>
          obtain ⟨a1, a2, a3, a4, a5, a6⟩ := w7
          refine s_appU (xs := o.map fun e => V.ref e.2) a3 (ev_var rfl) (eu_tup (ea_2 (ev_ixT (ev_var rfl) (ev_var rfl) a2 (atI_nat (j := i) (get_jl (by omega)))) (ev_ixT (ev_var rfl) (ev_var rfl) a2 (atI_nat (j := i + 1 + k) (get_jl (by omega))))) (by show 2 ≤ 100000; decide)) (by rw [List.length_map]; omega) fun p H6 hp6 e6 h6 => ?_
          have hpf : p ≠ fo := fun z => by
            rw [z, a3] at hp6
            cases hp6
          have ne : ∀ {x : Addr} {xs : List V}, H5 x = some (.tup xs) → upd H6 fo (.lst ((o.map fun e => V.ref e.2) ++ [.ref p])) x = some (.tup xs) := fun {x xs} hx => by
            have hxf : x ≠ fo := fun z => by
              rw [z, a3] at hx
              cases hx
            rw [upd_ne hxf]
            exact e6 _ _ hx
          refine ⟨o ++ [((π.getD i 0, π.getD (i + 1 + k) 0), p)], some (nv (i + 1 + k)), rfl, XR.mut hR (a1.ex e6) hfo0, ne a2, ?_, fun e he => ?_, ?_, fun e he => ?_⟩
          · rw [upd_same, List.map_append]
            rfl
          · rcases List.mem_append.mp he with he | he
            · exact ne (a4 e he)
            · rw [List.mem_singleton.mp he, upd_ne hpf]
              exact h6
          · rw [List.length_append]
            show o.length + 1 ≤ 5 * i + (k + 1)
            omega
          · rcases List.mem_append.mp he with he | he
            · exact a6 e he
            · rw [List.mem_singleton.mp he]
              exact ⟨i, i + 1 + k, by omega, hjn, rfl⟩
      · rintro σ' H' ⟨o, y6, rfl, w6⟩
        obtain ⟨a1, a2, a3, a4, a5, a6⟩ := w6
        exact ⟨o, _, _, rfl, a1, a2, a3, a4, by omega, a6⟩
    · rintro σ' H' ⟨o, y5, y6, rfl, a1, a2, a3, a4, a5, a6⟩
      refine s_retU (eu_tupL (ev_var rfl) a3) fun p H5 hp5 e5 h5 => q p o (fun j => π.idxOf j) H5 ⟨h5, fun e he => e5 _ _ (a4 e he)⟩ ⟨?_, fun x hx => ?_, fun x hx => ?_⟩ (fun j hj => ?_) (a1.ex e5)
      · have : (n : Int).toNat = n := rfl
        omega
      · obtain ⟨e, he, rfl⟩ := List.mem_map.mp hx
        obtain ⟨i, j, h1, h2, h3⟩ := a6 e he
        have hi : i < π.length := by omega
        have hj : j < π.length := by omega
        rw [h3]
        show π.getD i 0 < n ∧ π.getD j 0 < n ∧ π.getD i 0 ≠ π.getD j 0
        rw [getD_at hi, getD_at hj]
        refine ⟨List.mem_range.mp (hπ.mem_iff.mp (List.getElem_mem hi)), List.mem_range.mp (hπ.mem_iff.mp (List.getElem_mem hj)), fun z => ?_⟩
        have q1 := ndπ.idxOf_getElem i hi
        have q2 := ndπ.idxOf_getElem j hj
        rw [z, q2] at q1
        omega
      · obtain ⟨e, he, rfl⟩ := List.mem_map.mp hx
        obtain ⟨i, j, h1, h2, h3⟩ := a6 e he
        have hi : i < π.length := by omega
        have hj : j < π.length := by omega
        rw [h3]
        show π.idxOf (π.getD i 0) < π.idxOf (π.getD j 0)
        rw [getD_at hi, getD_at hj, ndπ.idxOf_getElem i hi, ndπ.idxOf_getElem j hj]
        exact h1
      · have : j ∈ π := hπ.mem_iff.mpr (List.mem_range.mpr hj)
        have := List.idxOf_lt_length_of_mem this
        omega
end
end K6
set_option Elab.async false
set_option linter.all false
set_option maxRecDepth 100000
set_option maxHeartbeats 4000000
/-! _law_orders. -/
namespace K6
open PySem PySem.Spec PyProof.Rows L2 Evl
/-- orders with the addresses of their tuples -/
abbrev Or2 := List Nat × Addr
def OW (H : Hp) (l : Addr) (os : List Or2) : Prop := H l = some (.lst (os.map fun e => V.ref e.2)) ∧ ∀ e ∈ os, H e.2 = some (.tup (jl e.1))
theorem OW.ex {H H' : Hp} {l : Addr} {os : List Or2} (e : Ex H H') (h : OW H l os) : OW H' l os := ⟨e _ _ h.1, fun x hx => e _ _ (h.2 x hx)⟩
section
variable {K : PySem.W.Frag} {σ : L2.St} {H H' : Hp} {ta tb te : TE}
theorem eu_cat {a : Addr} {xs ys : List V} (ha : Ev ta σ H (.ref a)) (hx : H a = some (.tup xs)) (hb : EvU tb σ H ys) (hy : ys ≠ []) (hz : xs.length + ys.length ≤ 100000) : EvU (tOp (rCatA K) ta tb) σ H (xs ++ ys) := fun H1 e Q q =>
  ha H1 e _ fun H2 e2 => hb H2 (e.trans e2) _ fun b H3 hbn e3 h3 => ⟨a, b, xs, ys, rfl, rfl, st_of (((e.trans e2).trans e3) _ _ hx), st_of h3, sz_of hz, fun hx => q b H3 (fresh_back e2 hbn) (e2.trans e3) (by rw [hx]; exact h3), fun _ h => absurd h hy,
    fun _ _ p hp => q p _ (fresh_back (e2.trans e3) hp) ((e2.trans e3).trans (Ex.new hp)) upd_same⟩
theorem k_catA {X : Cx} (hK : X.K = K) : OpR X (binaryOp .Add) (rCatA K) := by subst hK; exact op_catA
/-- [()] -/
theorem s_asgUnit {i : Nat} {D : Ends} {tz : TS} (k : ∀ l p H1, H l = none → H p = none → Ex H H1 → OW H1 l [([], p)] → tz D (σ.set i (some (.ref l))) H1) : tSeq (tAsg (tLst (tCons (tTup tNil) tNil)) (gName i)) tz D σ H :=
  show tTup tNil σ H (fun x H1 => tNil σ H1 fun vs H2 => ((x :: vs).length ≤ sizeLine ∧ ∀ l, H2 l = none → tz D (σ.set i (some (.ref l))) (upd H2 l (.lst (x :: vs))))) from
    eu_tup (vs := []) ea_nil (by decide) H (Ex.refl _) _ fun p H1 hp e1 h1 => ⟨by show 1 ≤ sizeLine; decide, fun l hl => k l p _ (fresh_back e1 hl) hp (e1.trans (Ex.new hl)) ⟨upd_same, fun e he => by
      rw [List.mem_singleton.mp he]
      exact (Ex.new hl) _ _ h1⟩⟩
theorem fits_o (o : List Pr2) (part : List Nat) (j : Nat) : (o.filter fun e => decide (e.1.2 = j) && !part.contains e.1.1).isEmpty = ((prs o).filter fun p => decide (p.2 = j) && !part.contains p.1).isEmpty := by
  unfold prs
  rw [List.filter_map, List.isEmpty_map]
  rfl
end
section
variable {P : Program} {w : World} {K : PySem.W.Frag} {mg : Str → Option Value} {base : Heap} {f : Addr} {fd : FuncData}
def spOrders : Sp := fun vs H Q _ => ∃ (a : Addr) (n : Nat) (o : List Pr2), vs = [nv n, .ref a] ∧ PrsAt H a o ∧ n ≤ 5 ∧ o.length ≤ 40 ∧ ∀ l os H', Ex H H' → OW H' l os → os.map Prod.fst = orders n (prs o) n → Q (.ref l) H'
theorem ok_orders (F : FnP K "_law_orders" sOrders f fd) (g : Gs mg) : FnOk P w K mg base CX0 1 f fd ["_law_many", "_law_pairs_here"] spOrders := by
  refine F.ok scOrders (fun vs H Q E h => ?_) (fun cdv A outer s H vs Q E hr h => ?_)
  · obtain ⟨a, n, o, rfl, _⟩ := h
    rfl
  · obtain ⟨a, n, o, rfl, ha, hn, ho, q⟩ := h
    refine ⟨_, PSs.nox (pss_cons (ps_set (i := 2) scOrders.nd rfl (.inl rfl) (pe_lst (pa_cons (pe_tup pa_nil) pa_nil)))
      (pss_cons (ps_for PassesOwn.never rfl (pi_range1 (by rfl) g.range (pa_cons (pv 0) pa_nil)) (pg_name (i := 3) scOrders.nd rfl (.inl rfl))
        (pss_cons (ps_set (i := 4) scOrders.nd rfl (.inl rfl) (pe_lst pa_nil))
        (pss_cons (ps_for PassesOwn.never rfl (k_piL (K := K) rfl (pv 2)) (pg_name (i := 5) scOrders.nd rfl (.inr rfl))
          (pss_one (ps_for PassesOwn.never rfl (pi_range1 (by rfl) g.range (pa_cons (pv 0) pa_nil)) (pg_name (i := 6) scOrders.nd rfl (.inr rfl))
            (pss_one (ps_if (PW.pt (pw_and (pt_cmpR (k_ni (K := K) rfl) (pv 6) (pv 5) (by rfl)) (pw_and1 (pt_cmpR (op_eqD hr.units)
              (pe_lc (own := [("_law_pair", 7)]) (g := gName 7) (by rfl) scOrders.nd (k_piT (K := K) rfl (pv 1)) (blkOk_by (N := nOrders) (sc := defScope sOrders) (by decide +kernel))
                (fun _ _ _ _ _ => pg_name (i := 7) scOrders.nd rfl (.inl rfl))
                (fun _ _ _ _ _ => pts_one (PW.pt (pw_and (pt_cmpR op_eq (pe_ix (k_ixT (K := K) rfl) (pv 7) pe_int (fun _ _ => rfl)) (pv 6) (nomark _)) (pw_and1 (pt_cmpR (k_ni (K := K) rfl) (pe_ix (k_ixT (K := K) rfl) (pv 7) pe_int (fun _ _ => rfl)) (pv 5) (by rfl))))))
                (fun _ _ _ _ _ => pv 7)) (pe_lst pa_nil) (nomark _)))))
              (pss_one (ps_expr (pe_bm PySem.F.plainAttrs_list PySem.F.slot_list_append PySem.F.type_list_append mt_append (pv 4)
                (pa_cons (pe_op (k_catA (K := K) rfl) (pv 5) (pe_tup (pa_cons (pv 6) pa_nil))) pa_nil)))) pss_nil)))))
        (pss_one (ps_set (i := 2) scOrders.nd rfl (.inl rfl) (pv 4))))))
      (pss_one (ps_ret (pv 2))))), ?_⟩
    have big : ∀ k, k ≤ n → (orders n (prs o) k).length ≤ 3125 := fun k hk => by
      refine Nat.le_trans (orders_len n (prs o) k) ?_
      refine Nat.le_trans (Nat.pow_le_pow_left hn k) ?_
      exact Nat.le_trans (Nat.pow_le_pow_right (n := 5) (by decide) (Nat.le_trans hk hn)) (by decide)
    refine s_asgUnit fun l0 p0 H1 hl0 hp0 e1 w1 => ?_
    refine q_forR1 (n := (n : Int)) (ea_1 (ev_var rfl)) (by omega) (fun k σ' H' => ∃ (l : Addr) (os : List Or2) (y3 y4 y5 y6 : Option V), σ' = [some (nv n), some (.ref a), some (.ref l), y3, y4, y5, y6, none] ∧ Ex H H' ∧ OW H' l os ∧ os.map Prod.fst = orders n (prs o) k)
      (fun H2 e2 => ⟨l0, [([], p0)], none, none, none, none, rfl, e1.trans e2, w1.ex e2, rfl⟩) ?_ ?_
    · rintro k σ' H' hk ⟨l, os, y3, y4, y5, y6, rfl, e2, w2, ho2⟩
      have hkn : k < n := by omega
      have lo : os.length = (orders n (prs o) k).length := by rw [← ho2, List.length_map]
      have hb := big k (by omega)
      refine q_asgL (xs := []) (el_lst ea_nil (by decide)) fun lg H3 hlg e3 h3 => ?_
      have e23 := e2.trans e3
      have w3 := w2.ex e3
      have hlg0 : H lg = none := fresh_back e2 hlg
      have nlg : l ≠ lg := ne_of_none w2.1 hlg
      refine q_forL (ev_var rfl) (sq_of w3.1) (fun i σ' H' => ∃ (os' : List Or2) (y5 y6 : Option V), σ' = [some (nv n), some (.ref a), some (.ref l), some (.int (k : Int)), some (.ref lg), y5, y6, none] ∧ Ex H H' ∧ OW H' l os ∧ OW H' lg os' ∧ os'.length ≤ i * n ∧ os'.map Prod.fst = ((orders n (prs o) k).take i).flatMap (grow n (prs o)))
        (fun H4 e4 => ⟨[], y5, y6, rfl, e23.trans e4, w3.ex e4, ⟨e4 _ _ h3, (fun e he => nomatch he)⟩, Nat.zero_le _, rfl⟩) (fun i σ' H' _ ⟨_, _, _, _, _, w, _⟩ => sq_of w.1) ?_ ?_
      · rintro i x σ' H' hx ⟨os', y5, y6, rfl, e4, w4, w5, l5, ho5⟩
        rw [List.getElem?_map] at hx
        obtain ⟨e, he, rfl⟩ := Option.map_eq_some_iff.mp hx
        have hi : i < os.length := (List.getElem?_eq_some_iff.mp he).1
        have hpart : (orders n (prs o) k)[i]? = some e.1 := by rw [← ho2, List.getElem?_map, he] <;> rfl
        have hin : i * n ≤ 3125 * 5 := Nat.mul_le_mul (by omega) hn
        refine s_forR1 (n := (n : Int)) (ea_1 (ev_var rfl)) (by omega) (fun m σ' H' => ∃ (os' : List Or2) (y6 : Option V), σ' = [some (nv n), some (.ref a), some (.ref l), some (.int (k : Int)), some (.ref lg), some (.ref e.2), y6, none] ∧ Ex H H' ∧ OW H' l os ∧ OW H' lg os' ∧ os'.length ≤ i * n + m ∧
            os'.map Prod.fst = ((orders n (prs o) k).take i).flatMap (grow n (prs o)) ++ ((List.range m).filter (fits (prs o) e.1)).map fun j => e.1 ++ [j])
          (fun H5 e5 => ⟨os', y6, rfl, e4.trans e5, w4.ex e5, w5.ex e5, l5, by rw [ho5] <;> simp⟩) ?_ ?_
        · rintro m σ' H' hm ⟨os', y6, rfl, e5, w5, w6, l6, ho6⟩
          have hmn : m < n := by omega
          have hep := w5.2 e (List.mem_of_getElem? he)
          have tk : (List.range (m + 1)).filter (fits (prs o) e.1) = (List.range m).filter (fits (prs o) e.1) ++ if fits (prs o) e.1 m = true then [m] else [] := by
            rw [List.range_succ, List.filter_append]
            congr 1
            rw [List.filter_cons, List.filter_nil]
          refine s_when (b := !e.1.contains m && (o.filter fun y => decide (y.1.2 = m) && !e.1.contains y.1.1).isEmpty) (et_and (et_test (ev_niT (ev_var rfl) (ev_var rfl) hep)) fun _ => et_test (ev_eqNilP (fun y hy => (ha.ex e5).2 y (List.mem_filter.mp hy).1) ?_)) (fun hb2 H6 e6 => ?_) fun hb2 H6 e6 => ?_
          · refine el_lcG o (fun e => V.ref e.2) (fun y => [some (nv n), some (.ref a), some (.ref l), some (.int (k : Int)), some (.ref lg), some (.ref e.2), some (nv m), some (.ref y.2)]) (fun y => decide (y.1.2 = m) && !e.1.contains y.1.1) (fun e => V.ref e.2) (w1_tup (ev_var rfl) (e5 _ _ ha.1)) (by omega)
              (fun j _ H1 _ Q q => q) (fun j _ => rfl) (fun y hy H6 e6 => ?_) (fun j _ H1 e _ => ev_var rfl)
            have hq := (e5.trans e6) _ _ (ha.2 y hy)
            exact et_and (a := decide (y.1.2 = m)) (b := !e.1.contains y.1.1) (et_test (ev_eqN (ev_ixT (ev_var rfl) ev_c hq (by rfl)) (ev_var rfl))) fun _ => et_test (ev_niT (ev_ixT (ev_var rfl) ev_c hq (by rfl)) (ev_var rfl) (e6 _ _ hep))
          · rw [fits_o] at hb2
            have hf : fits (prs o) e.1 m = true := hb2
            have w7 := w6.ex e6
            have hle : e.1.length ≤ 1000 := by
              have hE := (mem_orders k).mp (List.mem_of_getElem? hpart)
              rw [hE.1]
              omega
            refine s_appU (xs := os'.map fun e => V.ref e.2) w7.1 (ev_var rfl) (eu_cat (ev_var rfl) (e6 _ _ hep) (eu_tup (ea_1 (ev_var rfl)) (by show 1 ≤ 100000; decide)) (by simp) (by rw [List.length_map]; show _ + 1 ≤ _; omega)) (by rw [List.length_map]; omega) fun p H7 hp7 e7 h7 => ?_
            have hpf : p ≠ lg := fun z => by
              rw [z, w7.1] at hp7
              cases hp7
            have ne : ∀ {x : Addr} {xs : List V}, H6 x = some (.tup xs) → upd H7 lg (.lst ((os'.map fun e => V.ref e.2) ++ [.ref p])) x = some (.tup xs) := fun {x xs} hx => by
              have hxf : x ≠ lg := fun z => by
                rw [z, w7.1] at hx
                cases hx
              rw [upd_ne hxf]
              exact e7 _ _ hx
            have w8 := w5.ex e6
            refine ⟨os' ++ [(e.1 ++ [m], p)], some (nv m), rfl, Ex.mut ((e5.trans e6).trans e7) hlg0, ⟨by rw [upd_ne nlg]; exact e7 _ _ w8.1, fun x hx => ne (w8.2 x hx)⟩, ⟨?_, fun x hx => ?_⟩, ?_, ?_⟩
            · rw [upd_same, List.map_append]
              rfl
            · rcases List.mem_append.mp hx with hx | hx
              · exact ne (w7.2 x hx)
              · rw [List.mem_singleton.mp hx, upd_ne hpf, h7, jl, jl, List.map_append]
                rfl
            · rw [List.length_append]
              show os'.length + 1 ≤ _
              omega
            · rw [List.map_append, ho6, tk, if_pos hf, List.map_append, List.append_assoc]
              rfl
          · rw [fits_o] at hb2
            have hf : fits (prs o) e.1 m = false := hb2
            exact ⟨os', some (nv m), rfl, e5.trans e6, w5.ex e6, w6.ex e6, by omega, by rw [ho6, tk, hf] <;> simp⟩
        · rintro σ' H' ⟨os', y6, rfl, e5, w5, w6, l6, ho6⟩
          have hnn : (n : Int).toNat = n := rfl
          refine ⟨os', _, _, rfl, e5, w5, w6, ?_, ?_⟩
          · rw [Nat.add_mul]
            omega
          · rw [ho6, List.take_add_one, hpart, List.flatMap_append]
            show _ = _ ++ [e.1].flatMap (grow n (prs o))
            rw [List.flatMap_cons, List.flatMap_nil, List.append_nil]
            rfl
      · rintro σ' H' ⟨os', y5, y6, rfl, e4, w4, w5, l5, ho5⟩
        refine s_asg (v := .ref lg) (ev_var rfl) fun H5 e5 => ⟨lg, os', _, _, _, _, rfl, e4.trans e5, w5.ex e5, ?_⟩
        rw [ho5, List.length_map, lo, List.take_length]
        rfl
    · rintro σ' H' ⟨l, os, y3, y4, y5, y6, rfl, e2, w2, ho2⟩
      exact s_ret (ev_var rfl) fun H3 e3 => q l os H3 (e2.trans e3) (w2.ex e3) ho2
end
end K6
set_option Elab.async false
set_option linter.all false
set_option maxRecDepth 100000
set_option maxHeartbeats 4000000
/-! The law. -/
namespace K6
open PySem PySem.Spec PyProof.Rows L2 Evl LamX
section
variable {K : PySem.W.Frag} {r sc : Addr} {ns : List Int} {σ : L2.St} {H H' : Hp} {ta tb te : TE} {D : Ends} {tz : TS}
theorem OW.exN {l : Addr} {os : List Or2} (e : ExtN H H') (h : OW H l os) : OW H' l os := ⟨e _ _ h.1 (fun ps z => nomatch z), fun x hx => e _ _ (h.2 x hx) (fun ps z => nomatch z)⟩
theorem RowAt.exN (e : ExtN H H') (h : RowAt K r sc ns H) : RowAt K r sc ns H' := by
  obtain ⟨h1, p, s, q, h2, h3⟩ := h
  exact ⟨extn_l e h1, p, s, q, h2, e _ _ h3 (fun ps z => nomatch z)⟩
theorem Ins.xr {a b c : Addr} {n : Nat} {t w d : Nat → Int} (hR : RowAt K r sc ns H) (x : XR K r sc ns H H') (h : Ins H a b c n t w d) : Ins H' a b c n t w d := ⟨x.1 _ _ (nt_row hR h.ha) h.ha, x.1 _ _ (nt_row hR h.hb) h.hb, x.1 _ _ (nt_row hR h.hc) h.hc, h.jb⟩
theorem PrsAt.xr {a : Addr} {o : List Pr2} (hR : RowAt K r sc ns H) (x : XR K r sc ns H H') (h : PrsAt H a o) : PrsAt H' a o := ⟨x.1 _ _ (nt_row hR h.1) h.1, fun e he => x.1 _ _ (nt_row hR (h.2 e he)) (h.2 e he)⟩
theorem OW.ne {l : Addr} {os : List Or2} (hR : RowAt K r sc ns H) (h : OW H l os) : l ≠ r := fun z => by
  obtain ⟨_, p, s, q, _, h3⟩ := hR
  have h1 := h.1
  rw [z, h3] at h1
  have h2 := HO.lst.inj (Option.some.inj h1)
  cases os with
  | nil => cases h2
  | cons x t =>
    cases t with
    | nil => cases (List.cons.inj h2).2
    | cons y u => cases (List.cons.inj (List.cons.inj h2).2).1
theorem OW.xr {l : Addr} {os : List Or2} (hR : RowAt K r sc ns H) (x : XR K r sc ns H H') (h : OW H l os) : OW H' l os := ⟨x.1 _ _ (h.ne hR) h.1, fun e he => x.1 _ _ (nt_row hR (h.2 e he)) (h.2 e he)⟩
theorem tabs_xr {T : List (Addr × Str)} (hR : RowAt K r sc ns H) (x : XR K r sc ns H H') (h : Tabs T H) : Tabs T H' := fun p hp => by
  obtain ⟨ps, g1, g2, g3⟩ := h p hp
  have ne : ∀ {y : Addr} {o : HO}, H y = some o → (∀ xs, o ≠ .lst xs) → y ≠ r := fun {y o} hy hn z => by
    obtain ⟨_, _, _, _, _, h3⟩ := hR
    rw [z, h3] at hy
    exact hn _ (Option.some.inj hy).symm
  refine ⟨ps, x.1 _ _ (ne g1 (fun xs z => nomatch z)) g1, g2, fun pos cv hcv => ?_⟩
  obtain ⟨c, g4, g5⟩ := g3 pos cv hcv
  exact ⟨c, g4, x.1 _ _ (ne g5 (fun xs z => nomatch z)) g5⟩
theorem s_asgG {g : TG} (h : te σ H fun x H1 => g x σ H1 (tz D)) : tSeq (tAsg te g) tz D σ H := h
theorem el_cat {xs ys : List V} (ha : EvL ta σ H xs) (hb : EvL tb σ H ys) (hz : xs.length + ys.length ≤ 100000) : EvL (tOp rCat ta tb) σ H (xs ++ ys) := fun H1 e Q q =>
  ha H1 e _ fun p H2 _ e2 h2 => hb H2 (e.trans e2) _ fun p' H3 _ e3 h3 => ⟨p, p', xs, ys, rfl, rfl, e3 _ _ h2, h3, sz_of hz, fun l hl => q l _ (fresh_back (e2.trans e3) hl) ((e2.trans e3).trans (Ex.new hl)) upd_same⟩
/-- best in every -/
def oD (os : List Or2) : List PyData := os.map fun e => PyData.tuple (jD e.1)
theorem dp_os : ∀ {os : List Or2}, (∀ e ∈ os, H e.2 = some (.tup (jl e.1))) → DpAll K H (os.map fun e => V.ref e.2) (oD os)
  | [], _ => .nil
  | e :: t, h => .cons (.tup (st_of (h e List.mem_cons_self)) (dp_jl e.1)) (dp_os fun x hx => h x (List.mem_cons_of_mem _ hx))
theorem ev_notIn {b l : Addr} {best : List Nat} {os : List Or2} (ha : Ev ta σ H (.ref b)) (hb : Ev tb σ H (.ref l)) (hx : H b = some (.tup (jl best))) (hw : OW H l os) (hm : best ∈ os.map Prod.fst) : Ev (tOp (rNotInD K) ta tb) σ H (.bl false) :=
  ev_op ha hb fun H1 e Q q => ⟨.tuple (jD best), oD os, .tup (st_of (e _ _ hx)) (dp_jl best), .lst (sq_of (e _ _ hw.1)) (dp_os fun x hx => e _ _ (hw.2 x hx)), jD_shT best, tupD_sh (fun d hd => by
    obtain ⟨x, _, rfl⟩ := List.mem_map.mp hd
    exact ⟨_, rfl⟩), by
    obtain ⟨x, hx2, hx3⟩ := List.mem_map.mp hm
    have hy : (oD os).any (fun z => PyData.eqv z (.tuple (jD best))) = true := List.any_eq_true.mpr ⟨_, List.mem_map.mpr ⟨x, hx2, rfl⟩, by
      have e1 : PyData.eqv (.tuple (jD best)) (.tuple (jD best)) = PyData.eqvAll (jD best) (jD best) := by simp only [PyData.eqv]
      rw [hx3, e1, jD_eqv]
      exact decide_eq_true rfl⟩
    rw [hy]
    exact q H1 (Ex.refl _)⟩
/-- min([f(order) for order in every]) -/
theorem ev_minO {os : List Or2} {F : List Nat → Int} (h : EvL te σ H (os.map fun e => V.int (F e.1))) (hne : os ≠ []) : Ev (tCB (rMin K) (tCons te tNil)) σ H (.int (imn ((os.map Prod.fst).map F))) := by
  refine ev_minN (ns := (os.map Prod.fst).map F) ?_ fun z => hne (List.map_eq_nil_iff.mp (List.map_eq_nil_iff.mp z))
  rw [List.map_map, List.map_map]
  exact h
end
theorem room65 {k : Nat} {A : Around} (r : Room k A) : A.units + 65 < cLine := by have := r.un; omega
/-- equal by their upper bounds -/
theorem eq_of_le {a b : Int} (h : ∀ c, a ≤ c ↔ b ≤ c) : a = b := by
  have h1 := (h a).mp (Int.le_refl _)
  have h2 := (h b).mpr (Int.le_refl _)
  omega
theorem lat_le {n : Nat} {t d : Nat → Int} {o : List Nat} {c : Int} (n1 : 1 ≤ n) : lat n t d o ≤ c ↔ ∀ j, j < n → endOf t 0 o j - d j ≤ c := by
  unfold lat
  rw [imx_le (tl_ne n1)]
  constructor
  · intro h j hj
    exact h _ (List.mem_map.mpr ⟨j, List.mem_range.mpr hj, rfl⟩)
  · intro h y hy
    obtain ⟨j, hj, rfl⟩ := List.mem_map.mp hy
    exact h j (List.mem_range.mp hj)
/-- the lowered day of a job -/
theorem low_min {n : Nat} {o : List Pr2} {t d L : Nat → Int} (hl : Low n (prs o) t d L) {j : Nat} (hj : j < n) : imn (d j :: (o.filter fun e => decide (e.1.1 = j)).map fun e => L e.1.2 - t e.1.2) = L j := by
  refine (imn_eq ?_ fun y hy => ?_).symm
  · rcases hl.or j hj with h | ⟨p, hp, h1, h2⟩
    · rw [h]
      exact List.mem_cons_self
    · obtain ⟨e, he, rfl⟩ := List.mem_map.mp hp
      rw [h2]
      exact List.mem_cons_of_mem _ (List.mem_map.mpr ⟨e, List.mem_filter.mpr ⟨he, decide_eq_true h1⟩, rfl⟩)
  · rcases List.mem_cons.mp hy with h | h
    · rw [h]
      exact hl.le j hj
    · obtain ⟨e, he, rfl⟩ := List.mem_map.mp h
      obtain ⟨h1, h2⟩ := List.mem_filter.mp he
      have h3 : e.1.1 = j := of_decide_eq_true h2
      have h4 := hl.pair e.1 (List.mem_map.mpr ⟨e, h1, rfl⟩)
      rw [h3] at h4
      exact h4
section
variable {P : Program} {w : World} {K : PySem.W.Frag} {mg : Str → Option Value} {base : Heap} {f : Addr} {fd : FuncData}
def spLaw (K : PySem.W.Frag) (Pt : Addr) : Sp := fun vs H Q _ => ∃ (sc : Addr) (ns : List Int), vs = [.ref sc] ∧ SqL K H sc (ns.map V.int) ∧ Tabs (lamT Pt) H ∧ ∀ H', Q (.bl true) H'
structure Cals (P : Program) (w : World) (K : PySem.W.Frag) (mg : Str → Option Value) (base : Heap) (Pt : Addr) : Prop where
  jobs : Cal P w K mg base "_law_jobs" 3 ["_law_row", "_law_most", "_law_time"] (spJobs K)
  pairs : Cal P w K mg base "_law_pairs" 3 ["_law_row", "_law_many"] (spPairs K)
  orders : Cal P w K mg base "_law_orders" 1 ["_law_many", "_law_pairs_here"] spOrders
  least : Cal P w K mg base "least_greatest" 7 ["times", "weights", "dues", "pairs"] (spLeast Pt)
  cost : Cal P w K mg base "greatest_cost" 6 ["times", "weights", "dues", "order"] spGreatestCost
  greatest : Cal P w K mg base "_law_greatest" 2 ["_law_times", "_law_weights", "_law_dues", "_law_order_here"] spGreatestIn
  order : Cal P w K mg base "_law_order" 2 ["_law_row", "_law_many"] (spOrder K)
  alike : Cal P w K mg base "_law_alike" 1 ["_law_found", "_law_due"] spAlike
  due : Cal P w K mg base "due_days" 5 ["times", "dues", "pairs"] spDueDays
  late : Cal P w K mg base "_law_late" 2 ["_law_times", "_law_dues", "_law_order_here"] spLate
theorem ok_law {Pt : Addr} (F : FnP K "law" sLaw f fd) (g : Gs mg) (C : Cals P w K mg base Pt) : FnOk P w K mg base CX0 8 f fd ["_law_script"] (spLaw K Pt) := by
  refine F.ok scLaw (fun vs H Q E h => ?_) (fun cdv A outer s H vs Q E hr h => ?_)
  · obtain ⟨sc, ns, rfl, _⟩ := h
    rfl
  · obtain ⟨sc, ns, rfl, hS, hT, q⟩ := h
    refine ⟨_, PSs.nox (pss_cons (ps_set (i := 1) scLaw.nd rfl (by first | exact .inl rfl | exact .inr rfl) (pe_lst (pa_cons (pv 0) (pa_cons pe_int (pa_cons pe_int (pa_cons pe_int pa_nil))))))
      (pss_cons (ps_asg (pe_cal C.jobs (hr.mono (by decide)) (pa_cons (pv 1) (pa_cons pe_int (pa_cons pe_int pa_nil))))
        (pg_tup rfl (pgs_cons (pg_name (i := 2) scLaw.nd rfl (by first | exact .inl rfl | exact .inr rfl)) (pgs_cons (pg_name (i := 3) scLaw.nd rfl (by first | exact .inl rfl | exact .inr rfl)) (pgs_cons (pg_name (i := 4) scLaw.nd rfl (by first | exact .inl rfl | exact .inr rfl)) pgs_nil)))))
      (pss_cons (ps_set (i := 5) scLaw.nd rfl (by first | exact .inl rfl | exact .inr rfl) (pe_callB (k_len (K := K) rfl) (by rfl) g.len boot_len (pa_cons (pv 2) pa_nil)))
      (pss_cons (ps_set (i := 6) scLaw.nd rfl (by first | exact .inl rfl | exact .inr rfl) (pe_cal C.pairs (hr.mono (by decide)) (pa_cons (pv 1) (pa_cons (pv 5) pa_nil))))
      (pss_cons (ps_set (i := 7) scLaw.nd rfl (by first | exact .inl rfl | exact .inr rfl) (pe_cal C.orders (hr.mono (by decide)) (pa_cons (pv 5) (pa_cons (pv 6) pa_nil))))
      (pss_cons (ps_set (i := 8) scLaw.nd rfl (by first | exact .inl rfl | exact .inr rfl) (pe_cal C.least hr (pa_cons (pv 2) (pa_cons (pv 3) (pa_cons (pv 4) (pa_cons (pv 6) pa_nil))))))
      (pss_cons (ps_if (PW.pt (pw_or (pt_cmpR (op_notInD (room65 hr)) (pv 8) (pv 7) (by rfl)) (pw_or1 (pt_cmpR op_ne (pe_cal C.cost (hr.mono (by decide)) (pa_cons (pv 2) (pa_cons (pv 3) (pa_cons (pv 4) (pa_cons (pv 8) pa_nil)))))
          (pe_callB (k_min (K := K) rfl rfl) (by rfl) g.min (by decide +kernel) (pa_cons
            (pe_lc (own := [("_law_order_here", 13)]) (g := gName 13) (by rfl) scLaw.nd (k_piL (K := K) rfl (pv 7)) (blkOk_by (N := nLaw) (sc := defScope sLaw) (by decide +kernel))
              (fun _ _ _ _ _ => pg_name (i := 13) scLaw.nd rfl (by first | exact .inl rfl | exact .inr rfl)) (fun _ _ _ _ _ => pts_nil) (fun _ _ _ _ _ => pe_cal C.greatest (hr.mono (by decide)) (pa_cons (pv 2) (pa_cons (pv 3) (pa_cons (pv 4) (pa_cons (pv 13) pa_nil)))))) pa_nil)) (nomark _)))))
        pss_never pss_nil)
      (pss_cons (ps_set (i := 9) scLaw.nd rfl (by first | exact .inl rfl | exact .inr rfl) (pe_cal C.order (hr.mono (by decide)) (pa_cons (pv 1) (pa_cons (pv 5) pa_nil))))
      (pss_cons (ps_if (pt_not (pt_val (pe_cal C.alike (hr.mono (by decide)) (pa_cons (pe_cal C.cost (hr.mono (by decide)) (pa_cons (pv 2) (pa_cons (pv 3) (pa_cons (pv 4) (pa_cons (pv 9) pa_nil))))) (pa_cons (pe_cal C.greatest (hr.mono (by decide)) (pa_cons (pv 2) (pa_cons (pv 3) (pa_cons (pv 4) (pa_cons (pv 9) pa_nil))))) pa_nil)))))
        pss_never pss_nil)
      (pss_cons (ps_set (i := 10) scLaw.nd rfl (by first | exact .inl rfl | exact .inr rfl) (pe_cal C.due (hr.mono (by decide)) (pa_cons (pv 2) (pa_cons (pv 4) (pa_cons (pv 6) pa_nil)))))
      (pss_cons (ps_for PassesOwn.never rfl (pi_range1 (by rfl) g.range (pa_cons (pv 5) pa_nil)) (pg_name (i := 11) scLaw.nd rfl (by first | exact .inl rfl | exact .inr rfl))
        (pss_cons (ps_set (i := 12) scLaw.nd rfl (by first | exact .inl rfl | exact .inr rfl) (pe_callB (k_min (K := K) rfl rfl) (by rfl) g.min (by decide +kernel) (pa_cons (pe_op op_cat (pe_lst (pa_cons (pe_ix (k_ixT (K := K) rfl) (pv 4) (pv 11) (fun _ _ => rfl)) pa_nil))
            (pe_lc (own := [("_law_one", 14), ("_law_other", 15)]) (g := gTup K 2 (gCons (gName 14) (gCons (gName 15) gNil))) (by rfl) scLaw.nd (k_piT (K := K) rfl (pv 6)) (blkOk_by (N := nLaw) (sc := defScope sLaw) (by decide +kernel))
              (fun _ _ _ _ _ => pg_tup rfl (pgs_cons (pg_name (i := 14) scLaw.nd rfl (by first | exact .inl rfl | exact .inr rfl)) (pgs_cons (pg_name (i := 15) scLaw.nd rfl (by first | exact .inl rfl | exact .inr rfl)) pgs_nil)))
              (fun _ _ _ _ _ => pts_one (pt_cmpR op_eq (pv 14) (pv 11) (nomark _))) (fun _ _ _ _ _ => pe_op op_sub (pe_ix (k_ixT (K := K) rfl) (pv 10) (pv 15) (fun _ _ => rfl)) (pe_ix (k_ixT (K := K) rfl) (pv 2) (pv 15) (fun _ _ => rfl))))) pa_nil)))
        (pss_one (ps_if (pt_cmpR op_ne (pe_ix (k_ixT (K := K) rfl) (pv 10) (pv 11) (fun _ _ => rfl)) (pv 12) (nomark _)) pss_never pss_nil))))
      (pss_one (ps_ret (pe_cmpR op_eq (pe_callB (k_min (K := K) rfl rfl) (by rfl) g.min (by decide +kernel) (pa_cons
            (pe_lc (own := [("_law_order_here", 13)]) (g := gName 13) (by rfl) scLaw.nd (k_piL (K := K) rfl (pv 7)) (blkOk_by (N := nLaw) (sc := defScope sLaw) (by decide +kernel))
              (fun _ _ _ _ _ => pg_name (i := 13) scLaw.nd rfl (by first | exact .inl rfl | exact .inr rfl)) (fun _ _ _ _ _ => pts_nil) (fun _ _ _ _ _ => pe_cal C.late (hr.mono (by decide)) (pa_cons (pv 2) (pa_cons (pv 10) (pa_cons (pv 13) pa_nil))))) pa_nil))
          (pe_callB (k_min (K := K) rfl rfl) (by rfl) g.min (by decide +kernel) (pa_cons
            (pe_lc (own := [("_law_order_here", 13)]) (g := gName 13) (by rfl) scLaw.nd (k_piL (K := K) rfl (pv 7)) (blkOk_by (N := nLaw) (sc := defScope sLaw) (by decide +kernel))
              (fun _ _ _ _ _ => pg_name (i := 13) scLaw.nd rfl (by first | exact .inl rfl | exact .inr rfl)) (fun _ _ _ _ _ => pts_nil) (fun _ _ _ _ _ => pe_cal C.late (hr.mono (by decide)) (pa_cons (pv 2) (pa_cons (pv 4) (pa_cons (pv 13) pa_nil))))) pa_nil)) (nomark _))))))))))))))), ?_⟩
    refine q_asgL (xs := [.ref sc, .int 0, .int 3906, .int 0]) (el_lst (ea_4 (ev_var rfl) ev_c ev_c ev_c) (by show 4 ≤ 100000; decide)) fun r H1 hr1 e1 h1 => ?_
    have hR1 : RowAt K r sc ns H1 := ⟨ex_l e1 hS, 0, 3906, 0, by decide, h1⟩
    refine s_asgG (ea_3 (ev_var rfl) ev_c ev_c H1 (Ex.refl _) _ fun H1' e1' => ⟨r, sc, ns, rfl, hR1.ex e1', fun T a b c n t w d H2 hT2 I2 hn5 x2 => g_three hT2 ?_⟩)
    have hT3 : Tabs (lamT Pt) H2 := tabs_xr (hR1.ex e1') x2 (((hT.ext e1).ext e1'))
    have hR2 := x2.2
    have n1 := I2.jb.n1
    refine q_asg (v := nv n) (ev_cb (ea_1 (ev_var rfl)) (rc_lenF I2.ha)) fun H3 e3 => ?_
    have I3 := I2.ex e3
    have hR3 := hR2.ex e3
    refine s_asgRaw (ea_2 (ev_var rfl) (ev_var rfl) H3 (Ex.refl _) _ fun H3' e3' => ⟨r, sc, ns, n, rfl, hR3.ex e3', hn5, fun p o rk H4 p4 pc hrk x4 => ?_⟩)
    have I4 : Ins H4 a b c n t w d := (I3.ex e3').xr (hR3.ex e3') x4
    have hT4 : Tabs (lamT Pt) H4 := tabs_xr (hR3.ex e3') x4 ((hT3.ext e3).ext e3')
    have hR4 := x4.2
    refine s_asgRaw (ea_2 (ev_var rfl) (ev_var rfl) H4 (Ex.refl _) _ fun H4' e4' => ⟨p, n, o, rfl, p4.ex e4', hn5, pc.len, fun l os H5 e5 w5 ho => ?_⟩)
    have e45 := e4'.trans e5
    refine s_asgRaw (ea_4 (ev_var rfl) (ev_var rfl) (ev_var rfl) (ev_var rfl) H5 (Ex.refl _) _ fun H5' e5' => ⟨a, b, c, p, n, t, w, d, o, rk, rfl, I4.ex (e45.trans e5'), p4.ex (e45.trans e5'), pc, hT4.ext (e45.trans e5'), fun pb H6 best e6 hT6 hb6 fb mb => ?_⟩)
    have I6 : Ins H6 a b c n t w d := (I4.ex (e45.trans e5')).exN e6
    have p6 : PrsAt H6 p o := (p4.ex (e45.trans e5')).exN e6
    have w6 : OW H6 l os := (w5.ex e5').exN e6
    have hR6 : RowAt K r sc ns H6 := (hR4.ex (e45.trans e5')).exN e6
    have n2 := I6.jb.n2
    have every : ∀ x, x ∈ os.map Prod.fst ↔ Feas n (prs o) x := fun x => by rw [ho]; exact mem_every
    have hbm : best ∈ os.map Prod.fst := (every best).mpr fb
    have hne : os ≠ [] := fun z => by
      rw [z] at hbm
      cases hbm
    have los : os.length ≤ 3125 := by
      have h1 : os.length = (orders n (prs o) n).length := by rw [← ho, List.length_map]
      have h2 := orders_len n (prs o) n
      have h3 : n ^ n ≤ 5 ^ 5 := Nat.le_trans (Nat.pow_le_pow_left hn5 n) (Nat.pow_le_pow_right (by decide) hn5)
      have h4 : (5 : Nat) ^ 5 = 3125 := by decide
      omega
    have feas : ∀ e ∈ os, Feas n (prs o) e.1 := fun e he => (every e.1).mp (List.mem_map.mpr ⟨e, he, rfl⟩)
    have nd : ∀ x, Feas n (prs o) x → x.Nodup ∧ ∀ j ∈ x, j < n := fun x hx => ⟨hx.1.nodup_iff.mpr List.nodup_range, fun j hj => List.mem_range.mp (hx.1.mem_iff.mp hj)⟩
    have hmin : gst n t w d best = imn ((os.map Prod.fst).map (gst n t w d)) := imn_eq (List.mem_map.mpr ⟨best, hbm, rfl⟩) fun y hy => by
      obtain ⟨x, hx, rfl⟩ := List.mem_map.mp hy
      exact mb x ((every x).mp hx)
    refine q_when (b := false) (et_or (a := false) (b := false) (et_test (ev_notIn (ev_var rfl) (ev_var rfl) hb6 w6 hbm)) fun _ => ev_neI (K := K) (i := gst n t w d best) (j := imn ((os.map Prod.fst).map (gst n t w d)))
        (ev_call (ea_4 (ev_var rfl) (ev_var rfl) (ev_var rfl) (ev_var rfl)) fun H7 e Q q E => ⟨a, b, c, pb, n, t, w, d, best, rfl, I6.ex e, e _ _ hb6, fb.1, q⟩) (ev_minO ?_ hne) hmin) (fun z => nomatch z) fun _ H7 e7 => ?_
    · refine el_lcM os (fun e => V.ref e.2) (fun e => [some (.ref sc), some (.ref r), some (.ref a), some (.ref b), some (.ref c), some (nv n), some (.ref p), some (.ref l), some (.ref pb), none, none, none, none, some (.ref e.2), none, none]) _ (w1_list (ev_var rfl) w6.1) (by omega) (fun j _ H1 _ Q q => q) (fun j _ => rfl) fun e he H7 e7 => ?_
      exact ev_call (ea_4 (ev_var rfl) (ev_var rfl) (ev_var rfl) (ev_var rfl)) fun H8 e8 Q q E => ⟨a, b, c, e.2, n, t, w, d, e.1, rfl, (I6.ex e7).ex e8, e8 _ _ (e7 _ _ (w6.2 e he)), (nd _ (feas e he)).1, (nd _ (feas e he)).2, q⟩
    have hR7 := hR6.ex e7
    have I7 := I6.ex e7
    have p7 := p6.ex e7
    have w7 := w6.ex e7
    refine s_asgRaw (ea_2 (ev_var rfl) (ev_var rfl) H7 (Ex.refl _) _ fun H7' e7' => ⟨r, sc, ns, n, rfl, hR7.ex e7', by omega, fun pd dr H8 hdp x8 hd8 => ?_⟩)
    have I8 : Ins H8 a b c n t w d := (I7.ex e7').xr (hR7.ex e7') x8
    have p8 : PrsAt H8 p o := (p7.ex e7').xr (hR7.ex e7') x8
    have w8 : OW H8 l os := (w7.ex e7').xr (hR7.ex e7') x8
    refine q_when (b := false) (et_not (a := true) (et_B (ev_call (vs := [.int (gst n t w d dr), .int (gst n t w d dr)]) (ea_2 (ev_call (ea_4 (ev_var rfl) (ev_var rfl) (ev_var rfl) (ev_var rfl)) fun H9 e Q q E => ⟨a, b, c, pd, n, t, w, d, dr, rfl, I8.ex e, e _ _ hd8, hdp, q⟩)
        (ev_call (ea_4 (ev_var rfl) (ev_var rfl) (ev_var rfl) (ev_var rfl)) fun H9 e Q q E => ⟨a, b, c, pd, n, t, w, d, dr, rfl, I8.ex e, e _ _ hd8, hdp.nodup_iff.mpr List.nodup_range, fun j hj => List.mem_range.mp (hdp.mem_iff.mp hj), q⟩)) fun H9 e Q q E => ⟨_, rfl, q⟩))) (fun z => nomatch z) fun _ H9 e9 => ?_
    have I9 := I8.ex e9
    have p9 := p8.ex e9
    have w9 := w8.ex e9
    refine s_asgRaw (ea_3 (ev_var rfl) (ev_var rfl) (ev_var rfl) H9 (Ex.refl _) _ fun H9' e9' => ⟨a, c, p, n, t, d, o, rk, rfl, e9' _ _ I9.ha, e9' _ _ I9.hc, n1, n2, I9.jb.ht, I9.jb.hd, p9.ex e9', pc, fun pl H10 hpl e10 hl10 => ?_⟩)
    have e91 := e9'.trans e10
    have I10 := I9.ex e91
    have p10 := p9.ex e91
    have w10 := w9.ex e91
    have hrng : ∀ x, x ∈ prs o → x.1 < n ∧ x.2 < n := fun x hx => ⟨(pc.rng x hx).1, (pc.rng x hx).2.1⟩
    have hlow : Low n (prs o) t d (relN t d (prs o) n) := relN_is pc.rk hrk hrng
    have ht0 : ∀ j, 0 ≤ t j := fun j => Int.le_trans (by decide) (I10.jb.ht j).1
    generalize relN t d (prs o) n = L at hl10 hlow
    refine q_forR1 (n := (n : Int)) (ea_1 (ev_var rfl)) (by omega) (fun i σ' H' => ∃ y11 y12, σ' = [some (.ref sc), some (.ref r), some (.ref a), some (.ref b), some (.ref c), some (nv n), some (.ref p), some (.ref l), some (.ref pb), some (.ref pd), some (.ref pl), y11, y12, none, none, none] ∧ Ex H10 H') (fun H11 e11 => ⟨none, none, rfl, e11⟩) ?_ ?_
    · rintro i σ' H' hi ⟨y11, y12, rfl, e11⟩
      have hin : i < n := by omega
      refine q_asg (v := .int (L i)) (ev_is (ev_minN (ns := d i :: (o.filter fun e => decide (e.1.1 = i)).map fun e => L e.1.2 - t e.1.2) ?_ (List.cons_ne_nil _ _)) (congrArg V.int (low_min hlow hin))) fun H12 e12 => ?_
      · have h40 := pc.len
        have hfl := List.length_filter_le (fun e : Pr2 => decide (e.1.1 = i)) o
        show EvL _ _ _ ([V.int (d i)] ++ ((o.filter fun e => decide (e.1.1 = i)).map fun e => L e.1.2 - t e.1.2).map V.int)
        refine el_cat ?_ ?_ ?_
        · exact el_lst (ea_1 (ev_jobT (j := i) (ev_var rfl) (ev_var rfl) (e11 _ _ I10.hc) hin)) (by show 1 ≤ 100000; decide)
        rotate_left
        · rw [List.length_map, List.length_map]
          show 1 + _ ≤ _
          omega
        rw [List.map_map]
        refine el_lcG o (fun e => V.ref e.2) (fun e => [some (.ref sc), some (.ref r), some (.ref a), some (.ref b), some (.ref c), some (nv n), some (.ref p), some (.ref l), some (.ref pb), some (.ref pd), some (.ref pl), some (.int (i : Nat)), y12, none, some (nv e.1.1), some (nv e.1.2)]) (fun e => decide (e.1.1 = i)) _ (w1_tup (ev_var rfl) (e11 _ _ p10.1)) (by omega)
          (fun e he H1 e1 Q q => g_two (e1 _ _ (e11 _ _ (p10.2 e he))) q) (fun j _ => rfl) (fun e he H1 e1 => ?_) (fun e he H1 e1 _ => ?_)
        · exact et_test (b := decide (e.1.1 = i)) (ev_eqN (a := e.1.1) (b := i) (ev_var rfl) (ev_var rfl))
        have hj := (hrng e.1 (mem_prs he)).2
        exact ev_op (ev_jobT (j := e.1.2) (ev_var rfl) (ev_var rfl) (e1 _ _ (e11 _ _ hl10)) hj) (ev_jobT (j := e.1.2) (ev_var rfl) (ev_var rfl) (e1 _ _ (e11 _ _ I10.ha)) hj) rv_I0
      · exact s_when (b := false) (ev_neI (K := K) (i := L i) (j := L i) (ev_jobT (j := i) (ev_var rfl) (ev_var rfl) (e12 _ _ (e11 _ _ hl10)) hin) (ev_var rfl) rfl) (fun z => nomatch z) fun _ H13 e13 => ⟨_, _, rfl, (e11.trans e12).trans e13⟩
    · rintro σ' H' ⟨y11, y12, rfl, e11⟩
      have eqL : (os.map Prod.fst).map (lat n t L) = (os.map Prod.fst).map (lat n t d) := List.map_congr_left fun x hx => eq_of_le fun cc => by
        rw [lat_le n1, lat_le n1]
        exact late_same ht0 ((every x).mp hx) hlow pc.rk hrk hrng cc
      have row : ∀ {dd : Addr} {D : Nat → Int} {te : TE}, H' dd = some (.tup (fl n D)) → (∀ e : Or2, ∀ H1, Ev te [some (.ref sc), some (.ref r), some (.ref a), some (.ref b), some (.ref c), some (nv n), some (.ref p), some (.ref l), some (.ref pb), some (.ref pd), some (.ref pl), y11, y12, some (.ref e.2), none, none] H1 (.ref dd)) →
          ∀ E : XK, Ev (tCB (rMin K) (tCons (tLc (iList K (tVar 7)) (gName 13) tYes (tCall spLate [] E (tCons (tVar 2) (tCons te (tCons (tVar 13) tNil)))) [13]) tNil)) [some (.ref sc), some (.ref r), some (.ref a), some (.ref b), some (.ref c), some (nv n), some (.ref p), some (.ref l), some (.ref pb), some (.ref pd), some (.ref pl), y11, y12, none, none, none] H' (.int (imn ((os.map Prod.fst).map (lat n t D)))) := fun {dd D te} hdd hte E => by
        refine ev_minO ?_ hne
        refine el_lcM os (fun e => V.ref e.2) (fun e => [some (.ref sc), some (.ref r), some (.ref a), some (.ref b), some (.ref c), some (nv n), some (.ref p), some (.ref l), some (.ref pb), some (.ref pd), some (.ref pl), y11, y12, some (.ref e.2), none, none]) _ (w1_list (ev_var rfl) (e11 _ _ w10.1)) (by omega) (fun j _ H1 _ Q q => q) (fun j _ => rfl) fun e he H12 e12 => ?_
        exact ev_call (ea_3 (ev_var rfl) (hte e H12) (ev_var rfl)) fun H13 e13 Q q E => ⟨a, dd, e.2, n, t, D, e.1, rfl, e13 _ _ (e12 _ _ (e11 _ _ I10.ha)), e13 _ _ (e12 _ _ hdd), e13 _ _ (e12 _ _ (e11 _ _ (w10.2 e he))), n1, by omega, (nd _ (feas e he)).1, (nd _ (feas e he)).2, q⟩
      exact s_ret (ev_is (ev_op (row (e11 _ _ hl10) (fun e H1 => ev_var rfl) _) (row (e11 _ _ I10.hc) (fun e H1 => ev_var rfl) _) (rv_eq rfl)) (congrArg V.bl (decide_eq_true (congrArg (fun z => V.int (imn z)) eqL)))) fun H12 e12 => q H12
end
end K6
set_option Elab.async false
set_option linter.all false
set_option maxRecDepth 100000
set_option maxHeartbeats 0
/-! The promises put together, the end. -/
namespace K6
open PySem PySem.Spec PyProof.Rows L2
theorem mkCal {P : Program} {w : World} {K : PySem.W.Frag} {mg : Str → Option Value} {base : Heap} {x : Str} {st : Stmt} {k : Nat} {ps : List Str} {sp : Sp} {f : Addr} {fd : FuncData} (F : FnP K x st f fd) (ok : FnOk P w K mg base CX0 k f fd ps sp) (m : mg x = some (.ref f)) (b : Binds K fd ps []) :
    Cal P w K mg base x k ps sp := ⟨f, fd, ok, m, F.kp, b⟩
/-- what the head tells of the built-in names and the constants -/
theorem mkGs {K : PySem.W.Frag} {h : Heap} {mg : Str → Option Value} (X : K.In h) (G : h.Ns mainGlobals mg) (c : He.SaysD fa fn K) : Gs mg where
  isinstance := He.free_ok X G (c.fact 31 (f := .free "isinstance") rfl)
  int := He.free_ok X G (c.fact 32 (f := .free "int") rfl)
  bool := He.free_ok X G (c.fact 33 (f := .free "bool") rfl)
  tuple := He.free_ok X G (c.fact 34 (f := .free "tuple") rfl)
  len := He.free_ok X G (c.fact 35 (f := .free "len") rfl)
  enumerate := He.free_ok X G (c.fact 36 (f := .free "enumerate") rfl)
  all := He.free_ok X G (c.fact 37 (f := .free "all") rfl)
  set := He.free_ok X G (c.fact 38 (f := .free "set") rfl)
  range := He.free_ok X G (c.fact 39 (f := .free "range") rfl)
  max := He.free_ok X G (c.fact 40 (f := .free "max") rfl)
  zip := He.free_ok X G (c.fact 41 (f := .free "zip") rfl)
  list := He.free_ok X G (c.fact 42 (f := .free "list") rfl)
  sum := He.free_ok X G (c.fact 43 (f := .free "sum") rfl)
  min := He.free_ok X G (c.fact 44 (f := .free "min") rfl)
  reversed := He.free_ok X G (c.fact 45 (f := .free "reversed") rfl)
  str := He.free_ok X G (c.fact 46 (f := .free "str") rfl)
  any := He.free_ok X G (c.fact 47 (f := .free "any") rfl)
  mJobs := He.int_ok X G (c.fact 48 (f := .int "MOST_JOBS" 10) rfl)
  mTime := He.int_ok X G (c.fact 49 (f := .int "MOST_TIME" 60) rfl)
  mWeight := He.int_ok X G (c.fact 50 (f := .int "MOST_WEIGHT" 60) rfl)
  mDay := He.int_ok X G (c.fact 51 (f := .int "MOST_DAY" 600) rfl)
  mPairs := He.int_ok X G (c.fact 52 (f := .int "MOST_PAIRS" 40) rfl)
section
variable {P : Program} {w : World} {K : PySem.W.Frag} {h base : Heap} {mg : Str → Option Value}
theorem mkIsInteger (X : K.In h) (G : h.Ns mainGlobals mg) (c : He.SaysD fa fn K) (g : Gs mg) : Cal P w K mg base "is_integer" 1 ["value"] spIsInteger := by
  obtain ⟨fd, F⟩ := c.def_ 0 (d := dIsInteger) rfl
  have F : FnP K "is_integer" sIsInteger (He.ga K "is_integer") fd := F
  exact mkCal F (ok_isInteger F g) (He.glo_ok X G (c.fact 0 (f := .glo "is_integer") rfl)) (biIsInteger F)
theorem mkIsIn (X : K.In h) (G : h.Ns mainGlobals mg) (c : He.SaysD fa fn K) (g : Gs mg) (cIsInteger : Cal P w K mg base "is_integer" 1 ["value"] spIsInteger) : Cal P w K mg base "is_in" 2 ["value", "least", "most"] spIsIn := by
  obtain ⟨fd, F⟩ := c.def_ 1 (d := dIsIn) rfl
  have F : FnP K "is_in" sIsIn (He.ga K "is_in") fd := F
  exact mkCal F (ok_isIn F cIsInteger) (He.glo_ok X G (c.fact 1 (f := .glo "is_in") rfl)) (biIsIn F)
theorem mkIsList (X : K.In h) (G : h.Ns mainGlobals mg) (c : He.SaysD fa fn K) (g : Gs mg) : Cal P w K mg base "is_list" 1 ["value", "least", "most"] spIsList := by
  obtain ⟨fd, F⟩ := c.def_ 2 (d := dIsList) rfl
  have F : FnP K "is_list" sIsList (He.ga K "is_list") fd := F
  exact mkCal F (ok_isList F g) (He.glo_ok X G (c.fact 2 (f := .glo "is_list") rfl)) (biIsList F)
theorem mkFirstBad (X : K.In h) (G : h.Ns mainGlobals mg) (c : He.SaysD fa fn K) (g : Gs mg) (cIsList : Cal P w K mg base "is_list" 1 ["value", "least", "most"] spIsList) (cIsIn : Cal P w K mg base "is_in" 2 ["value", "least", "most"] spIsIn) : Cal P w K mg base "first_bad" 3 ["value", "many", "low", "high"] spFirstBad := by
  obtain ⟨fd, F⟩ := c.def_ 3 (d := dFirstBad) rfl
  have F : FnP K "first_bad" sFirstBad (He.ga K "first_bad") fd := F
  exact mkCal F (ok_firstBad F g cIsList cIsIn) (He.glo_ok X G (c.fact 3 (f := .glo "first_bad") rfl)) (biFirstBad F)
theorem mkNeedTimes (X : K.In h) (G : h.Ns mainGlobals mg) (c : He.SaysD fa fn K) (g : Gs mg) (cIsList : Cal P w K mg base "is_list" 1 ["value", "least", "most"] spIsList) (cFirstBad : Cal P w K mg base "first_bad" 3 ["value", "many", "low", "high"] spFirstBad) : Cal P w K mg base "need_times" 4 ["times"] spNeedTimes := by
  obtain ⟨fd, F⟩ := c.def_ 4 (d := dNeedTimes) rfl
  have F : FnP K "need_times" sNeedTimes (He.ga K "need_times") fd := F
  exact mkCal F (ok_needTimes F g cIsList cFirstBad) (He.glo_ok X G (c.fact 4 (f := .glo "need_times") rfl)) (biNeedTimes F)
theorem mkNeedWeights (X : K.In h) (G : h.Ns mainGlobals mg) (c : He.SaysD fa fn K) (g : Gs mg) (cFirstBad : Cal P w K mg base "first_bad" 3 ["value", "many", "low", "high"] spFirstBad) : Cal P w K mg base "need_weights" 4 ["weights", "many"] (spNeedW 0 60) := by
  obtain ⟨fd, F⟩ := c.def_ 5 (d := dNeedWeights) rfl
  have F : FnP K "need_weights" sNeedWeights (He.ga K "need_weights") fd := F
  exact mkCal F (ok_needWeights F g cFirstBad) (He.glo_ok X G (c.fact 5 (f := .glo "need_weights") rfl)) (biNeedWeights F)
theorem mkNeedDues (X : K.In h) (G : h.Ns mainGlobals mg) (c : He.SaysD fa fn K) (g : Gs mg) (cFirstBad : Cal P w K mg base "first_bad" 3 ["value", "many", "low", "high"] spFirstBad) : Cal P w K mg base "need_dues" 4 ["dues", "many"] (spNeedW 0 600) := by
  obtain ⟨fd, F⟩ := c.def_ 6 (d := dNeedDues) rfl
  have F : FnP K "need_dues" sNeedDues (He.ga K "need_dues") fd := F
  exact mkCal F (ok_needDues F g cFirstBad) (He.glo_ok X G (c.fact 6 (f := .glo "need_dues") rfl)) (biNeedDues F)
theorem mkAbleJobs (X : K.In h) (G : h.Ns mainGlobals mg) (c : He.SaysD fa fn K) (g : Gs mg) : Cal P w K mg base "able_jobs" 1 ["pairs", "done", "many"] spAbleJobs := by
  obtain ⟨fd, F⟩ := c.def_ 11 (d := dAbleJobs) rfl
  have F : FnP K "able_jobs" sAbleJobs (He.ga K "able_jobs") fd := F
  exact mkCal F (ok_ableJobs F g) (He.glo_ok X G (c.fact 11 (f := .glo "able_jobs") rfl)) (biAbleJobs F)
theorem mkFirstOrder (X : K.In h) (G : h.Ns mainGlobals mg) (c : He.SaysD fa fn K) (g : Gs mg) (cAbleJobs : Cal P w K mg base "able_jobs" 1 ["pairs", "done", "many"] spAbleJobs) : Cal P w K mg base "first_order" 2 ["pairs", "many"] spFirstOrder := by
  obtain ⟨fd, F⟩ := c.def_ 10 (d := dFirstOrder) rfl
  have F : FnP K "first_order" sFirstOrder (He.ga K "first_order") fd := F
  exact mkCal F (ok_firstOrder F g cAbleJobs) (He.glo_ok X G (c.fact 10 (f := .glo "first_order") rfl)) (biFirstOrder F)
theorem mkNeedPairs (X : K.In h) (G : h.Ns mainGlobals mg) (c : He.SaysD fa fn K) (g : Gs mg) (cIsList : Cal P w K mg base "is_list" 1 ["value", "least", "most"] spIsList) (cIsIn : Cal P w K mg base "is_in" 2 ["value", "least", "most"] spIsIn) (cFirstOrder : Cal P w K mg base "first_order" 2 ["pairs", "many"] spFirstOrder) : Cal P w K mg base "need_pairs" 3 ["pairs", "many"] spNeedPairs := by
  obtain ⟨fd, F⟩ := c.def_ 9 (d := dNeedPairs) rfl
  have F : FnP K "need_pairs" sNeedPairs (He.ga K "need_pairs") fd := F
  exact mkCal F (ok_needPairs F g cIsList cIsIn cFirstOrder) (He.glo_ok X G (c.fact 9 (f := .glo "need_pairs") rfl)) (biNeedPairs F)
theorem mkIsOrder (X : K.In h) (G : h.Ns mainGlobals mg) (c : He.SaysD fa fn K) (g : Gs mg) (cIsList : Cal P w K mg base "is_list" 1 ["value", "least", "most"] spIsList) (cIsIn : Cal P w K mg base "is_in" 2 ["value", "least", "most"] spIsIn) : Cal P w K mg base "is_order" 3 ["value", "many"] spIsOrder := by
  obtain ⟨fd, F⟩ := c.def_ 7 (d := dIsOrder) rfl
  have F : FnP K "is_order" sIsOrder (He.ga K "is_order") fd := F
  exact mkCal F (ok_isOrder F g cIsList cIsIn) (He.glo_ok X G (c.fact 7 (f := .glo "is_order") rfl)) (biIsOrder F)
theorem mkNeedOrder (X : K.In h) (G : h.Ns mainGlobals mg) (c : He.SaysD fa fn K) (g : Gs mg) (cIsOrder : Cal P w K mg base "is_order" 3 ["value", "many"] spIsOrder) : Cal P w K mg base "need_order" 4 ["order", "many"] spNeedOrder := by
  obtain ⟨fd, F⟩ := c.def_ 8 (d := dNeedOrder) rfl
  have F : FnP K "need_order" sNeedOrder (He.ga K "need_order") fd := F
  exact mkCal F (ok_needOrder F cIsOrder) (He.glo_ok X G (c.fact 8 (f := .glo "need_order") rfl)) (biNeedOrder F)
theorem mkNeedWeighed (X : K.In h) (G : h.Ns mainGlobals mg) (c : He.SaysD fa fn K) (g : Gs mg) (cNeedTimes : Cal P w K mg base "need_times" 4 ["times"] spNeedTimes) (cNeedWeights : Cal P w K mg base "need_weights" 4 ["weights", "many"] (spNeedW 0 60)) : Cal P w K mg base "need_weighed" 5 ["times", "weights"] spNeedWeighed := by
  obtain ⟨fd, F⟩ := c.def_ 13 (d := dNeedWeighed) rfl
  have F : FnP K "need_weighed" sNeedWeighed (He.ga K "need_weighed") fd := F
  exact mkCal F (ok_needWeighed F g cNeedTimes cNeedWeights) (He.glo_ok X G (c.fact 13 (f := .glo "need_weighed") rfl)) (biNeedWeighed F)
theorem mkNeedCosts (X : K.In h) (G : h.Ns mainGlobals mg) (c : He.SaysD fa fn K) (g : Gs mg) (cNeedWeighed : Cal P w K mg base "need_weighed" 5 ["times", "weights"] spNeedWeighed) (cNeedDues : Cal P w K mg base "need_dues" 4 ["dues", "many"] (spNeedW 0 600)) (cNeedPairs : Cal P w K mg base "need_pairs" 3 ["pairs", "many"] spNeedPairs) : Cal P w K mg base "need_costs" 6 ["times", "weights", "dues", "pairs"] spNeedCosts := by
  obtain ⟨fd, F⟩ := c.def_ 14 (d := dNeedCosts) rfl
  have F : FnP K "need_costs" sNeedCosts (He.ga K "need_costs") fd := F
  exact mkCal F (ok_needCosts F g cNeedWeighed cNeedDues cNeedPairs) (He.glo_ok X G (c.fact 14 (f := .glo "need_costs") rfl)) (biNeedCosts F)
theorem mkCostAt (X : K.In h) (G : h.Ns mainGlobals mg) (c : He.SaysD fa fn K) (g : Gs mg) : Cal P w K mg base "cost_at" 1 ["weight", "due", "end"] spCostAt := by
  obtain ⟨fd, F⟩ := c.def_ 15 (d := dCostAt) rfl
  have F : FnP K "cost_at" sCostAt (He.ga K "cost_at") fd := F
  exact mkCal F (ok_costAt F g) (He.glo_ok X G (c.fact 15 (f := .glo "cost_at") rfl)) (biCostAt F)
theorem mkEndsIn (X : K.In h) (G : h.Ns mainGlobals mg) (c : He.SaysD fa fn K) (g : Gs mg) : Cal P w K mg base "ends_in" 1 ["times", "order"] spEndsIn := by
  obtain ⟨fd, F⟩ := c.def_ 12 (d := dEndsIn) rfl
  have F : FnP K "ends_in" sEndsIn (He.ga K "ends_in") fd := F
  exact mkCal F (ok_endsIn F g) (He.glo_ok X G (c.fact 12 (f := .glo "ends_in") rfl)) (biEndsIn F)
theorem mkGreatestIn (X : K.In h) (G : h.Ns mainGlobals mg) (c : He.SaysD fa fn K) (g : Gs mg) (cEndsIn : Cal P w K mg base "ends_in" 1 ["times", "order"] spEndsIn) (cCostAt : Cal P w K mg base "cost_at" 1 ["weight", "due", "end"] spCostAt) : Cal P w K mg base "greatest_in" 2 ["times", "weights", "dues", "order"] spGreatestIn := by
  obtain ⟨fd, F⟩ := c.def_ 16 (d := dGreatestIn) rfl
  have F : FnP K "greatest_in" sGreatestIn (He.ga K "greatest_in") fd := F
  exact mkCal F (ok_greatestIn F g cEndsIn cCostAt) (He.glo_ok X G (c.fact 16 (f := .glo "greatest_in") rfl)) (biGreatestIn F)
theorem mkGreatestCost (X : K.In h) (G : h.Ns mainGlobals mg) (c : He.SaysD fa fn K) (g : Gs mg) (cNeedWeighed : Cal P w K mg base "need_weighed" 5 ["times", "weights"] spNeedWeighed) (cNeedDues : Cal P w K mg base "need_dues" 4 ["dues", "many"] (spNeedW 0 600)) (cNeedOrder : Cal P w K mg base "need_order" 4 ["order", "many"] spNeedOrder) (cGreatestIn : Cal P w K mg base "greatest_in" 2 ["times", "weights", "dues", "order"] spGreatestIn) : Cal P w K mg base "greatest_cost" 6 ["times", "weights", "dues", "order"] spGreatestCost := by
  obtain ⟨fd, F⟩ := c.def_ 17 (d := dGreatestCost) rfl
  have F : FnP K "greatest_cost" sGreatestCost (He.ga K "greatest_cost") fd := F
  exact mkCal F (ok_greatestCost F g cNeedWeighed cNeedDues cNeedOrder cGreatestIn) (He.glo_ok X G (c.fact 17 (f := .glo "greatest_cost") rfl)) (biGreatestCost F)
theorem mkDueDays (X : K.In h) (G : h.Ns mainGlobals mg) (c : He.SaysD fa fn K) (g : Gs mg) (cNeedTimes : Cal P w K mg base "need_times" 4 ["times"] spNeedTimes) (cNeedDues : Cal P w K mg base "need_dues" 4 ["dues", "many"] (spNeedW 0 600)) (cNeedPairs : Cal P w K mg base "need_pairs" 3 ["pairs", "many"] spNeedPairs) : Cal P w K mg base "due_days" 5 ["times", "dues", "pairs"] spDueDays := by
  obtain ⟨fd, F⟩ := c.def_ 19 (d := dDueDays) rfl
  have F : FnP K "due_days" sDueDays (He.ga K "due_days") fd := F
  exact mkCal F (ok_dueDays F g cNeedTimes cNeedDues cNeedPairs) (He.glo_ok X G (c.fact 19 (f := .glo "due_days") rfl)) (biDueDays F)
theorem mkTaken (X : K.In h) (G : h.Ns mainGlobals mg) (c : He.SaysD fa fn K) (g : Gs mg) : Cal P w K mg base "_law_taken" 1 ["_law_row", "_law_many"] (spTaken K) := by
  obtain ⟨fd, F⟩ := c.def_ 20 (d := dTaken) rfl
  have F : FnP K "_law_taken" sTaken (He.ga K "_law_taken") fd := F
  exact mkCal F (ok_taken F g) (He.glo_ok X G (c.fact 20 (f := .glo "_law_taken") rfl)) (biTaken F)
theorem mkPick (X : K.In h) (G : h.Ns mainGlobals mg) (c : He.SaysD fa fn K) (g : Gs mg) (cTaken : Cal P w K mg base "_law_taken" 1 ["_law_row", "_law_many"] (spTaken K)) : Cal P w K mg base "_law_pick" 2 ["_law_row", "_law_things"] (spPick K) := by
  obtain ⟨fd, F⟩ := c.def_ 21 (d := dPick) rfl
  have F : FnP K "_law_pick" sPick (He.ga K "_law_pick") fd := F
  exact mkCal F (ok_pick F g cTaken) (He.glo_ok X G (c.fact 21 (f := .glo "_law_pick") rfl)) (biPick F)
theorem mkAlike (X : K.In h) (G : h.Ns mainGlobals mg) (c : He.SaysD fa fn K) (g : Gs mg) : Cal P w K mg base "_law_alike" 1 ["_law_found", "_law_due"] spAlike := by
  obtain ⟨fd, F⟩ := c.def_ 22 (d := dAlike) rfl
  have F : FnP K "_law_alike" sAlike (He.ga K "_law_alike") fd := F
  exact mkCal F (ok_alike F g) (He.glo_ok X G (c.fact 22 (f := .glo "_law_alike") rfl)) (biAlike F)
theorem mkJobs (X : K.In h) (G : h.Ns mainGlobals mg) (c : He.SaysD fa fn K) (g : Gs mg) (cTaken : Cal P w K mg base "_law_taken" 1 ["_law_row", "_law_many"] (spTaken K)) (cPick : Cal P w K mg base "_law_pick" 2 ["_law_row", "_law_things"] (spPick K)) : Cal P w K mg base "_law_jobs" 3 ["_law_row", "_law_most", "_law_time"] (spJobs K) := by
  obtain ⟨fd, F⟩ := c.def_ 23 (d := dJobs) rfl
  have F : FnP K "_law_jobs" sJobs (He.ga K "_law_jobs") fd := F
  exact mkCal F (ok_jobs F g cTaken cPick) (He.glo_ok X G (c.fact 23 (f := .glo "_law_jobs") rfl)) (biJobs F)
theorem mkOrder (X : K.In h) (G : h.Ns mainGlobals mg) (c : He.SaysD fa fn K) (g : Gs mg) (cTaken : Cal P w K mg base "_law_taken" 1 ["_law_row", "_law_many"] (spTaken K)) : Cal P w K mg base "_law_order" 2 ["_law_row", "_law_many"] (spOrder K) := by
  obtain ⟨fd, F⟩ := c.def_ 24 (d := dOrder) rfl
  have F : FnP K "_law_order" sOrder (He.ga K "_law_order") fd := F
  exact mkCal F (ok_order F g cTaken) (He.glo_ok X G (c.fact 24 (f := .glo "_law_order") rfl)) (biOrder F)
theorem mkOrders (X : K.In h) (G : h.Ns mainGlobals mg) (c : He.SaysD fa fn K) (g : Gs mg) : Cal P w K mg base "_law_orders" 1 ["_law_many", "_law_pairs_here"] spOrders := by
  obtain ⟨fd, F⟩ := c.def_ 25 (d := dOrders) rfl
  have F : FnP K "_law_orders" sOrders (He.ga K "_law_orders") fd := F
  exact mkCal F (ok_orders F g) (He.glo_ok X G (c.fact 25 (f := .glo "_law_orders") rfl)) (biOrders F)
theorem mkEnds (X : K.In h) (G : h.Ns mainGlobals mg) (c : He.SaysD fa fn K) (g : Gs mg) : Cal P w K mg base "_law_ends" 1 ["_law_times", "_law_order_here"] spEndsIn := by
  obtain ⟨fd, F⟩ := c.def_ 26 (d := dEnds) rfl
  have F : FnP K "_law_ends" sEnds (He.ga K "_law_ends") fd := F
  exact mkCal F (ok_ends F g) (He.glo_ok X G (c.fact 26 (f := .glo "_law_ends") rfl)) (biEnds F)
theorem mkLate (X : K.In h) (G : h.Ns mainGlobals mg) (c : He.SaysD fa fn K) (g : Gs mg) (cEnds : Cal P w K mg base "_law_ends" 1 ["_law_times", "_law_order_here"] spEndsIn) : Cal P w K mg base "_law_late" 2 ["_law_times", "_law_dues", "_law_order_here"] spLate := by
  obtain ⟨fd, F⟩ := c.def_ 27 (d := dLate) rfl
  have F : FnP K "_law_late" sLate (He.ga K "_law_late") fd := F
  exact mkCal F (ok_late F g cEnds) (He.glo_ok X G (c.fact 27 (f := .glo "_law_late") rfl)) (biLate F)
theorem mkPairs (X : K.In h) (G : h.Ns mainGlobals mg) (c : He.SaysD fa fn K) (g : Gs mg) (cTaken : Cal P w K mg base "_law_taken" 1 ["_law_row", "_law_many"] (spTaken K)) (cPick : Cal P w K mg base "_law_pick" 2 ["_law_row", "_law_things"] (spPick K)) (cOrder : Cal P w K mg base "_law_order" 2 ["_law_row", "_law_many"] (spOrder K)) : Cal P w K mg base "_law_pairs" 3 ["_law_row", "_law_many"] (spPairs K) := by
  obtain ⟨fd, F⟩ := c.def_ 28 (d := dPairs) rfl
  have F : FnP K "_law_pairs" sPairs (He.ga K "_law_pairs") fd := F
  exact mkCal F (ok_pairs F g cTaken cPick cOrder) (He.glo_ok X G (c.fact 28 (f := .glo "_law_pairs") rfl)) (biPairs F)
theorem mkGreatest (X : K.In h) (G : h.Ns mainGlobals mg) (c : He.SaysD fa fn K) (g : Gs mg) (cEnds : Cal P w K mg base "_law_ends" 1 ["_law_times", "_law_order_here"] spEndsIn) : Cal P w K mg base "_law_greatest" 2 ["_law_times", "_law_weights", "_law_dues", "_law_order_here"] spGreatestIn := by
  obtain ⟨fd, F⟩ := c.def_ 29 (d := dGreatest) rfl
  have F : FnP K "_law_greatest" sGreatest (He.ga K "_law_greatest") fd := F
  exact mkCal F (ok_greatest F g cEnds) (He.glo_ok X G (c.fact 29 (f := .glo "_law_greatest") rfl)) (biGreatest F)
theorem mkLeast (X : K.In h) (G : h.Ns mainGlobals mg) (c : He.SaysD fa fn K) (g : Gs mg) {Pt : Addr} (TB : LamX.TabB base mg (He.codeOf K ("least_greatest", none)) Pt) (cN : Cal P w K mg base "need_costs" 6 ["times", "weights", "dues", "pairs"] spNeedCosts) (cC : Cal P w K mg base "cost_at" 1 ["weight", "due", "end"] spCostAt) :
    Cal P w K mg base "least_greatest" 7 ["times", "weights", "dues", "pairs"] (spLeast Pt) := by
  obtain ⟨fd, F⟩ := c.def_ 18 (d := dLeastGreatest) rfl
  have F : FnP K "least_greatest" sLeastGreatest (He.ga K "least_greatest") fd := F
  have hcc : fd.code = .ref (He.codeOf K ("least_greatest", none)) := by
    obtain ⟨oc, od, dV, kV, doc, pm, an, cdv, ct, osl, e, lk, hcd, _, _⟩ := F.ex
    obtain ⟨cc, ec⟩ := He.codeIn_ref hcd
    have e2 : fd.code = .ref cc := by
      rw [e, ← ec]
    rw [He.codeOf_eq (p := ("least_greatest", none)) lk e2]
    exact e2
  exact mkCal F (ok_least F hcc TB g cN cC) (He.glo_ok X G (c.fact 18 (f := .glo "least_greatest") rfl)) (biLeastGreatest F)
theorem mkLaw (X : K.In h) (G : h.Ns mainGlobals mg) (c : He.SaysD fa fn K) {Pt : Addr} (TB : LamX.TabB base mg (He.codeOf K ("least_greatest", none)) Pt) : ∃ fd, FnP K "law" sLaw (He.ga K "law") fd ∧ FnOk P w K mg base CX0 8 (He.ga K "law") fd ["_law_script"] (spLaw K Pt) := by
  have g := mkGs X G c
  have cIsInteger : Cal P w K mg base "is_integer" 1 ["value"] spIsInteger := mkIsInteger X G c g
  have cIsIn : Cal P w K mg base "is_in" 2 ["value", "least", "most"] spIsIn := mkIsIn X G c g cIsInteger
  have cIsList : Cal P w K mg base "is_list" 1 ["value", "least", "most"] spIsList := mkIsList X G c g
  have cFirstBad : Cal P w K mg base "first_bad" 3 ["value", "many", "low", "high"] spFirstBad := mkFirstBad X G c g cIsList cIsIn
  have cNeedTimes : Cal P w K mg base "need_times" 4 ["times"] spNeedTimes := mkNeedTimes X G c g cIsList cFirstBad
  have cNeedWeights : Cal P w K mg base "need_weights" 4 ["weights", "many"] (spNeedW 0 60) := mkNeedWeights X G c g cFirstBad
  have cNeedDues : Cal P w K mg base "need_dues" 4 ["dues", "many"] (spNeedW 0 600) := mkNeedDues X G c g cFirstBad
  have cAbleJobs : Cal P w K mg base "able_jobs" 1 ["pairs", "done", "many"] spAbleJobs := mkAbleJobs X G c g
  have cFirstOrder : Cal P w K mg base "first_order" 2 ["pairs", "many"] spFirstOrder := mkFirstOrder X G c g cAbleJobs
  have cNeedPairs : Cal P w K mg base "need_pairs" 3 ["pairs", "many"] spNeedPairs := mkNeedPairs X G c g cIsList cIsIn cFirstOrder
  have cIsOrder : Cal P w K mg base "is_order" 3 ["value", "many"] spIsOrder := mkIsOrder X G c g cIsList cIsIn
  have cNeedOrder : Cal P w K mg base "need_order" 4 ["order", "many"] spNeedOrder := mkNeedOrder X G c g cIsOrder
  have cNeedWeighed : Cal P w K mg base "need_weighed" 5 ["times", "weights"] spNeedWeighed := mkNeedWeighed X G c g cNeedTimes cNeedWeights
  have cNeedCosts : Cal P w K mg base "need_costs" 6 ["times", "weights", "dues", "pairs"] spNeedCosts := mkNeedCosts X G c g cNeedWeighed cNeedDues cNeedPairs
  have cCostAt : Cal P w K mg base "cost_at" 1 ["weight", "due", "end"] spCostAt := mkCostAt X G c g
  have cEndsIn : Cal P w K mg base "ends_in" 1 ["times", "order"] spEndsIn := mkEndsIn X G c g
  have cGreatestIn : Cal P w K mg base "greatest_in" 2 ["times", "weights", "dues", "order"] spGreatestIn := mkGreatestIn X G c g cEndsIn cCostAt
  have cGreatestCost : Cal P w K mg base "greatest_cost" 6 ["times", "weights", "dues", "order"] spGreatestCost := mkGreatestCost X G c g cNeedWeighed cNeedDues cNeedOrder cGreatestIn
  have cDueDays : Cal P w K mg base "due_days" 5 ["times", "dues", "pairs"] spDueDays := mkDueDays X G c g cNeedTimes cNeedDues cNeedPairs
  have cTaken : Cal P w K mg base "_law_taken" 1 ["_law_row", "_law_many"] (spTaken K) := mkTaken X G c g
  have cPick : Cal P w K mg base "_law_pick" 2 ["_law_row", "_law_things"] (spPick K) := mkPick X G c g cTaken
  have cAlike : Cal P w K mg base "_law_alike" 1 ["_law_found", "_law_due"] spAlike := mkAlike X G c g
  have cJobs : Cal P w K mg base "_law_jobs" 3 ["_law_row", "_law_most", "_law_time"] (spJobs K) := mkJobs X G c g cTaken cPick
  have cOrder : Cal P w K mg base "_law_order" 2 ["_law_row", "_law_many"] (spOrder K) := mkOrder X G c g cTaken
  have cOrders : Cal P w K mg base "_law_orders" 1 ["_law_many", "_law_pairs_here"] spOrders := mkOrders X G c g
  have cEnds : Cal P w K mg base "_law_ends" 1 ["_law_times", "_law_order_here"] spEndsIn := mkEnds X G c g
  have cLate : Cal P w K mg base "_law_late" 2 ["_law_times", "_law_dues", "_law_order_here"] spLate := mkLate X G c g cEnds
  have cPairs : Cal P w K mg base "_law_pairs" 3 ["_law_row", "_law_many"] (spPairs K) := mkPairs X G c g cTaken cPick cOrder
  have cGreatest : Cal P w K mg base "_law_greatest" 2 ["_law_times", "_law_weights", "_law_dues", "_law_order_here"] spGreatestIn := mkGreatest X G c g cEnds
  obtain ⟨fd, F⟩ := c.def_ 30 (d := dLaw) rfl
  have F : FnP K "law" sLaw (He.ga K "law") fd := F
  exact ⟨fd, F, ok_law F g ⟨cJobs, cPairs, cOrders, mkLeast X G c g TB cNeedCosts cCostAt, cGreatestCost, cGreatest, cOrder, cAlike, cDueDays, cLate⟩⟩
end
/-- the law at the head's heap -/
theorem lawAt {w : World} {mg : Str → Option Value} {fa' : Addr} {h : Heap} (Y : hk.says w h) (G : h.Ns mainGlobals mg) (hmg : mg ("law" : Str) = some (.ref fa')) :
    ∃ K : PySem.W.Frag, K.In h ∧ LamX.LawAtS PySem.Challenge.rw_shoporders_k06_whole_greatest_costs w K CX0 8 63 "_law_script" mg fa' h := by
  obtain ⟨K, X, c⟩ := Y
  have cd : He.SaysD fa fn K := c.t.d
  have e := hmg.symm.trans (He.glo_ok X G (cd.fact 30 (f := .glo "law") rfl))
  cases e
  obtain ⟨fd, F⟩ := cd.def_ 30 (d := dLaw) rfl
  have F : FnP K "law" sLaw (He.ga K "law") fd := F
  have b := FunD.bindsA (ps := ["_law_script"]) F fun _ _ _ _ _ _ us hl => match us, hl with | [_], _ => rfl
  have mem : ∀ p ∈ [He.cT K ("least_greatest", none)], p = He.cT K ("least_greatest", none) := fun p hp => List.mem_singleton.mp hp
  have tm : (("least_greatest", none) : He.Defn) ∈ tf := List.mem_cons_self
  refine ⟨K, X, fd, [He.cT K ("least_greatest", none)], spLaw K (He.cT K ("least_greatest", none)).2, fun p hp => by rw [mem p hp]; exact c.empty _ tm, fun p hp => by rw [mem p hp]; exact c.out _ tm, fun p hp => by rw [mem p hp]; exact PySem.W.codeHd_of_K X (c.hd _ tm), fun s v => b s [v] rfl, fun H a ns hl _ hT hS => ⟨a, ns, rfl, hS, fun p hp => ?_, fun _ => rfl⟩, fun base Kb Gb TB => ?_⟩
  · rw [List.mem_singleton.mp hp]
    exact LamX.TabS.nil (hT _ List.mem_cons_self)
  · obtain ⟨fd2, F2, ok⟩ := mkLaw (P := PySem.Challenge.rw_shoporders_k06_whole_greatest_costs.prog) (w := w) (base := base) X G cd (TB _ List.mem_cons_self)
    have e2 : fd2 = fd := by
      obtain ⟨_, _, _, _, _, _, _, _, _, _, _, lk, _⟩ := F.ex
      obtain ⟨_, _, _, _, _, _, _, _, _, _, _, lk2, _⟩ := F2.ex
      rw [lk] at lk2
      injection lk2 with q
      injection q with q1 q2 q3 q4
      injection q3 with q5
      exact q5.symm
    rw [← e2]
    exact ok
end K6
open PySem PySem.W PySem.Calls PyProof.Rows
theorem PySem.Challenge.cw_shoporders_k06_whole_greatest_costs_holds : PySem.Challenge.rw_shoporders_k06_whole_greatest_costs.Holds := by
  w_on; o_law
  refine HandSHeadRun.head_any (r := OpenLaw.row PySem.Challenge.rw_shoporders_k06_whole_greatest_costs) (q := view (OpenLaw.row PySem.Challenge.rw_shoporders_k06_whole_greatest_costs).prog [48]) (H := K6.hk) (ob := K6.ob) (M := 6000) (loose := K6.loose) (d := HandSHeadRun.topDef (OpenLaw.row PySem.Challenge.rw_shoporders_k06_whole_greatest_costs).prog 48) (kwd := []) K6.ob_eq
    (by kernel_rfl) (fun s => by kernel_rfl) K6.run (by kernel_rfl) (by kernel_rfl) (by kernel_rfl) (by rfl) (by first | assumption | decide +kernel) (by decide +kernel) ⟨rfl, rfl, rfl, rfl, rfl, by decide +kernel⟩ ?hw ?hc
  case hw => w_witness2
  case hc =>
    refine LamX.walk_ofTsE (l := PySem.Challenge.rw_shoporders_k06_whole_greatest_costs) (n := 63) (k := 8) (x := "_law_script") (CX := fun _ => L2.CX0) rfl (by decide) (by kernel_rfl) ⟨rfl, by decide, by decide⟩ ?F (fun _ _ _ _ _ z => z)
    intro w mg fa h Y G hmg0
    have hmg : mg ("law" : PySem.Str) = some (.ref fa) := by
      have e : (HandSHeadRun.topDef (OpenLaw.row PySem.Challenge.rw_shoporders_k06_whole_greatest_costs).prog 48).name = ("law" : PySem.Str) := by kernel_rfl
      rw [← e]
      exact hmg0
    exact K6.lawAt Y G hmg
