import PyProof.Rows.All
import Wide.All
import OpenK.AllK
import Wide.FinOn
import KE.KDictSum
import HandS.ForMost
import HandS.Deep
import HandS.TupAny
import HandS.TupLen
import HandS.TupSets
import HandS.SortInts
import HandS.SortRule
import HandS.Conv
import PySem.Challenge.RW_guardround_k69_whole_more_guards
set_option Elab.async false
set_option linter.all false
set_option maxRecDepth 100000
set_option maxHeartbeats 4000000
/-! Guards on a web: the plain law, no program in sight. -/
namespace Gr
/-- a place of a web with n places -/
def Inn (n : Nat) (p : Int) : Prop := 0 ≤ p ∧ p < (n : Int)
instance (n : Nat) (p : Int) : Decidable (Inn n p) := inferInstanceAs (Decidable (_ ∧ _))
/-- tied -/
def Adj (T : List (Int × Int)) (p q : Int) : Prop := (p, q) ∈ T ∨ (q, p) ∈ T
theorem Adj.symm {T : List (Int × Int)} {p q : Int} (h : Adj T p q) : Adj T q p := Or.symm h
/-- a web as the law builds it -/
structure WebOk (n : Nat) (T : List (Int × Int)) : Prop where
  pos : 1 ≤ n
  le : n ≤ 6
  inn : ∀ a b, (a, b) ∈ T → Inn n a ∧ Inn n b
  ne : ∀ a b, (a, b) ∈ T → a ≠ b
  deg : ∀ p : Int, (T.filter fun t => decide (t.1 = p) || decide (t.2 = p)).length ≤ 5
theorem WebOk.adj_inn {n : Nat} {T : List (Int × Int)} (W : WebOk n T) {p q : Int} (h : Adj T p q) : Inn n p ∧ Inn n q := by
  rcases h with h | h
  · exact W.inn _ _ h
  · exact ⟨(W.inn _ _ h).2, (W.inn _ _ h).1⟩
def StepOk (T : List (Int × Int)) (x y : Int) : Prop := y = x ∨ Adj T x y
/-- place by place a step -/
def Steps (T : List (Int × Int)) : List Int → List Int → Prop
  | [], [] => True
  | x :: xs, y :: ys => StepOk T x y ∧ Steps T xs ys
  | _, _ => False
theorem Steps.length {T : List (Int × Int)} : ∀ {xs ys : List Int}, Steps T xs ys → xs.length = ys.length
  | [], [], _ => rfl
  | _ :: _, _ :: _, h => congrArg (· + 1) (Steps.length h.2)
  | [], _ :: _, h => h.elim
  | _ :: _, [], h => h.elim
theorem Steps.refl (T : List (Int × Int)) : ∀ xs : List Int, Steps T xs xs
  | [] => trivial
  | _ :: xs => ⟨.inl rfl, Steps.refl T xs⟩
theorem Steps.mem {T : List (Int × Int)} : ∀ {xs ys : List Int}, Steps T xs ys → ∀ y, y ∈ ys → ∃ x, x ∈ xs ∧ StepOk T x y
  | [], [], _, y, h => by cases h
  | x :: xs, z :: ys, h, y, hy => by
    rcases List.mem_cons.mp hy with e | hy
    · exact ⟨x, List.mem_cons_self, e ▸ h.1⟩
    · obtain ⟨u, hu, hs⟩ := Steps.mem h.2 y hy
      exact ⟨u, List.mem_cons_of_mem _ hu, hs⟩
  | [], _ :: _, h, _, _ => h.elim
  | _ :: _, [], h, _, _ => h.elim
/-- a step list goes along with a rearrangement of what stands ahead -/
theorem Steps.perm {T : List (Int × Int)} {L L' : List Int} (p : L.Perm L') : ∀ R, Steps T L R → ∃ R', Steps T L' R' ∧ R'.Perm R := by
  induction p with
  | nil => intro R h; exact ⟨R, h, List.Perm.refl _⟩
  | cons x _ ih =>
    intro R h
    cases R with
    | nil => exact h.elim
    | cons y R =>
      obtain ⟨R', h1, h2⟩ := ih R h.2
      exact ⟨y :: R', ⟨h.1, h1⟩, h2.cons y⟩
  | swap x y l =>
    intro R h
    match R, h with
    | a :: b :: R, h => exact ⟨b :: a :: R, ⟨h.2.1, h.1, h.2.2⟩, List.Perm.swap _ _ _⟩
    | [_], h => exact h.2.elim
    | [], h => exact h.elim
  | trans _ _ ih1 ih2 =>
    intro R h
    obtain ⟨R1, h1, p1⟩ := ih1 R h
    obtain ⟨R2, h2, p2⟩ := ih2 R1 h1
    exact ⟨R2, h2, p2.trans p1⟩
/-- the guard that goes to p is taken out -/
theorem Steps.pull {T : List (Int × Int)} : ∀ {S R : List Int} {p : Int}, Steps T S R → p ∈ R → ∃ g S1 R1, S.Perm (g :: S1) ∧ R.Perm (p :: R1) ∧ Steps T S1 R1
  | [], [], _, _, h => by cases h
  | x :: S, y :: R, p, h, hp => by
    by_cases e : y = p
    · subst e
      exact ⟨x, S, R, List.Perm.refl _, List.Perm.refl _, h.2⟩
    · have hp' : p ∈ R := by
        rcases List.mem_cons.mp hp with q | q
        · exact absurd q.symm e
        · exact q
      obtain ⟨g, S1, R1, a, b, c⟩ := Steps.pull h.2 hp'
      exact ⟨g, x :: S1, y :: R1, (a.cons x).trans (List.Perm.swap _ _ _), (b.cons y).trans (List.Perm.swap _ _ _), ⟨h.1, c⟩⟩
  | [], _ :: _, _, h, _ => h.elim
  | _ :: _, [], _, h, _ => h.elim
/-- one guard more: it stays, and those stay whose places it needs -/
theorem chain (T : List (Int × Int)) : ∀ (k : Nat) (S R : List Int) (p : Int), S.length = k → Steps T S R → S.Nodup → R.Nodup → p ∉ S →
    ∃ q R', Steps T (p :: S) R' ∧ R'.Perm (q :: R) ∧ q ∉ R ∧ q ∈ p :: S := by
  intro k
  induction k with
  | zero =>
    intro S R p hk h _ _ _
    have e : S = [] := List.eq_nil_of_length_eq_zero hk
    subst e
    cases R with
    | nil => exact ⟨p, [p], ⟨.inl rfl, trivial⟩, List.Perm.refl _, by simp, by simp⟩
    | cons _ _ => exact h.elim
  | succ k ih =>
    intro S R p hk h nS nR hp
    by_cases hm : p ∈ R
    · obtain ⟨g, S1, R1, a, b, c⟩ := Steps.pull h hm
      have nS' : (g :: S1).Nodup := a.nodup_iff.mp nS
      have nR' : (p :: R1).Nodup := b.nodup_iff.mp nR
      obtain ⟨gn, nS1⟩ := List.nodup_cons.mp nS'
      obtain ⟨pn, nR1⟩ := List.nodup_cons.mp nR'
      have hl : S1.length = k := by
        have q := a.length_eq
        rw [List.length_cons] at q
        omega
      obtain ⟨q, R2, s2, p2, q1, q2⟩ := ih S1 R1 g hl c nS1 nR1 gn
      have hqS : q ∈ S := a.mem_iff.mpr q2
      have qp : q ≠ p := fun e => hp (e ▸ hqS)
      have st : Steps T (p :: g :: S1) (p :: R2) := ⟨.inl rfl, s2⟩
      obtain ⟨R', s', p'⟩ := Steps.perm (a.symm.cons p) _ st
      refine ⟨q, R', s', ?_, ?_, List.mem_cons_of_mem _ hqS⟩
      · exact p'.trans ((p2.cons p).trans ((List.Perm.swap _ _ _).trans (b.symm.cons q)))
      · intro hq
        rcases List.mem_cons.mp (b.mem_iff.mp hq) with e | e
        · exact qp e
        · exact q1 e
    · exact ⟨p, p :: R, ⟨.inl rfl, h⟩, List.Perm.refl _, hm, List.mem_cons_self⟩

/-! ### sorted -/
def ins (x : Int) : List Int → List Int
  | [] => [x]
  | y :: ys => if x ≤ y then x :: y :: ys else y :: ins x ys
def isort : List Int → List Int
  | [] => []
  | x :: xs => ins x (isort xs)
theorem ins_perm (x : Int) : ∀ ys : List Int, (ins x ys).Perm (x :: ys)
  | [] => List.Perm.refl _
  | y :: ys => by
    unfold ins
    by_cases h : x ≤ y
    · rw [if_pos h]
    · rw [if_neg h]
      exact ((ins_perm x ys).cons y).trans (List.Perm.swap _ _ _)
theorem isort_perm : ∀ xs : List Int, (isort xs).Perm xs
  | [] => List.Perm.refl _
  | x :: xs => (ins_perm x _).trans ((isort_perm xs).cons x)
theorem ins_sorted (x : Int) : ∀ ys : List Int, ys.Pairwise (· ≤ ·) → (ins x ys).Pairwise (· ≤ ·)
  | [], _ => by simp [ins]
  | y :: ys, h => by
    unfold ins
    obtain ⟨h1, h2⟩ := List.pairwise_cons.mp h
    by_cases e : x ≤ y
    · rw [if_pos e]
      refine List.pairwise_cons.mpr ⟨fun z hz => ?_, h⟩
      rcases List.mem_cons.mp hz with q | q
      · omega
      · have := h1 z q
        omega
    · rw [if_neg e]
      refine List.pairwise_cons.mpr ⟨fun z hz => ?_, ins_sorted x ys h2⟩
      rcases List.mem_cons.mp ((ins_perm x ys).mem_iff.mp hz) with q | q
      · omega
      · exact h1 z q
theorem isort_sorted : ∀ xs : List Int, (isort xs).Pairwise (· ≤ ·)
  | [] => List.Pairwise.nil
  | x :: xs => ins_sorted x _ (isort_sorted xs)
/-- two risings of the same are one -/
theorem sorted_unique : ∀ {a b : List Int}, a.Perm b → a.Pairwise (· ≤ ·) → b.Pairwise (· ≤ ·) → a = b
  | [], b, p, _, _ => (List.Perm.nil_eq p)
  | x :: a, [], p, _, _ => absurd p.length_eq (by simp)
  | x :: a, y :: b, p, ha, hb => by
    obtain ⟨h1, h2⟩ := List.pairwise_cons.mp ha
    obtain ⟨h3, h4⟩ := List.pairwise_cons.mp hb
    have hx : x ∈ y :: b := p.mem_iff.mp List.mem_cons_self
    have hy : y ∈ x :: a := p.mem_iff.mpr List.mem_cons_self
    have e : x = y := by
      rcases List.mem_cons.mp hx with q | q
      · exact q
      · rcases List.mem_cons.mp hy with r | r
        · exact r.symm
        · have := h3 x q
          have := h1 y r
          omega
    subst e
    rw [sorted_unique (List.Perm.cons_inv p) h2 h4]
theorem isort_unique {a b : List Int} (p : a.Perm b) (h : a.Pairwise (· ≤ ·)) : a = isort b := sorted_unique (p.trans (isort_perm b).symm) h (isort_sorted b)
theorem isort_congr {a b : List Int} (p : a.Perm b) : isort a = isort b := isort_unique ((isort_perm a).trans p) (isort_sorted a)
theorem isort_mem {x : Int} {xs : List Int} : x ∈ isort xs ↔ x ∈ xs := (isort_perm xs).mem_iff
theorem isort_length (xs : List Int) : (isort xs).length = xs.length := (isort_perm xs).length_eq
theorem lt_of_le_nodup {xs : List Int} (h : xs.Pairwise (· ≤ ·)) (n : xs.Nodup) : xs.Pairwise (· < ·) :=
  (List.Pairwise.and h n).imp fun {a b} q => by
    have h1 : a ≤ b := q.1
    have h2 : a ≠ b := q.2
    show a < b
    omega
theorem isort_lt {xs : List Int} (n : xs.Nodup) : (isort xs).Pairwise (· < ·) := lt_of_le_nodup (isort_sorted xs) ((isort_perm xs).nodup_iff.mpr n)
theorem nodup_of_lt {xs : List Int} (h : xs.Pairwise (· < ·)) : xs.Nodup := h.imp fun {a b} q e => by
  have : a < b := q
  omega

/-! ### standings, answers -/
def IsSt (n g : Nat) (S : List Int) : Prop := S.length = g ∧ S.Pairwise (· < ·) ∧ ∀ x, x ∈ S → Inn n x
theorem IsSt.nodup {n g : Nat} {S : List Int} (h : IsSt n g S) : S.Nodup := nodup_of_lt h.2.1
theorem isSt_sort {n : Nat} {xs : List Int} (nd : xs.Nodup) (h : ∀ x, x ∈ xs → Inn n x) : IsSt n xs.length (isort xs) :=
  ⟨isort_length xs, isort_lt nd, fun x hx => h x (isort_mem.mp hx)⟩
def AnsAll (T : List (Int × Int)) (S : List Int) (c : Int) (row : List Int) : Prop := Steps T S row ∧ row.Nodup ∧ c ∈ row
def AnsOne (T : List (Int × Int)) (S : List Int) (c : Int) (row : List Int) : Prop := ∃ (k : Nat) (x : Int), S[k]? = some x ∧ Adj T c x ∧ row = S.set k c
def Ans (one : Bool) (T : List (Int × Int)) (S : List Int) (c : Int) (row : List Int) : Prop := if one = true then AnsOne T S c row else AnsAll T S c row
theorem set_perm {c x : Int} : ∀ {S : List Int} {k : Nat}, S[k]? = some x → (S.set k c).Perm (c :: S.eraseIdx k) ∧ S.Perm (x :: S.eraseIdx k)
  | [], k, h => by simp at h
  | y :: S, 0, h => by
    have e : y = x := by simpa using h
    subst e
    exact ⟨List.Perm.refl _, List.Perm.refl _⟩
  | y :: S, k + 1, h => by
    obtain ⟨a, b⟩ := set_perm (c := c) (S := S) (k := k) (by simpa using h)
    exact ⟨(a.cons y).trans (List.Perm.swap _ _ _), (b.cons y).trans (List.Perm.swap _ _ _)⟩
theorem steps_set {T : List (Int × Int)} {c x : Int} (ha : Adj T x c) : ∀ {S : List Int} {k : Nat}, S[k]? = some x → Steps T S (S.set k c)
  | [], k, h => by simp at h
  | y :: S, 0, h => by
    have e : y = x := by simpa using h
    subst e
    exact ⟨.inr ha, Steps.refl T S⟩
  | y :: S, k + 1, h => ⟨.inl rfl, steps_set ha (S := S) (k := k) (by simpa using h)⟩
theorem ans_one_all {T : List (Int × Int)} {S : List Int} {c : Int} {row : List Int} (nS : S.Nodup) (hc : c ∉ S) (h : AnsOne T S c row) : AnsAll T S c row := by
  obtain ⟨k, x, hk, ha, rfl⟩ := h
  obtain ⟨a, b⟩ := set_perm (c := c) hk
  obtain ⟨_, n2⟩ := List.nodup_cons.mp (b.nodup_iff.mp nS)
  refine ⟨steps_set ha.symm hk, a.nodup_iff.mpr (List.nodup_cons.mpr ⟨fun q => hc (b.mem_iff.mpr (List.mem_cons_of_mem _ q)), n2⟩), a.mem_iff.mpr List.mem_cons_self⟩
theorem ans_all {one : Bool} {T : List (Int × Int)} {S : List Int} {c : Int} {row : List Int} (nS : S.Nodup) (hc : c ∉ S) (h : Ans one T S c row) : AnsAll T S c row := by
  cases one with
  | true => exact ans_one_all nS hc h
  | false => exact h
theorem ans_st {one : Bool} {n g : Nat} {T : List (Int × Int)} (W : WebOk n T) {S : List Int} {c : Int} {row : List Int} (hS : IsSt n g S) (hc : c ∉ S) (h : Ans one T S c row) : IsSt n g (isort row) := by
  obtain ⟨h1, h2, h3⟩ := ans_all hS.nodup hc h
  have e : row.length = g := by rw [← h1.length]; exact hS.1
  rw [← e]
  refine isSt_sort h2 fun x hx => ?_
  obtain ⟨y, hy, st⟩ := h1.mem x hx
  rcases st with q | q
  · rw [q]
    exact hS.2.2 y hy
  · exact (W.adj_inn q).2
/-- behind an answer -/
def Lead (one : Bool) (T : List (Int × Int)) (S : List Int) (c : Int) (S' : List Int) : Prop := ∃ row, Ans one T S c row ∧ S' = isort row
def Closed (one : Bool) (n : Nat) (T : List (Int × Int)) (g : Nat) (C : List Int → Prop) : Prop :=
  ∀ S, C S → IsSt n g S ∧ ∀ c, Inn n c → c ∉ S → ∃ S', Lead one T S c S' ∧ C S'
def Lasts (one : Bool) (n : Nat) (T : List (Int × Int)) (g : Nat) (S : List Int) : Prop := ∃ C, Closed one n T g C ∧ C S
theorem lasts_closed (one : Bool) (n : Nat) (T : List (Int × Int)) (g : Nat) : Closed one n T g (Lasts one n T g) := fun S ⟨C, hC, hS⟩ => by
  obtain ⟨h1, h2⟩ := hC S hS
  refine ⟨h1, fun c hc hn => ?_⟩
  obtain ⟨S', h3, h4⟩ := h2 c hc hn
  exact ⟨S', h3, C, hC, h4⟩
theorem Lasts.st {one : Bool} {n : Nat} {T : List (Int × Int)} {g : Nat} {S : List Int} (h : Lasts one n T g S) : IsSt n g S := (lasts_closed one n T g S h).1
/-- a standing all of whose answers to a call fall, falls -/
theorem not_lasts {one : Bool} {n : Nat} {T : List (Int × Int)} {g : Nat} {S : List Int} {c : Int} (hc : Inn n c) (hn : c ∉ S) (h : ∀ S', Lead one T S c S' → ¬ Lasts one n T g S') : ¬ Lasts one n T g S := fun l => by
  obtain ⟨S', h1, h2⟩ := (lasts_closed one n T g S l).2 c hc hn
  exact h S' h1 h2
/-- each lasting standing watches the web -/
theorem lasts_watch {one : Bool} {n : Nat} {T : List (Int × Int)} {g : Nat} {S : List Int} (h : Lasts one n T g S) {p : Int} (hp : Inn n p) (hn : p ∉ S) : ∃ q, q ∈ S ∧ Adj T p q := by
  obtain ⟨S', ⟨row, ha, _⟩, _⟩ := (lasts_closed one n T g S h).2 p hp hn
  obtain ⟨h1, _, h3⟩ := ans_all h.st.nodup hn ha
  obtain ⟨x, hx, st⟩ := h1.mem p h3
  rcases st with q | q
  · exact absurd (q ▸ hx) hn
  · exact ⟨x, hx, q.symm⟩
/-- what lasts for the kind one lasts for the kind all -/
theorem lasts_one_all {n : Nat} {T : List (Int × Int)} {g : Nat} {S : List Int} (h : Lasts true n T g S) : Lasts false n T g S := by
  refine ⟨Lasts true n T g, fun S' hS' => ⟨hS'.st, fun c hc hn => ?_⟩, h⟩
  obtain ⟨S2, ⟨row, ha, e⟩, h2⟩ := (lasts_closed true n T g S' hS').2 c hc hn
  exact ⟨S2, ⟨row, ans_one_all hS'.st.nodup hn ha, e⟩, h2⟩
/-- one guard more, one answer -/
theorem ans_grown {one : Bool} {n g : Nat} {T : List (Int × Int)} (_W : WebOk n T) {S : List Int} {c p : Int} {row : List Int} (hS : IsSt n g S) (hpS : p ∉ S) (hpI : Inn n p) (hc : c ∉ S) (hcp : c ≠ p) (h : Ans one T S c row) :
    ∃ row' q, Ans one T (isort (S ++ [p])) c row' ∧ row'.Perm (q :: row) ∧ q ∉ row ∧ Inn n q := by
  have pS : (isort (S ++ [p])).Perm (p :: S) := (isort_perm _).trans List.perm_append_comm
  cases one with
  | true =>
    obtain ⟨k, x, hk, ha, rfl⟩ := h
    obtain ⟨a, b⟩ := set_perm (c := c) hk
    have hx : x ∈ isort (S ++ [p]) := pS.mem_iff.mpr (List.mem_cons_of_mem _ (List.mem_of_getElem? hk))
    obtain ⟨k', hk'⟩ := List.getElem?_of_mem hx
    obtain ⟨a', b'⟩ := set_perm (c := c) hk'
    have e : (x :: (isort (S ++ [p])).eraseIdx k').Perm (x :: p :: S.eraseIdx k) := b'.symm.trans (pS.trans ((b.cons p).trans (List.Perm.swap _ _ _)))
    have e' := List.Perm.cons_inv e
    refine ⟨_, p, ⟨k', x, hk', ha, rfl⟩, a'.trans ((e'.cons c).trans ((List.Perm.swap _ _ _).trans (a.symm.cons p))), fun hm => ?_, hpI⟩
    rcases List.mem_cons.mp (a.mem_iff.mp hm) with q | q
    · exact hcp q.symm
    · exact hpS (b.mem_iff.mpr (List.mem_cons_of_mem _ q))
  | false =>
    obtain ⟨h1, h2, h3⟩ := h
    obtain ⟨q, R, s, pr, hq, hqS⟩ := chain T _ S row p rfl h1 hS.nodup h2 hpS
    obtain ⟨R', s', p'⟩ := Steps.perm pS.symm _ s
    have pf : R'.Perm (q :: row) := p'.trans pr
    refine ⟨R', q, ⟨s', pf.nodup_iff.mpr (List.nodup_cons.mpr ⟨hq, h2⟩), pf.mem_iff.mpr (List.mem_cons_of_mem _ h3)⟩, pf, hq, ?_⟩
    rcases List.mem_cons.mp hqS with e | e
    · rw [e]
      exact hpI
    · exact hS.2.2 q e
/-- a standing that lasts, with a guard more on any further place, lasts -/
theorem lasts_grown {one : Bool} {n g : Nat} {T : List (Int × Int)} (W : WebOk n T) {S : List Int} {p : Int} (h : Lasts one n T g S) (hp : Inn n p) (hn : p ∉ S) : Lasts one n T (g + 1) (isort (S ++ [p])) := by
  refine ⟨fun S2 => ∃ S p, Lasts one n T g S ∧ Inn n p ∧ p ∉ S ∧ S2 = isort (S ++ [p]), ?_, S, p, h, hp, hn, rfl⟩
  rintro S2 ⟨S, p, h, hp, hn, rfl⟩
  have st := h.st
  have nd : (S ++ [p]).Nodup := (List.perm_append_comm (l₁ := S) (l₂ := [p])).nodup_iff.mpr (List.nodup_cons.mpr ⟨hn, st.nodup⟩)
  refine ⟨?_, fun c hc hcn => ?_⟩
  · have e : (S ++ [p]).length = g + 1 := by
      rw [List.length_append, st.1]
      rfl
    rw [← e]
    refine isSt_sort nd fun x hx => ?_
    rcases List.mem_append.mp hx with q | q
    · exact st.2.2 x q
    · rw [List.mem_singleton.mp q]
      exact hp
  · have hc1 : c ∉ S := fun q => hcn (isort_mem.mpr (List.mem_append_left _ q))
    have hc2 : c ≠ p := fun q => hcn (isort_mem.mpr (List.mem_append_right _ (List.mem_singleton.mpr q)))
    obtain ⟨S', ⟨row, ha, e⟩, hl⟩ := (lasts_closed one n T g S h).2 c hc hc1
    subst e
    obtain ⟨row', q, ha', pr, hq, hqi⟩ := ans_grown W st hn hp hc1 hc2 ha
    refine ⟨isort row', ⟨row', ha', rfl⟩, isort row, q, hl, hqi, fun hm => hq (isort_mem.mp hm), isort_congr ?_⟩
    exact pr.trans (((isort_perm row).symm.cons q).trans (List.perm_append_comm (l₁ := [q]) (l₂ := isort row)))
/-! ### counting -/
theorem nodup_sub_len {α : Type} [DecidableEq α] : ∀ (l D : List α), l.Nodup → (∀ x ∈ l, x ∈ D) → l.length ≤ D.length
  | [], _, _, _ => Nat.zero_le _
  | x :: l, D, hn, hs => by
    obtain ⟨h1, h2⟩ := List.nodup_cons.mp hn
    have hx : x ∈ D := hs x List.mem_cons_self
    have r := nodup_sub_len l (D.erase x) h2 fun y hy => (List.mem_erase_of_ne fun e => h1 (by rw [← e]; exact hy)).mpr (hs y (List.mem_cons_of_mem _ hy))
    have q := List.length_erase_of_mem hx
    have := List.length_pos_of_mem hx
    rw [List.length_cons]
    omega
def rangeI (n : Nat) : List Int := (List.range n).map fun (i : Nat) => (i : Int)
theorem mem_rangeI {n : Nat} {p : Int} : p ∈ rangeI n ↔ Inn n p := by
  unfold rangeI Inn
  rw [List.mem_map]
  constructor
  · rintro ⟨i, hi, rfl⟩
    have := List.mem_range.mp hi
    omega
  · rintro ⟨h1, h2⟩
    exact ⟨p.toNat, List.mem_range.mpr (by omega), by omega⟩
theorem rangeI_len (n : Nat) : (rangeI n).length = n := by simp [rangeI]
theorem rangeI_lt (n : Nat) : (rangeI n).Pairwise (· < ·) := by
  unfold rangeI
  rw [List.pairwise_map]
  exact List.pairwise_lt_range.imp fun {a b} h => by
    have : a < b := h
    omega
/-- a place that is free -/
theorem free_place {n g : Nat} {S : List Int} (h : IsSt n g S) (hg : g < n) : ∃ p, Inn n p ∧ p ∉ S := by
  refine Classical.byContradiction fun hno => ?_
  have : ∀ x ∈ rangeI n, x ∈ S := fun x hx => Classical.byContradiction fun q => hno ⟨x, mem_rangeI.mp hx, q⟩
  have q := nodup_sub_len _ _ (nodup_of_lt (rangeI_lt n)) this
  rw [rangeI_len, h.1] at q
  omega
theorem lasts_more {one : Bool} {n g : Nat} {T : List (Int × Int)} (W : WebOk n T) (h : ∃ S, Lasts one n T g S) (hg : g < n) : ∃ S, Lasts one n T (g + 1) S := by
  obtain ⟨S, h⟩ := h
  obtain ⟨p, hp, hn⟩ := free_place h.st hg
  exact ⟨_, lasts_grown W h hp hn⟩
theorem lasts_up {one : Bool} {n g : Nat} {T : List (Int × Int)} (W : WebOk n T) (h : ∃ S, Lasts one n T g S) : ∀ d, g + d ≤ n → ∃ S, Lasts one n T (g + d) S
  | 0, _ => h
  | d + 1, hd => by
    have r := lasts_more W (lasts_up W h d (by omega)) (by omega)
    rw [Nat.add_assoc] at r
    exact r
/-- guards on all places -/
theorem full_mem {n : Nat} {S : List Int} (h : IsSt n n S) {p : Int} (hp : Inn n p) : p ∈ S := by
  refine Classical.byContradiction fun hn => ?_
  have nd : (p :: S).Nodup := List.nodup_cons.mpr ⟨hn, h.nodup⟩
  have q := nodup_sub_len (p :: S) (rangeI n) nd fun x hx => by
    rcases List.mem_cons.mp hx with e | e
    · rw [e]; exact mem_rangeI.mpr hp
    · exact mem_rangeI.mpr (h.2.2 x e)
  rw [rangeI_len, List.length_cons, h.1] at q
  omega
theorem full_lasts {one : Bool} {n : Nat} {T : List (Int × Int)} {S : List Int} (h : IsSt n n S) : Lasts one n T n S :=
  ⟨IsSt n n, fun _ hS => ⟨hS, fun _ hc hn => absurd (full_mem hS hc) hn⟩, h⟩
theorem full_is (n : Nat) : IsSt n n (rangeI n) := ⟨rangeI_len n, rangeI_lt n, fun _ h => mem_rangeI.mp h⟩
end Gr
namespace Gr
/-! ### how many standings, and which -/
/-- the loop of choices -/
def chK (many : Int) (i : Nat) : Int := (List.range i).foldl (fun f (k : Nat) => (f * (many - (k : Int))).fdiv ((k : Int) + 1)) 1
theorem chK_succ (many : Int) (i : Nat) : chK many (i + 1) = (chK many i * (many - (i : Int))).fdiv ((i : Int) + 1) := by
  unfold chK
  rw [List.range_succ, List.foldl_append]
  rfl
def ch (many some : Int) : Int := if some < 0 ∨ some > many then 0 else chK many some.toNat
theorem chK_small : ∀ m, m ≤ 6 → ∀ i, i ≤ 6 → -100 ≤ chK ((m : Nat) : Int) i ∧ chK ((m : Nat) : Int) i ≤ 100 := by decide +kernel
theorem ch_small : ∀ m, m ≤ 6 → ∀ i, i ≤ 6 → 0 ≤ ch ((m : Nat) : Int) ((i : Nat) : Int) ∧ ch ((m : Nat) : Int) ((i : Nat) : Int) ≤ 20 := by decide +kernel
def stepSt (n g : Nat) (st : List Int × Int) (place : Nat) : List Int × Int :=
  if st.1.length < g then
    if st.2 < ch ((n : Int) - (place : Int) - 1) ((g : Int) - (st.1.length : Int) - 1) then (st.1 ++ [(place : Int)], st.2)
    else (st.1, st.2 - ch ((n : Int) - (place : Int) - 1) ((g : Int) - (st.1.length : Int) - 1))
  else st
def standTo (n g : Nat) (num : Int) (i : Nat) : List Int × Int := (List.range i).foldl (stepSt n g) ([], num)
theorem standTo_succ (n g : Nat) (num : Int) (i : Nat) : standTo n g num (i + 1) = stepSt n g (standTo n g num i) i := by
  unfold standTo
  rw [List.range_succ, List.foldl_append]
  rfl
theorem standTo_len (n g : Nat) (num : Int) : ∀ i, (standTo n g num i).1.length ≤ g ∧ (standTo n g num i).1.length ≤ i
  | 0 => ⟨Nat.zero_le _, Nat.le_refl _⟩
  | i + 1 => by
    obtain ⟨h1, h2⟩ := standTo_len n g num i
    rw [standTo_succ]
    unfold stepSt
    by_cases h : (standTo n g num i).1.length < g
    · rw [if_pos h]
      split
      · simp only [List.length_append, List.length_singleton]
        omega
      · exact ⟨h1, Nat.le_succ_of_le h2⟩
    · rw [if_neg h]
      exact ⟨h1, Nat.le_succ_of_le h2⟩
def standAt (n g : Nat) (num : Int) : List Int := (standTo n g num n).1
def many (n g : Nat) : Nat := (ch (n : Int) (g : Int)).toNat
def stands (n g : Nat) : List (List Int) := (List.range (many n g)).map fun (i : Nat) => standAt n g (i : Int)
theorem many_small (n g : Nat) (hn : n ≤ 6) (hg : g ≤ 6) : ch (n : Int) (g : Int) = ((many n g : Nat) : Int) ∧ many n g ≤ 20 := by
  have h := ch_small n hn g hg
  unfold many
  omega
/-- all part lists -/
def subs : List Int → List (List Int)
  | [] => [[]]
  | x :: xs => subs xs ++ (subs xs).map fun s => x :: s
theorem mem_subs : ∀ {S L : List Int}, S.Sublist L → S ∈ subs L := by
  intro S L h
  induction h with
  | slnil => simp [subs]
  | cons a _ ih => exact List.mem_append_left _ ih
  | cons_cons a _ ih => exact List.mem_append_right _ (List.mem_map.mpr ⟨_, ih, rfl⟩)
theorem sub_of_sorted : ∀ (L S : List Int), L.Pairwise (· < ·) → S.Pairwise (· < ·) → (∀ x ∈ S, x ∈ L) → S.Sublist L
  | [], [], _, _, _ => .slnil
  | [], x :: _, _, _, h => by cases h x List.mem_cons_self
  | y :: L, [], _, _, _ => List.nil_sublist _
  | y :: L, x :: S, hL, hS, h => by
    obtain ⟨l1, l2⟩ := List.pairwise_cons.mp hL
    obtain ⟨s1, s2⟩ := List.pairwise_cons.mp hS
    have key : ∀ z, z ∈ S → z ∈ L := fun z hz => by
      rcases List.mem_cons.mp (h z (List.mem_cons_of_mem _ hz)) with e | e
      · exfalso
        have a : x < z := s1 z hz
        rcases List.mem_cons.mp (h x List.mem_cons_self) with q | q
        · omega
        · have : y < x := l1 x q
          omega
      · exact e
    by_cases e : x = y
    · subst e
      exact (sub_of_sorted L S l2 s2 key).cons_cons x
    · have hx : x ∈ L := by
        rcases List.mem_cons.mp (h x List.mem_cons_self) with q | q
        · exact absurd q e
        · exact q
      refine (sub_of_sorted L (x :: S) l2 hS fun z hz => ?_).cons y
      rcases List.mem_cons.mp hz with q | q
      · rw [q]; exact hx
      · exact key z q
instance decSt (n g : Nat) (S : List Int) : Decidable (IsSt n g S) := inferInstanceAs (Decidable (_ ∧ _ ∧ _))
theorem stands_all : ∀ n, n ≤ 6 → ∀ g, g ≤ 6 → 1 ≤ g → (stands n g).all (fun S => decide (IsSt n g S)) = true ∧ (subs (rangeI n)).all (fun S => !decide (S.length = g) || decide (S ∈ stands n g)) = true := by decide +kernel
theorem mem_stands {n g : Nat} (hn : n ≤ 6) (hg : g ≤ 6) (h1 : 1 ≤ g) {S : List Int} : S ∈ stands n g ↔ IsSt n g S := by
  obtain ⟨a, b⟩ := stands_all n hn g hg h1
  constructor
  · intro h
    exact of_decide_eq_true (List.all_eq_true.mp a S h)
  · intro h
    have hs := mem_subs (sub_of_sorted _ _ (rangeI_lt n) h.2.1 fun x hx => mem_rangeI.mpr (h.2.2 x hx))
    have q := List.all_eq_true.mp b S hs
    rw [decide_eq_true h.1, Bool.not_true, Bool.false_or] at q
    exact of_decide_eq_true q
theorem stands_len (n g : Nat) : (stands n g).length = many n g := by simp [stands]
theorem full_one : ∀ n, n ≤ 6 → 1 ≤ n → many n n = 1 := by decide +kernel
end Gr
/-! Rules that the layer lacks: sorted of a tuple of ints, sorted of a dict with tuple keys, set of a long list of few tuples. -/
namespace GrR
open PySem PySem.Spec PyProof.Rows L2
section
variable {prog : Program} {w : World} {A : Around} {E : Value → Shared → Prop} {s : Shared}
/-- what sorted draws from a tuple -/
theorem draw_tup {t : Addr} {vs : List Value} {Q : List Value → Shared → Prop} (ht : IsTup s.heap t vs.toArray) (hz : vs.length ≤ sizeLine)
    (h : ∀ h' : Heap, (∀ b o, s.heap.get? b = some o → h'.get? b = some o) → s.heap.objs.size ≤ h'.objs.size → Q vs { s with heap := h' }) : wpAny (model prog w) A (collect (.ref t)) Q E s := by
  obtain ⟨o, ho, hc, n, hd⟩ := id ht
  unfold collect
  refine wpAny_bind (wpAny_runValue (codeAny_builtin entry_proto_collect' ?_))
  show wpAny _ _ (newList [] >>= fun l => again (.builtin "list.__iadd__" ⟨[l, .ref t], []⟩)) _ _ s
  refine wpAny_bind (wpAny_newList (wpAny_pure ⟨Code.quiet_builtin _ (by decide +kernel), codeAny_builtin entry_list_iadd' ?_⟩))
  have hn := Heap.get?_push_size s.heap (o := seqObj "list" #[] 0) rfl
  have hold : (s.heap.push (seqObj "list" #[] 0)).get? t = some o := Heap.get?_push_of_some _ ho
  show wpAny _ _ (Builtin.List.listExtendWith (.ref s.heap.objs.size) (.ref t) (.ref s.heap.objs.size)) _ _ { s with heap := s.heap.push (seqObj "list" #[] 0) }
  unfold Builtin.List.listExtendWith
  refine wpAny_bind (wpAny_typeOf (T := "tuple") ⟨o, hold, hc⟩ ?_)
  have e2 : (Value.type "tuple" == Value.type "tuple") = true := rfl
  rw [if_pos (by rw [e2, Bool.or_true])]
  refine wpAny_bind (listItems_at hold hd (wpAny_bind (listItems_at hn rfl ?_)))
  rw [if_neg (by simp)]
  refine wpAny_bind (listUpdate_at hn rfl ?_ (Nat.zero_le _) (by rw [Array.size_append, List.size_toArray]; exact Nat.le_succ_of_le (by simpa using hz)))
  refine wpAny_pure ?_
  have hg := get?_update_seq hn (fun x => x ++ vs.toArray)
  show wpAny (model prog w) A (load s.heap.objs.size >>= _) Q E { s with heap := (s.heap.push (seqObj "list" #[] 0)).update s.heap.objs.size (Obj.mapSeq fun x => x ++ vs.toArray) }
  refine wpAny_bind (wpAny_load hg ?_)
  show wpAny _ _ (pure ((#[] : Array Value) ++ vs.toArray).toList) Q E _
  have e3 : ((#[] : Array Value) ++ vs.toArray).toList = vs := by simp
  rw [e3]
  refine wpAny_pure (h _ (fun b u q => ?_) (by rw [Heap.size_update, size_push']; exact Nat.le_succ _))
  rw [Heap.get?_update_ne _ _ _ _ (Nat.ne_of_lt (Heap.lt_size q))]
  exact Heap.get?_push_of_some _ q
/-- sorted(t) -/
theorem sorted_tup {t : Addr} {vs : List Value} {ns : List Int} {Q : Value → Shared → Prop} (ht : IsTup s.heap t vs.toArray) (hI : IntsAre vs ns) (hz : vs.length ≤ sizeLine)
    (h : ∀ (h' : Heap) (p : Addr) (out : List Value) (c : Nat), (∀ b o, s.heap.get? b = some o → h'.get? b = some o) → s.heap.objs.size ≤ p → h'.get? p = some (seqObj "list" out.toArray c) →
      IntsAre out (out.map SrtO.iv) → (out.map SrtO.iv).Perm ns → (out.map SrtO.iv).Pairwise (· ≤ ·) → Q (.ref p) { s with heap := h' }) :
    wpAny (model prog w) A (call (.builtin "sorted") [.ref t]) Q E s := by
  refine Calls.call_function_entry kind_sorted plain_sorted entry_sorted (args_sorted1 _) ?_
  unfold Builtin.«sorted»
  refine wpAny_bind (m := checkCount "sorted" 1 1 _) (wpAny_pure (wpAny_bind (draw_tup ht hz fun h1 k1 up => wpAny_bind (wpAny_newList ?_ hz))))
  have ha : (h1.push (seqObj "list" vs.toArray 0)).get? h1.objs.size = some (seqObj "list" vs.toArray 0) := Heap.get?_push_size _ rfl
  refine wpAny_bind (wpAny_holding (wpAny_call_entry slot_list_sort ⟨_, ha, rfl⟩ entry_list_sort (SrtO.list_sort_ord (s := { s with heap := h1.push (seqObj "list" vs.toArray 0) }) SrtO.swo_int ha hz (fun h2 => SrtO.ints_sortable hI h2) fun out a1 a2 => ⟨_, rfl, ?_⟩) (args_list_sort _)))
  obtain ⟨b1, b2, b3⟩ := SrtO.ints_out hI a1 a2
  obtain ⟨c, hc⟩ := sortedHeap_at (vs := vs) (out := out.toArray) ha
  refine wpAny_pure ⟨_, rfl, h _ h1.objs.size out c (fun b u e => ?_) up hc b1 b2 b3⟩
  have q := k1 b u e
  have hlt := Heap.lt_size q
  show (sortedHeap (h1.push (seqObj "list" vs.toArray 0)) h1.objs.size vs out.toArray).get? b = some u
  rw [sortedHeap_old (Nat.ne_of_lt hlt) (by rw [size_push']; exact Nat.lt_succ_of_lt hlt)]
  exact Heap.get?_push_of_some _ q
end
section
variable {X : Cx}
/-- sorted(t), t a tuple of ints: a new list -/
def rSortedTup : List V → Hp → VK → Prop := fun vs H Q => ∃ (a : Addr) (ns : List Int), vs = [V.ref a] ∧ H a = some (.tup (ns.map V.int)) ∧
  ∀ (ns' : List Int) (p : Addr), ns'.Perm ns → ns'.Pairwise (· ≤ ·) → H p = none → Q (.ref p) (upd H p (.lst (ns'.map V.int)))
theorem cr_sortedTup : CallR X (.builtin "sorted") rSortedTup := by
  intro pins s σ H vs us Q I r h
  obtain ⟨a, ns, rfl, ha, q⟩ := h
  obtain ⟨hz, its, rv, ht⟩ := I.hok a _ ha
  rw [Vals.ref1 r]
  refine sorted_tup ht rv.ints (by rw [← rv.length]; exact hz) fun h' p out c k hp hat b1 b2 b3 => ?_
  have hn : H p = none := I.hok.fresh hp
  have hl : ((out.map SrtO.iv).map V.int).length ≤ sizeLine := by
    rw [List.length_map, b2.length_eq]
    rw [List.length_map] at hz
    exact hz
  exact ⟨.ref p, _, I.laid (t' := s.toks) (o := .lst ((out.map SrtO.iv).map V.int)) k hp ⟨hl, out, c, vals_of_ints b1, hat⟩, rfl, q _ p b2 b3 hn⟩
end
/-! ### set(xs): many items, few unlike -/
/-- what the set has got of the items that were met -/
structure Had (ks : List (Addr × List Int)) (i : Nat) (L : List (Addr × List Int)) : Prop where
  src : ∀ p ∈ L, p ∈ ks
  all : ∀ (j : Nat) (p : Addr × List Int), j < i → ks[j]? = some p → p.2 ∈ L.map (·.2)
theorem few_of {ks L : List (Addr × List Int)} {D : List (List Int)} (hD : ∀ p ∈ ks, p.2 ∈ D) (src : ∀ p ∈ L, p ∈ ks) (nd : (L.map (·.2)).Nodup) : L.length ≤ D.length := by
  have q := Gr.nodup_sub_len (L.map (·.2)) D nd fun x hx => by
    obtain ⟨p, hp, e⟩ := List.mem_map.mp hx
    rw [← e]
    exact hD p (src p hp)
  rw [List.length_map] at q
  exact q
section
variable {P : Program} {w : World} {A : Around} {E : Value → Shared → Prop} {s : Shared}
theorem set_turns {I : Addr} {fp wr : List Addr} {G : Array GenState → Array GenState → Prop} {n : Nat} {Pv : Nat → Value → Prop} {St : Nat → Shared → Prop} {R : Result → Shared → Prop}
    (W : WalksS P w A.in1 I fp wr G n Pv St) (S : Addr) (hSf : S ∉ fp) (ks : List (Addr × List Int)) (D : List (List Int)) (hn : n = ks.length) (hD : ∀ p ∈ ks, p.2 ∈ D) (hfew : D.length < 63)
    (hval : ∀ i v, Pv i v → ∃ p, ks[i]? = some p ∧ v = .ref p.1) (h0 : Heap) (hk : ∀ p ∈ ks, IsT P w h0 p.2 p.1) (hS0 : h0.get? S = none) (hw0 : ∀ b ∈ wr, h0.get? b = none) (hu : A.in1.units < cLine) :
    ∀ (k i : Nat) (s : Shared), n - i = k → i ≤ n → St i s → (∀ b o, h0.get? b = some o → s.heap.get? b = some o) → (∃ L es ep t, SetTR P w s.heap S L es ep t ∧ Had ks i L) →
      (∀ s' L es ep t, Moved (S :: wr) G s s' → SetTR P w s'.heap S L es ep t → Had ks n L → (∀ b o, h0.get? b = some o → s'.heap.get? b = some o) → R (.ok (.ret .none)) s') →
      codeAny (model P w) A (.builtin "set.update.loop" ⟨[.ref S, .ref I], []⟩) R s := by
  have nSw : S ∉ wr := fun m => hSf (W.sub _ m)
  have onward : ∀ {s s' : Shared}, Moved wr G s s' → (∀ b o, h0.get? b = some o → s.heap.get? b = some o) → ∀ b o, h0.get? b = some o → s'.heap.get? b = some o := fun mv kp b o e =>
    mv.heap b o (fun z => by rw [hw0 b z] at e; cases e) (kp b o e)
  intro k
  induction k with
  | zero =>
    intro i s hk' hi hst kp hx hR
    obtain ⟨L, es, ep, t, hS, g⟩ := hx
    obtain rfl : i = n := by omega
    refine codeAny_builtin F.entry_set_update_loop ?_
    rw [Around.under_plainId F.plain_set_update_loop _]
    refine wpAny_bind (m := pyNext (.ref I)) (W.done s _ _ hst fun s' mv => ?_)
    have kp' := onward mv kp
    exact wpAny_pure (hR s' L es ep t (mv.mono fun b hb => List.mem_cons_of_mem _ hb) (hS.keep (fun o e => mv.heap S o nSw e) fun p hp => isT_keep (hk p (g.src p hp)) kp') g kp')
  | succ k ih =>
    intro i s hk' hi hst kp hx hR
    obtain ⟨L, es, ep, t, hS, g⟩ := hx
    have hlt : i < n := by omega
    refine codeAny_builtin F.entry_set_update_loop ?_
    rw [Around.under_plainId F.plain_set_update_loop _]
    refine wpAny_bind (m := pyNext (.ref I)) (W.item i s _ _ hlt hst fun v s' hP hst' mv => ?_)
    obtain ⟨p, hp, rfl⟩ := hval i v hP
    have kp' := onward mv kp
    have hS' : SetTR P w s'.heap S L es ep t := hS.keep (fun o e => mv.heap S o nSw e) fun q hq => isT_keep (hk q (g.src q hq)) kp'
    have hx : IsT P w s'.heap p.2 p.1 := isT_keep (hk p (List.mem_of_getElem? hp)) kp'
    have short := few_of hD g.src hS.nd
    refine wpAny_bind (m := holding [Value.ref p.1] (setAdd S (.ref p.1))) (wpAny_holding ?_)
    unfold setAdd
    refine wpAny_holding (wpAny_bind (wpAny_pyHash_tuple hu hx ?_))
    refine add_at (s := { s' with toks := s'.toks + (p.2.length + 1) }) hS' hx hu (by omega) fun b h' L' es' ep' t' sb hS2 c1 c2 => ?_
    have g' : Had ks (i + 1) L' := by
      rcases Classical.em (p.2 ∈ L.map (·.2)) with c | c
      · rw [c1 c]
        refine ⟨g.src, fun j q hj hq => ?_⟩
        rcases Nat.lt_succ_iff_lt_or_eq.mp hj with z | z
        · exact g.all j q z hq
        · rw [z, hp] at hq
          rw [← Option.some.inj hq]
          exact c
      · have pm := c2 c
        refine ⟨fun q hq => ?_, fun j q hj hq => ?_⟩
        · rcases List.mem_cons.mp (pm.mem_iff.mp hq) with z | z
          · rw [z]
            exact List.mem_of_getElem? hp
          · exact g.src q z
        · rw [(pm.map (·.2)).mem_iff, List.map_cons]
          rcases Nat.lt_succ_iff_lt_or_eq.mp hj with z | z
          · exact List.mem_cons_of_mem _ (g.all j q z hq)
          · rw [z, hp] at hq
            rw [← Option.some.inj hq]
            exact List.mem_cons_self
    have kp2 : ∀ b o, h0.get? b = some o → h'.get? b = some o := fun b o e => (sb.2 b fun z => by rw [z, hS0] at e; cases e).trans (kp' b o e)
    refine wpAny_pure ⟨plainId_quiet F.plain_set_update_loop _, ih (i + 1) _ (by omega) hlt (W.frame _ s' _ _ hst' (Nat.le_add_right _ _) fun b hb o e => ?_) kp2 ⟨L', es', ep', t', hS2, g'⟩ fun s2 L2 es2 ep2 t2 mv2 hS3 g3 kp3 => ?_⟩
    · rw [sb.2 b fun z : b = S => hSf (z ▸ hb)]
      exact e
    · refine hR s2 L2 es2 ep2 t2 (Moved.trans W.gtrans ((mv.mono fun b hb => List.mem_cons_of_mem _ hb).then_heap (Nat.le_add_right _ _) fun b o hb e => ?_) mv2) hS3 g3 kp3
      rw [sb.2 b fun z : b = S => hb (z ▸ List.mem_cons_self)]
      exact e
end

section
variable {P : Program} {w : World} {A : Around} {E : Value → Shared → Prop} {s : Shared}
/-- a set as it is made -/
abbrev nuSet (w : World) : Obj := { cls := .type "set", dict := none, data := .set #[] 0 (.fresh 0 0 (!w.params.followText "set-order")) }
/-- what the call leaves -/
abbrev SetDone (P : Program) (w : World) (ks : List (Addr × List Int)) (s : Shared) (h' : Heap) : Prop :=
  ∃ L es ep t, SetTR P w h' s.heap.objs.size L es ep t ∧ Had ks ks.length L ∧ ∀ b o, s.heap.get? b = some o → h'.get? b = some o
/-- its filling: set.__init__ with the list -/
theorem set_init {l : Addr} {items : Array Value} (ks : List (Addr × List Int)) (D : List (List Int)) (hh : A.handled = none) (hl : s.heap.IsList l items) (hit : items.toList = ks.map fun p => Value.ref p.1)
    (hk : ∀ p ∈ ks, IsT P w s.heap p.2 p.1) (hD : ∀ p ∈ ks, p.2 ∈ D) (hfew : D.length < 63) (hu : A.units + 3 < cLine) {R : Result → Shared → Prop}
    (hR : ∀ (h' : Heap) (tk : Nat), SetDone P w ks s h' → R (.ok (.ret .none)) { s with heap := h', toks := tk }) :
    codeAny (model P w) A.in1.in1 (.builtin "set.update.loop" ⟨[.ref s.heap.objs.size, .ref (s.heap.push (nuSet w)).objs.size], []⟩) R { s with heap := (s.heap.push (nuSet w)).push { cls := .type "list_iterator", data := .fields #[.ref l, .int 0 0] } } := by
  have hisz : items.size = ks.length := by
    have q := congrArg List.length hit
    rw [Array.length_toList, List.length_map] at q
    exact q
  obtain ⟨ol, hol, hcl, nl, hdl⟩ := id hl
  have hlS : l < s.heap.objs.size := Heap.lt_size hol
  have hl1 : (s.heap.push (nuSet w)).IsList l items := ⟨ol, Heap.get?_push_of_some _ hol, hcl, nl, hdl⟩
  have sz1 : (s.heap.push (nuSet w)).objs.size = s.heap.objs.size + 1 := Heap.size_push ..
  have hneI : l ≠ (s.heap.push (nuSet w)).objs.size := by
    rw [sz1]
    exact Nat.ne_of_lt (Nat.lt_succ_of_lt hlS)
  have hSf : s.heap.objs.size ∉ [(s.heap.push (nuSet w)).objs.size, l] := fun m => by
    rw [sz1] at m
    rcases List.mem_cons.mp m with e | m
    · exact absurd e (Nat.ne_of_lt (Nat.lt_succ_self _))
    · exact absurd (List.mem_singleton.mp m) (Nat.ne_of_gt hlS)
  have free : ∀ b, s.heap.objs.size ≤ b → s.heap.get? b = none := fun b hb => by
    cases q : s.heap.get? b with
    | none => rfl
    | some o => exact absurd (Nat.lt_of_lt_of_le (Heap.lt_size q) hb) (Nat.lt_irrefl _)
  have hval : ∀ (i : Nat) (v : Value), items[i]? = some v → ∃ p, ks[i]? = some p ∧ v = .ref p.1 := fun i v hv => by
    have q : items.toList[i]? = some v := by
      rw [Array.getElem?_toList]
      exact hv
    rw [hit, List.getElem?_map] at q
    obtain ⟨p, hp, e⟩ := Option.map_eq_some_iff.mp q
    exact ⟨p, hp, e.symm⟩
  have hh3 : A.in1.in1.in1.handled = none := by simp [hh]
  have hget : ((s.heap.push (nuSet w)).push { cls := .type "list_iterator", data := .fields #[.ref l, .int 0 0] }).get? s.heap.objs.size = some (nuSet w) := Heap.get?_push_of_some _ (Heap.get?_push_size _ rfl)
  refine set_turns ((Walks.list hh3 _ l hneI items).toS) s.heap.objs.size hSf ks D hisz hD hfew hval s.heap hk (free _ (Nat.le_refl _)) (fun b hb => free b ?_) (Nat.lt_of_le_of_lt (Nat.le_refl _) hu) (items.size - 0) 0 _ (by omega) (Nat.zero_le _)
    ⟨⟨_, Heap.get?_push_size _ rfl, rfl, rfl⟩, hl1.push _⟩ (fun b o e => Heap.get?_push_of_some _ (Heap.get?_push_of_some _ e)) ⟨[], #[], 0, _, setTR_fresh hget, fun p hp => (by cases hp), fun j p hj => absurd hj (Nat.not_lt_zero _)⟩ fun s' L es ep t mv hS g kp => ?_
  · rw [List.mem_singleton.mp hb, sz1]
    exact Nat.le_succ _
  · obtain ⟨h', g2, d', tk', os'⟩ := s'
    obtain rfl : g2 = s.gens := mv.gens
    obtain rfl : d' = s.drawn := mv.drawn
    obtain rfl : os' = s.os := mv.os
    rw [hisz] at g
    exact hR h' tk' ⟨L, es, ep, t, hS, g, kp⟩
end

section
variable {P : Program} {w : World} {A : Around} {E : Value → Shared → Prop} {s : Shared}
/-- set(xs) -/
theorem set_call {l : Addr} {items : Array Value} (ks : List (Addr × List Int)) (D : List (List Int)) {Q : Value → Shared → Prop} (hh : A.handled = none) (hl : s.heap.IsList l items) (hit : items.toList = ks.map fun p => Value.ref p.1)
    (hk : ∀ p ∈ ks, IsT P w s.heap p.2 p.1) (hD : ∀ p ∈ ks, p.2 ∈ D) (hfew : D.length < 63) (hu : A.units + 3 < cLine)
    (h : ∀ (h' : Heap) (tk : Nat), SetDone P w ks s h' → Q (.ref s.heap.objs.size) { s with heap := h', toks := tk }) :
    wpAny (model P w) A (call (.type "set") [.ref l]) Q E s := by
  obtain ⟨c, tl, hmro⟩ := F.called_set.mro
  have hmade := F.called_set.made
  have hsub := F.called_set.sub
  refine wpAny_call (codeAny_of_tree ?_)
  show wpAny _ _ (callAny (.type "set") _) _ _ _
  refine wpAny_pure ⟨Code.quiet_builtin _ (by decide +kernel), codeAny_builtin F.entry_type_call ?_⟩
  rw [Around.under_plain (weight_type_call_type "set" [.ref l] []) rfl]
  have h1 := F.called_set.notType
  have h2 := F.called_set.canCreate
  have hct := F.typeCall_set_1 (.ref l)
  repeat (any_goals (first | assumption | wp_step))
  refine codeAny_mono (code_set_led1 (.ref l) (E := E) (Q₁ := fun obj s₁ => obj = .ref s.heap.objs.size ∧ s₁ = { s with heap := s.heap.push (nuSet w) }) ⟨rfl, rfl⟩) fun r s₁ hr => ?_
  cases r with
  | error e => exact hr
  | ok fl =>
    cases fl with
    | ret obj =>
      obtain ⟨rfl, rfl⟩ := hr
      have hS : (s.heap.push (nuSet w)).get? s.heap.objs.size = some (nuSet w) := Heap.get?_push_size _ rfl
      have hT : Shared.TypeIs { s with heap := s.heap.push (nuSet w) } (.ref s.heap.objs.size) "set" := ⟨_, hS, rfl⟩
      have hli := F.called_set.init.lookup
      have hbi := F.called_set.init.bind (.ref s.heap.objs.size)
      repeat (any_goals (first | assumption | wp_step))
      refine codeAny_mono (codeAny_call_builtin (R := wants (fun r s₂ => r = .none ∧ ∃ h' tk, s₂ = { s with heap := h', toks := tk } ∧ SetDone P w ks s h') E) F.called_set.init.plain F.entry_set_init (check_set_init_1 hT ?_)) fun r₂ s₂ hr₂ => ?_
      · obtain ⟨⟨ocls, odict, odata, oslots⟩, hol, hcl, nl, hdl⟩ := id hl
        simp only at hcl hdl
        subst hcl
        subst hdl
        have hol' : (s.heap.push (nuSet w)).get? l = some { cls := .type "list", dict := odict, data := .seq items nl, slots := oslots } := Heap.get?_push_of_some _ hol
        have hsls := F.sub_list_set
        have hslf := F.sub_list_frozenset
        have hne : (Value.type "list" == Value.type "dict") = false := by decide
        have hl1 : (s.heap.push (nuSet w)).IsList l items := ⟨_, hol', rfl, nl, rfl⟩
        unfold Builtin.«set.__init__» noKeywords Builtin.Frozenset.updateFrom
        generalize hPI : pyIter = PI
        wp_walk
        subst hPI
        refine wpAny_pyIter_list hl1 (wpAny_bind (wpAny_runValue ?_))
        refine set_init ks D hh hl hit hk hD hfew hu fun h' tk d => ?_
        exact wpAny_pure (wpAny_pure ⟨rfl, h', tk, rfl, d⟩)
      · cases r₂ with
        | error e => exact hr₂
        | ok fl₂ =>
          cases fl₂ with
          | ret r =>
            obtain ⟨rfl, h', tk, rfl, d⟩ := hr₂
            repeat (any_goals (first | assumption | wp_step))
            exact h _ _ d
          | _ => exact hr₂.elim
    | _ => exact hr.elim
end
section
variable {X : Cx}
/-- set(xs), xs a list of tuples of ints, few of them unlike -/
def rSetFew (P : Program) (w : World) : List V → Hp → VK → Prop := fun xs H Q => ∃ (l : Addr) (ks : List (Addr × List Int)) (D : List (List Int)), xs = [V.ref l] ∧ H l = some (.lst (ks.map fun p => V.ref p.1)) ∧
  (∀ p ∈ ks, H p.1 = some (.tup (p.2.map V.int))) ∧ (∀ p ∈ ks, p.2 ∈ D) ∧ D.length < 63 ∧
  ∀ a L, H a = none → (∀ p ∈ L, p ∈ ks) → (∀ p ∈ ks, p.2 ∈ L.map (·.2)) → Q (.ref a) (upd H a (SetTO P w a L))
theorem cr_setFew (hc : X.calm = true) (hu : X.A.units + 64 < cLine) : CallR X (.type "set") (rSetFew X.prog X.w) := by
  intro pins s σ H xs us Q I r h
  obtain ⟨l, ks, D, rfl, hl, hk, hD, hf, q⟩ := h
  rw [Vals.ref1 r]
  obtain ⟨its, rv, pl, hz⟩ := I.list (SqL.of hl)
  have hn : H s.heap.objs.size = none := I.hok.fresh (Nat.le_refl _)
  refine set_call (P := X.prog) (w := X.w) ks D (I.ok.hd hc) pl.isList (by simpa using refs_of_vals rv) (fun p hp => I.isT (SqT.of (hk p hp))) hD hf (by omega) fun h' tk d => ?_
  obtain ⟨L, es, ep, t, R, g, k⟩ := d
  refine ⟨.ref s.heap.objs.size, upd H s.heap.objs.size (SetTO X.prog X.w s.heap.objs.size L), I.laid (t' := tk) k (Nat.le_refl _) (setTO_new R.t0), rfl, q _ L hn g.src fun p hp => ?_⟩
  obtain ⟨j, hj⟩ := List.getElem?_of_mem hp
  exact g.all j p (List.getElem?_eq_some_iff.mp hj).1 hj
end
end GrR
namespace GrR
open PySem PySem.Spec PyProof.Rows L2
section
variable {X : Cx}
theorem paired_right {α β : Type} {F : α → β → Prop} : ∀ {l₁ : List α} {l₂ : List β}, Paired F l₁ l₂ → ∀ b ∈ l₂, ∃ a ∈ l₁, F a b
  | _, _, .nil, b, h => by cases h
  | _, _, .cons r t, b, h => by
    rcases List.mem_cons.mp h with e | h
    · exact ⟨_, List.mem_cons_self, e ▸ r⟩
    · obtain ⟨a, ha, f⟩ := paired_right t b h
      exact ⟨a, List.mem_cons_of_mem _ ha, f⟩
/-- sorted(d), the keys tuples of d ints in [0, B), fewer than 64: a new list of the keys' tuples -/
def rSortedDT : List V → Hp → VK → Prop := fun vs H Q => ∃ (a : Addr) (kvs : List (List Key × V)) (d : Nat) (B : Int), vs = [V.ref a] ∧ H a = some (.dT kvs) ∧ kvs.length < 64 ∧ 1 ≤ d ∧
  (∀ p ∈ kvs, ∃ ns : List Int, p.1 = ns.map Sum.inl ∧ ns.length = d ∧ TS.Bd B ns) ∧
  ∀ (bs : List Addr) (p : Addr), (∀ b ∈ bs, ∃ e ∈ kvs, H b = some (.tup (e.1.map kV))) → bs.length < 64 → H p = none → Q (.ref p) (upd H p (.lst (bs.map V.ref)))
theorem kV_ints (ns : List Int) : (ns.map (Sum.inl : Int → Key)).map kV = ns.map V.int := by
  rw [List.map_map]
  rfl
theorem cr_sortedDT (hc : X.calm = true) : CallR X (.builtin "sorted") rSortedDT := by
  intro pins s σ H vs us Q I r h
  obtain ⟨a, kvs, d, B, rfl, hd, h64, hd1, hB, q⟩ := h
  rw [Vals.ref1 r]
  obtain ⟨z, hs, ks, pr, o, es, ep, ho, hx, hdt, he, hn⟩ := I.hok a _ hd
  have l1 : es.size = ks.length := size_of_entries he
  have l2 : kvs.length = ks.length := Paired.length pr
  have hz : es.size ≤ sizeLine := by
    rw [sizeLine_eq]
    omega
  have tup : ∀ x ∈ ks, ∃ ns : List Int, TS.TupInts s.heap (.ref x.2.1) ns ∧ ns.length = d ∧ TS.Bd B ns ∧ ∃ e ∈ kvs, H x.2.1 = some (.tup (e.1.map kV)) := fun x hxm => by
    obtain ⟨e, hem, f1, f2, _⟩ := paired_right pr x hxm
    obtain ⟨ns, e1, e2, e3⟩ := hB e hem
    refine ⟨ns, ?_, e2, e3, e, hem, by rw [f1] at f2 ⊢; exact f2⟩
    rw [e1, kV_ints] at f2
    exact tupI_raw I (SqT.of f2)
  refine Calls.call_function_entry kind_sorted plain_sorted entry_sorted (args_sorted1 _) ?_
  unfold Builtin.«sorted»
  refine wpAny_bind (m := checkCount "sorted" 1 1 _) (wpAny_pure (wpAny_bind (PySem.W.kdu_collect (A := X.A.in1) (kdl_raw hs hx hdt) (I.ok.hd hc) ho hz fun h' tk acc kp it => ?_)))
  have item : ∀ v ∈ acc.toList, ∃ x ∈ ks, v = Value.ref x.2.1 := fun v hv => by
    obtain ⟨j, hj⟩ := List.getElem?_of_mem hv
    obtain ⟨en, hen, rfl⟩ := it.2 j v (by rw [← Array.getElem?_toList]; exact hj)
    have qe := entry_at he j
    rw [hen] at qe
    obtain ⟨x, hx1, hx2⟩ := Option.map_eq_some_iff.mp qe.symm
    exact ⟨x, List.mem_of_getElem? hx1, by rw [← hx2]; rfl⟩
  have hal : acc.toList.length = ks.length := by rw [Array.length_toList, it.1, l1]
  refine wpAny_bind (wpAny_newList ?_ (by rw [hal, ← l1]; exact hz))
  have hob : (h'.push (seqObj "list" acc.toList.toArray 0)).get? h'.objs.size = some (seqObj "list" acc.toList.toArray 0) := Heap.get?_push_size _ rfl
  have tk0 : TS.TupsOk (h'.push (seqObj "list" acc.toList.toArray 0)) d B acc.toList := fun v hv => by
    obtain ⟨x, hxm, rfl⟩ := item v hv
    obtain ⟨ns, t1, t2, t3, _⟩ := tup x hxm
    exact ⟨ns, t1.keeps fun b u e _ => Heap.get?_push_of_some _ (kp b u e), t2, t3⟩
  refine wpAny_bind (wpAny_holding (TS.call_sort_tups (s := { s with heap := h'.push (seqObj "list" acc.toList.toArray 0), toks := tk }) hob (by omega) hd1 tk0 fun out p1 _ => ?_))
  obtain ⟨c, hcat⟩ := sortedHeap_at (vs := acc.toList) (out := out) hob
  have back : ∀ us : List Value, (∀ v ∈ us, ∃ x ∈ ks, v = Value.ref x.2.1) → ∃ bs : List Addr, us = bs.map Value.ref ∧ ∀ b ∈ bs, ∃ e ∈ kvs, H b = some (.tup (e.1.map kV)) := by
    intro us
    induction us with
    | nil => intro _; exact ⟨[], rfl, fun b hb => (by cases hb)⟩
    | cons v us ih =>
      intro hv
      obtain ⟨x, hxm, e⟩ := hv v List.mem_cons_self
      obtain ⟨bs, e1, e2⟩ := ih fun u hu => hv u (List.mem_cons_of_mem _ hu)
      obtain ⟨_, _, _, _, t4⟩ := tup x hxm
      refine ⟨x.2.1 :: bs, by rw [List.map_cons, e, e1], fun b hb => ?_⟩
      rcases List.mem_cons.mp hb with y | y
      · rw [y]
        exact t4
      · exact e2 b y
  obtain ⟨bs, eb, hbs⟩ := back out.toList fun v hv => item v (p1.mem_iff.mp hv)
  have hbl : bs.length = ks.length := by
    have e := congrArg List.length eb
    rw [p1.length_eq, hal, List.length_map] at e
    exact e.symm
  have I1 : Inv X pins σ H { s with heap := h', toks := tk } := I.kept kp
  have hfree : H h'.objs.size = none := I1.hok.fresh (Nat.le_refl _)
  refine wpAny_pure ⟨_, rfl, .ref h'.objs.size, _, I1.laid (t' := tk) (o := .lst (bs.map V.ref)) (fun b u e => ?_) (Nat.le_refl _) ⟨by rw [List.length_map, sizeLine_eq]; omega, out.toList, c, by rw [eb]; exact vals_refs bs, by rw [Array.toArray_toList]; exact hcat⟩, rfl, q bs _ hbs (by omega) hfree⟩
  have hlt := Heap.lt_size e
  show (sortedHeap (h'.push (seqObj "list" acc.toList.toArray 0)) h'.objs.size acc.toList out).get? b = some u
  rw [sortedHeap_old (Nat.ne_of_lt hlt) (by rw [size_push']; exact Nat.lt_succ_of_lt hlt)]
  exact Heap.get?_push_of_some _ e
end
end GrR
/-! The text by places. -/
namespace GrT
open PySem L2
def top (i : Nat) : Stmt := PySem.Challenge.pw_guardround_k69_whole_more_guards.main.body.getD i (.Pass ⟨0, 0, 0, 0⟩)
abbrev sInit : Stmt := inClass (top 10) 0
theorem scInit : FnScope ["self", "places", "ties", "found", "one", "other", "tie"] ["self", "places", "ties"] (defScope sInit) := ⟨rfl, rfl, rfl, by decide +kernel, rfl, by decide +kernel, by decide +kernel⟩
abbrev sLookAtPlace : Stmt := top 11
theorem scLookAtPlace : FnScope ["web", "place"] ["web", "place"] (defScope sLookAtPlace) := ⟨rfl, rfl, rfl, by decide +kernel, rfl, by decide +kernel, by decide +kernel⟩
abbrev sNear : Stmt := top 12
theorem scNear : FnScope ["web", "place", "found", "one", "other"] ["web", "place"] (defScope sNear) := ⟨rfl, rfl, rfl, by decide +kernel, rfl, by decide +kernel, by decide +kernel⟩
abbrev sLookAtCall : Stmt := top 14
theorem scLookAtCall : FnScope ["web", "standing", "call"] ["web", "standing", "call"] (defScope sLookAtCall) := ⟨rfl, rfl, rfl, by decide +kernel, rfl, by decide +kernel, by decide +kernel⟩
abbrev sStepsOf : Stmt := top 15
theorem scStepsOf : FnScope ["web", "guard"] ["web", "guard"] (defScope sStepsOf) := ⟨rfl, rfl, rfl, by decide +kernel, rfl, by decide +kernel, by decide +kernel⟩
abbrev sMoves : Stmt := top 16
theorem scMoves : FnScope ["web", "standing", "among", "rows", "guard", "steps", "longer", "row", "place"] ["web", "standing", "among"] (defScope sMoves) := ⟨rfl, rfl, rfl, by decide +kernel, rfl, by decide +kernel, by decide +kernel⟩
abbrev sAnswersOfOne : Stmt := top 17
theorem scAnswersOfOne : FnScope ["web", "standing", "call", "found", "k"] ["web", "standing", "call"] (defScope sAnswersOfOne) := ⟨rfl, rfl, rfl, by decide +kernel, rfl, by decide +kernel, by decide +kernel⟩
abbrev sAnswers : Stmt := top 18
theorem scAnswers : FnScope ["web", "standing", "call", "kind", "among", "place", "row"] ["web", "standing", "call", "kind"] (defScope sAnswers) := ⟨rfl, rfl, rfl, by decide +kernel, rfl, by decide +kernel, by decide +kernel⟩
abbrev sChoices : Stmt := top 21
theorem scChoices : FnScope ["many", "some", "found", "k"] ["many", "some"] (defScope sChoices) := ⟨rfl, rfl, rfl, by decide +kernel, rfl, by decide +kernel, by decide +kernel⟩
abbrev sLookAtGuards : Stmt := top 22
theorem scLookAtGuards : FnScope ["web", "guards"] ["web", "guards"] (defScope sLookAtGuards) := ⟨rfl, rfl, rfl, by decide +kernel, rfl, by decide +kernel, by decide +kernel⟩
abbrev sHowMany : Stmt := top 23
theorem scHowMany : FnScope ["web", "guards"] ["web", "guards"] (defScope sHowMany) := ⟨rfl, rfl, rfl, by decide +kernel, rfl, by decide +kernel, by decide +kernel⟩
abbrev sStandingAt : Stmt := top 24
theorem scStandingAt : FnScope ["web", "guards", "number", "found", "left", "place", "beginning"] ["web", "guards", "number"] (defScope sStandingAt) := ⟨rfl, rfl, rfl, by decide +kernel, rfl, by decide +kernel, by decide +kernel⟩
abbrev sStandings : Stmt := top 25
theorem scStandings : FnScope ["web", "guards", "many", "number"] ["web", "guards"] (defScope sStandings) := ⟨rfl, rfl, rfl, by decide +kernel, rfl, by decide +kernel, by decide +kernel⟩
abbrev sCallsAt : Stmt := top 27
theorem scCallsAt : FnScope ["web", "standing", "place"] ["web", "standing"] (defScope sCallsAt) := ⟨rfl, rfl, rfl, by decide +kernel, rfl, by decide +kernel, by decide +kernel⟩
abbrev sLedTo : Stmt := top 28
theorem scLedTo : FnScope ["web", "standing", "kind", "found", "call", "behind", "row"] ["web", "standing", "kind"] (defScope sLedTo) := ⟨rfl, rfl, rfl, by decide +kernel, rfl, by decide +kernel, by decide +kernel⟩
abbrev sFallingCall : Stmt := top 29
theorem scFallingCall : FnScope ["rows", "fallen", "call", "behind", "one"] ["rows", "fallen"] (defScope sFallingCall) := ⟨rfl, rfl, rfl, by decide +kernel, rfl, by decide +kernel, by decide +kernel⟩
abbrev sRoundsOf : Stmt := top 30
theorem scRoundsOf : FnScope ["web", "guards", "kind", "left", "standing", "fallen", "now", "many", "fresh", "rows", "call"] ["web", "guards", "kind"] (defScope sRoundsOf) := ⟨rfl, rfl, rfl, by decide +kernel, rfl, by decide +kernel, by decide +kernel⟩
abbrev sLasting : Stmt := top 31
theorem scLasting : FnScope ["web", "guards", "kind", "fallen", "standing"] ["web", "guards", "kind"] (defScope sLasting) := ⟨rfl, rfl, rfl, by decide +kernel, rfl, by decide +kernel, by decide +kernel⟩
abbrev sFalls : Stmt := top 32
theorem scFalls : FnScope ["web", "guards", "kind", "fallen", "standing"] ["web", "guards", "kind"] (defScope sFalls) := ⟨rfl, rfl, rfl, by decide +kernel, rfl, by decide +kernel, by decide +kernel⟩
abbrev sFirstAnswer : Stmt := top 34
theorem scFirstAnswer : FnScope ["web", "standing", "call", "kind", "listed", "row"] ["web", "standing", "call", "kind", "listed"] (defScope sFirstAnswer) := ⟨rfl, rfl, rfl, by decide +kernel, rfl, by decide +kernel, by decide +kernel⟩
abbrev sGuidePaper : Stmt := top 35
theorem scGuidePaper : FnScope ["web", "guards", "kind", "some", "listed", "standing", "paper", "rows", "call"] ["web", "guards", "kind"] (defScope sGuidePaper) := ⟨rfl, rfl, rfl, by decide +kernel, rfl, by decide +kernel, by decide +kernel⟩
abbrev sCallerPaper : Stmt := top 36
theorem scCallerPaper : FnScope ["web", "guards", "kind"] ["web", "guards", "kind"] (defScope sCallerPaper) := ⟨rfl, rfl, rfl, by decide +kernel, rfl, by decide +kernel, by decide +kernel⟩
abbrev sFewest : Stmt := top 39
theorem scFewest : FnScope ["web", "kind", "guards"] ["web", "kind"] (defScope sFewest) := ⟨rfl, rfl, rfl, by decide +kernel, rfl, by decide +kernel, by decide +kernel⟩
abbrev sFirstUnwatched : Stmt := top 41
theorem scFirstUnwatched : FnScope ["web", "some", "place", "other"] ["web", "some"] (defScope sFirstUnwatched) := ⟨rfl, rfl, rfl, by decide +kernel, rfl, by decide +kernel, by decide +kernel⟩
abbrev sLawCellAt : Stmt := top 43
theorem scLawCellAt : FnScope ["script", "k"] ["script", "k"] (defScope sLawCellAt) := ⟨rfl, rfl, rfl, by decide +kernel, rfl, by decide +kernel, by decide +kernel⟩
abbrev sLawSmallWeb : Stmt := top 45
theorem scLawSmallWeb : FnScope ["script", "most", "head", "places", "pairs", "bits", "digits", "cell", "dense", "other", "one", "there"] ["script", "most"] (defScope sLawSmallWeb) := ⟨rfl, rfl, rfl, by decide +kernel, rfl, by decide +kernel, by decide +kernel⟩
abbrev sLawGrown : Stmt := top 46
theorem scLawGrown : FnScope ["standing", "place"] ["standing", "place"] (defScope sLawGrown) := ⟨rfl, rfl, rfl, by decide +kernel, rfl, by decide +kernel, by decide +kernel⟩
abbrev sLawKept : Stmt := top 47
theorem scLawKept : FnScope ["places", "ones", "more", "standing", "place"] ["places", "ones", "more"] (defScope sLawKept) := ⟨rfl, rfl, rfl, by decide +kernel, rfl, by decide +kernel, by decide +kernel⟩
abbrev sLawKind : Stmt := top 48
theorem scLawKind : FnScope ["web", "kind", "ones", "guards", "more", "standing"] ["web", "kind"] (defScope sLawKind) := ⟨rfl, rfl, rfl, by decide +kernel, rfl, by decide +kernel, by decide +kernel⟩
abbrev sLaw : Stmt := top 49
theorem scLaw : FnScope ["script", "places", "pairs", "web", "guards", "every", "standing"] ["script"] (defScope sLaw) := ⟨rfl, rfl, rfl, by decide +kernel, rfl, by decide +kernel, by decide +kernel⟩
end GrT
/-! What stands in the heap: tuples of ints, lists of them, a web. -/
namespace GrD
open PySem PySem.Spec PyProof.Rows L2 GrT GrR Gr
/-- a tuple of these ints -/
def TI (H : Hp) (v : V) (ns : List Int) : Prop := ∃ t, v = .ref t ∧ H t = some (.tup (ns.map V.int))
abbrev TIs (H : Hp) (xs : List V) (ts : List (List Int)) : Prop := Paired (TI H) xs ts
/-- tuples stand -/
def Tk (H H' : Hp) : Prop := ∀ b xs, H b = some (.tup xs) → H' b = some (.tup xs)
theorem Tk.refl (H : Hp) : Tk H H := fun _ _ h => h
theorem Tk.trans {H H1 H2 : Hp} (a : Tk H H1) (b : Tk H1 H2) : Tk H H2 := fun c x h => b c x (a c x h)
theorem Tk.of {H H' : Hp} (s : Same H H') : Tk H H' := fun b xs h => s b _ h
theorem Tk.new {H : Hp} {p : Addr} {o : HO} (h : H p = none) : Tk H (upd H p o) := fun b xs e => by
  rw [upd_ne (ne_of_none e h)]
  exact e
theorem Tk.wr {H : Hp} {D : Addr} {u o : HO} (h : H D = some u) (d : ∀ xs, u ≠ .tup xs) : Tk H (upd H D o) := fun b xs e => by
  rw [upd_ne fun q => by rw [q, h] at e; exact d xs (Option.some.inj e)]
  exact e
theorem Tk.wrL {H : Hp} {D : Addr} {ys : List V} {o : HO} (h : H D = some (.lst ys)) : Tk H (upd H D o) := Tk.wr h fun _ e => by cases e
theorem TI.tk {H H' : Hp} {v : V} {ns : List Int} (h : TI H v ns) (k : Tk H H') : TI H' v ns := by
  obtain ⟨t, e, ht⟩ := h
  exact ⟨t, e, k t _ ht⟩
theorem TIs.tk {H H' : Hp} {xs : List V} {ts : List (List Int)} (h : TIs H xs ts) (k : Tk H H') : TIs H' xs ts := Paired.mapP h fun _ _ q => TI.tk q k
theorem same_new {H : Hp} {p : Addr} {o : HO} (h : H p = none) : Same H (upd H p o) := fun b u e => by
  rw [upd_ne (ne_of_none e h)]
  exact e
theorem same_wr {H0 H : Hp} {D : Addr} {o : HO} (s : Same H0 H) (h : H0 D = none) : Same H0 (upd H D o) := fun b u e => by
  rw [upd_ne (ne_of_none e h)]
  exact s b u e
theorem V_int_inj {a b : List Int} (h : a.map V.int = b.map V.int) : a = b := by
  refine List.map_inj_right (fun x y e => ?_) |>.mp h
  exact V.int.inj e
theorem TI.inj {H : Hp} {v : V} {a b : List Int} (h : TI H v a) (h' : TI H v b) : a = b := by
  obtain ⟨t, e, ht⟩ := h
  obtain ⟨t', e', ht'⟩ := h'
  rw [e] at e'
  cases e'
  rw [ht] at ht'
  injection Option.some.inj ht' with q
  exact V_int_inj q
theorem paired_at {α β : Type} {F : α → β → Prop} : ∀ {l₁ : List α} {l₂ : List β} {i : Nat} {a : α}, Paired F l₁ l₂ → l₁[i]? = some a → ∃ b, l₂[i]? = some b ∧ F a b
  | _, _, _, _, .nil, e => by simp at e
  | _, _, 0, _, .cons r _, e => by
    simp at e
    subst e
    exact ⟨_, rfl, r⟩
  | _, _, i + 1, a, .cons _ t, e => by
    obtain ⟨b, h1, h2⟩ := paired_at (i := i) (a := a) t (by simpa using e)
    exact ⟨b, by simpa using h1, h2⟩
theorem paired_snoc {α β : Type} {F : α → β → Prop} {a : α} {b : β} : ∀ {l₁ : List α} {l₂ : List β}, Paired F l₁ l₂ → F a b → Paired F (l₁ ++ [a]) (l₂ ++ [b])
  | _, _, .nil, r => .cons r .nil
  | _, _, .cons q t, r => .cons q (paired_snoc t r)
theorem paired_app {α β : Type} {F : α → β → Prop} : ∀ {l₁ m₁ : List α} {l₂ m₂ : List β}, Paired F l₁ l₂ → Paired F m₁ m₂ → Paired F (l₁ ++ m₁) (l₂ ++ m₂)
  | _, _, _, _, .nil, r => r
  | _, _, _, _, .cons q t, r => .cons q (paired_app t r)
/-! ### a web -/
theorem ne_pt : ¬ (("places" : Str) = "ties") := by decide +kernel
def wf (n : Nat) (a : Addr) : List (Str × V) := putF "ties" (.ref a) (putF "places" (.int (n : Int)) [])
theorem wf_places (n : Nat) (a : Addr) : (wf n a).lookup ("places" : Str) = some (.int (n : Int)) := by
  unfold wf
  rw [lookup_putF, if_neg ne_pt, lookup_putF, if_pos rfl]
theorem wf_ties (n : Nat) (a : Addr) : (wf n a).lookup ("ties" : Str) = some (.ref a) := by
  unfold wf
  rw [lookup_putF, if_pos rfl]
def pr (t : Int × Int) : List Int := [t.1, t.2]
/-- a web of n places with the ties T stands at w -/
def WebAt (C : Addr) (H : Hp) (w : Addr) (n : Nat) (T : List (Int × Int)) : Prop := WebOk n T ∧ ∃ (dx a : Addr) (xs : List V), H w = some (.ins C dx (wf n a)) ∧ H a = some (.tup xs) ∧ TIs H xs (T.map pr)
theorem WebAt.same {C : Addr} {H H' : Hp} {w : Addr} {n : Nat} {T : List (Int × Int)} (h : WebAt C H w n T) (s : Same H H') : WebAt C H' w n T := by
  obtain ⟨W, dx, a, xs, h1, h2, h3⟩ := h
  exact ⟨W, dx, a, xs, s _ _ h1, s _ _ h2, h3.tk (.of s)⟩
/-! ### what the top has made -/
structure Txt (K : PySem.W.Frag) (mg : Str → Option Value) (C : Addr) : Prop where
  cl : Cls K C
  nP : NoAttr K C "places"
  nT : NoAttr K C "ties"
  mgC : mg "Web" = some (.ref C)
  len : mg "len" = none
  range : mg "range" = none
  sorted : mg "sorted" = none
  tuple : mg "tuple" = none
  set : mg "set" = none
  all : mg "all" = none
  any : mg "any" = none
  min : mg "min" = none
  max : mg "max" = none
  abs : mg "abs" = none
  int : mg "int" = none
  mp : ∃ t, mg "MOST_PLACES" = some (.int 60 t)
  most : ∃ t, mg "MOST" = some (.int 400 t)
  here : ∃ t, mg "MOST_HERE" = some (.int 8 t)
/-- a def of the text that keeps its promise, ready to be called -/
structure Good (P : Program) (w : World) (K : PySem.W.Frag) (mg : Str → Option Value) (base : Heap) (k : Nat) (x : Str) (ps : List Str) (sp : Sp) : Prop where
  ex : ∃ (f : Addr) (fd : FuncData), FnOk P w K mg base CX0 k f fd ps sp ∧ mg x = some (.ref f) ∧ PySem.W.keepIn K (.ref f) = true ∧ Binds K fd ps []
/-- a def as it stands, with its name and its parameters -/
structure Def (K : PySem.W.Frag) (mg : Str → Option Value) (x : Str) (st : Stmt) (ps : List Str) (f : Addr) (fd : FuncData) : Prop where
  F : Fun K x x st f fd
  b : Binds K fd ps []
  g : mg x = some (.ref f)
theorem Def.good {P : Program} {w : World} {K : PySem.W.Frag} {mg : Str → Option Value} {base : Heap} {k : Nat} {x : Str} {st : Stmt} {ps : List Str} {f : Addr} {fd : FuncData} {sp : Sp} (D : Def K mg x st ps f fd) (ok : FnOk P w K mg base CX0 k f fd ps sp) : Good P w K mg base k x ps sp :=
  ⟨f, fd, ok, D.g, D.F.kp, D.b⟩
section
variable {X : Cx} {k : Nat} {x : Str} {ps : List Str} {sp : Sp} {p pos : Pos} {e : Expr} {es : List Expr} {t : L2.St → Hp → (List V → Hp → Prop) → Prop}
/-- the call of a def of the text -/
theorem pe_go (G : Good X.prog X.w X.K X.mg X.base k x ps sp) (hr : Room k X.A) (hg : Gl X x) (ha : PA X (e :: es) t) (hdb : (x == ("__debug__" : Str)) = false := by decide)
    (he : starEach (e :: es) X.env = (false, eval e X.env) :: starEach es X.env := by rfl) (hpl : (backTo pos (starEach es X.env)).any (·.1) = false := by rfl) : PE X (.Call (.Name x p) (e :: es) [] pos) (tCall sp [] E0 t) := by
  obtain ⟨f, fd, F, g, kp, b⟩ := G.ex
  exact pe_call F hr hg g kp b .nil pass0 ha hdb he hpl
end
end GrD
namespace GrD
open PySem PySem.Spec PyProof.Rows L2 GrT GrR Gr
section
variable {P : Program} {w : World} {K : PySem.W.Frag} {mg : Str → Option Value} {base : Heap} {C : Addr}
/-- look_at_place: a place of the web passes -/
def spLookAtPlace (C : Addr) : Sp := fun vs H Q _ => ∃ (a : Addr) (n : Nat) (T : List (Int × Int)) (p : Int), vs = [.ref a, .int p] ∧ WebAt C H a n T ∧ Inn n p ∧ Q .non H
theorem ok_look_at_place {f : Addr} {fd : FuncData} (F : Fun K "look_at_place" "look_at_place" sLookAtPlace f fd) (T : Txt K mg C) : FnOk P w K mg base CX0 1 f fd ["web", "place"] (spLookAtPlace C) := by
  refine F.ok scLookAtPlace (fun vs H Q E h => ?_) (fun cdv A outer s H vs Q E hr h => ?_)
  · obtain ⟨a, n, T, p, rfl, _⟩ := h
    rfl
  · obtain ⟨a, n, U, p, rfl, ⟨W, dx, at_, xs, h1, h2, h3⟩, ⟨p0, p1⟩, q⟩ := h
    refine ⟨_, pss_one (ps_if (pt_not (pt_chain op_le op_lt pe_int (pv 1) (pe_fld (pv 0) rfl))) pss_never pss_nil), ?_⟩
    refine ⟨_, rfl, _, _, rfl, rfl, _, rfl, ?_⟩
    rw [decide_eq_true p0]
    refine iteT ⟨_, rfl, a, C, dx, _, _, rfl, h1, T.cl, T.nP, wf_places _ _, _, _, rfl, rfl, _, rfl, ?_⟩
    exact iteNS p1 q
end
end GrD
namespace Gr
def nearOne (p : Int) (t : Int × Int) : Option Int := if t.1 = p then some t.2 else if t.2 = p then some t.1 else none
def nearL (T : List (Int × Int)) (p : Int) : List Int := T.filterMap (nearOne p)
theorem nearL_len (p : Int) : ∀ T : List (Int × Int), (nearL T p).length = (T.filter fun t => decide (t.1 = p) || decide (t.2 = p)).length
  | [] => rfl
  | t :: T => by
    have ih := nearL_len p T
    unfold nearL at ih ⊢
    rw [List.filterMap_cons, List.filter_cons]
    unfold nearOne at ih ⊢
    by_cases h1 : t.1 = p
    · simp [h1, ih]
    · by_cases h2 : t.2 = p
      · simp [h1, h2, ih]
      · simp [h1, h2, ih]
theorem mem_nearL {n : Nat} {T : List (Int × Int)} (W : WebOk n T) {p q : Int} : q ∈ nearL T p ↔ Adj T p q := by
  unfold nearL nearOne Adj
  rw [List.mem_filterMap]
  constructor
  · rintro ⟨⟨a, b⟩, h, e⟩
    simp only at e
    split at e
    · rename_i h1
      cases e
      rw [h1] at h
      exact .inl h
    · split at e
      · rename_i h1 h2
        cases e
        rw [h2] at h
        exact .inr h
      · cases e
  · rintro (h | h)
    · exact ⟨(p, q), h, by simp⟩
    · have ne : ¬ q = p := W.ne _ _ h
      exact ⟨(q, p), h, by simp [ne]⟩
end Gr
namespace GrD
open PySem PySem.Spec PyProof.Rows L2 GrT GrR Gr
theorem map_int_at {ns : List Int} {i : Nat} {x : V} (h : (ns.map V.int)[i]? = some x) : ∃ n, ns[i]? = some n ∧ x = .int n := by
  rw [List.getElem?_map] at h
  obtain ⟨n, h1, h2⟩ := Option.map_eq_some_iff.mp h
  exact ⟨n, h1, h2.symm⟩
section
variable {P : Program} {w : World} {K : PySem.W.Frag} {mg : Str → Option Value} {base : Heap} {C : Addr}
/-- near: the places near a place -/
def spNear (C : Addr) : Sp := fun vs H Q _ => ∃ (a : Addr) (n : Nat) (T : List (Int × Int)) (p : Int), vs = [.ref a, .int p] ∧ WebAt C H a n T ∧ Inn n p ∧
  ∀ (H' : Hp) (t : Addr) (ns : List Int), Same H H' → H' t = some (.tup (ns.map V.int)) → ns.length ≤ 5 → (∀ q, q ∈ ns ↔ Adj T p q) → Q (.ref t) H'
theorem ok_near {f : Addr} {fd : FuncData} (F : Fun K "near" "near" sNear f fd) (T : Txt K mg C) (GL : Good P w K mg base 1 "look_at_place" ["web", "place"] (spLookAtPlace C)) : FnOk P w K mg base CX0 2 f fd ["web", "place"] (spNear C) := by
  refine F.ok scNear (fun vs H Q E h => ?_) (fun cdv A outer s H vs Q E hr h => ?_)
  · obtain ⟨a, n, T, p, rfl, _⟩ := h
    rfl
  · obtain ⟨a, n, U, p, rfl, hw, hp, q⟩ := h
    obtain ⟨W, dx, at_, xs, h1, h2, h3⟩ := id hw
    have hd : (nearL U p).length ≤ 5 := by
      rw [nearL_len]
      exact W.deg p
    refine ⟨_, pss_cons (ps_expr (pe_go GL hr (by rfl) (pa_cons (pv 0) (pa_cons (pv 1) pa_nil))))
      (pss_cons (ps_set (i := 2) scNear.nd rfl (.inl rfl) (pe_lst pa_nil))
      (pss_cons (ps_for PassesOwn.never rfl (pi_tup (pe_fld (pv 0) rfl)) (pg_tup rfl (pgs_cons (pg_name (i := 3) scNear.nd rfl (.inl rfl)) (pgs_cons (pg_name (i := 4) scNear.nd rfl (.inl rfl)) pgs_nil)))
        (pss_one (ps_if (pt_cmpR op_eq (pv 3) (pv 1) (nomark _))
          (pss_one (ps_expr (pe_bm PySem.F.plainAttrs_list PySem.F.slot_list_append PySem.F.type_list_append mt_append (pv 2) (pa_cons (pv 4) pa_nil))))
          (pss_one (ps_if (pt_cmpR op_eq (pv 4) (pv 1) (nomark _))
            (pss_one (ps_expr (pe_bm PySem.F.plainAttrs_list PySem.F.slot_list_append PySem.F.type_list_append mt_append (pv 2) (pa_cons (pv 3) pa_nil)))) pss_nil)))))
      (pss_one (ps_ret (pe_callTy call_tuple_of (by rfl) T.tuple (by decide +kernel) (pa_cons (pe_callB cr_sorted (by rfl) T.sorted (by decide +kernel) (pa_cons (pv 2) pa_nil)) pa_nil)))))), ?_⟩
    refine ⟨_, rfl, _, rfl, a, n, U, p, rfl, hw, hp, ?_⟩
    refine ⟨Nat.zero_le _, fun D hD => ?_⟩
    have nDa : a ≠ D := ne_of_none h1 hD
    have nDt : at_ ≠ D := ne_of_none h2 hD
    have s0 : Same H (upd H D (.lst [])) := same_new hD
    refine ⟨_, rfl, a, C, dx, _, _, rfl, s0 _ _ h1, T.cl, T.nT, wf_ties _ _, at_, rfl, ⟨xs, SqT.of (s0 _ _ h2)⟩,
      for_tup (xs := xs) (fun i σ H' => ∃ y3 y4, σ = [some (.ref a), some (.int p), some (.ref D), y3, y4] ∧ Same H H' ∧ H' D = some (.lst ((nearL (U.take i) p).map V.int)))
        ⟨none, none, rfl, s0, upd_same⟩ (fun i σ H' _ ⟨_, _, _, s1, _⟩ => SqT.of (s1 _ _ h2)) ?_ ?_⟩
    · rintro i x σ H' hx ⟨y3, y4, rfl, s1, hl⟩
      obtain ⟨t, ht, tx⟩ := paired_at h3 hx
      rw [List.getElem?_map] at ht
      obtain ⟨⟨c, d⟩, hcd, rfl⟩ := Option.map_eq_some_iff.mp ht
      obtain ⟨b, rfl, hb⟩ := tx
      have et : nearL (U.take (i + 1)) p = nearL (U.take i) p ++ (nearOne p (c, d)).toList := by
        unfold nearL
        rw [List.take_add_one, hcd, List.filterMap_append]
        show _ ++ List.filterMap (nearOne p) [(c, d)] = _
        simp only [List.filterMap_cons, List.filterMap_nil]
        cases nearOne p (c, d) <;> rfl
      have small : ((nearL (U.take i) p).map V.int).length < sizeLine := by
        refine small1000 ?_
        rw [List.length_map, nearL_len]
        refine Nat.le_trans ((List.Sublist.filter _ (List.take_sublist i U)).length_le) ?_
        exact Nat.le_trans (W.deg p) (by decide)
      refine ⟨b, _, rfl, SqT.of (s1 _ _ hb), rfl, _, _, rfl, _, _, rfl, rfl, ?_⟩
      refine ⟨_, rfl, _, rfl, rfl, _, rfl, ite2 (fun e => ?_) (fun e => ?_)⟩
      · have e1 : c = p := V.int.inj (of_decide_eq_true e)
        refine ⟨_, rfl, .inl ⟨rfl, _, SqL.of hl⟩, _, rfl, D, _, _, rfl, rfl, hl, small, ?_⟩
        refine ⟨_, _, rfl, same_wr s1 hD, ?_⟩
        rw [upd_same, et, List.map_append]
        unfold nearOne
        rw [if_pos e1]
        rfl
      · have e1 : ¬ c = p := fun z => e (decide_eq_true (by rw [z]))
        refine ⟨_, rfl, _, rfl, rfl, _, rfl, ite2 (fun e' => ?_) (fun e' => ?_)⟩
        · have e2 : d = p := V.int.inj (of_decide_eq_true e')
          refine ⟨_, rfl, .inl ⟨rfl, _, SqL.of hl⟩, _, rfl, D, _, _, rfl, rfl, hl, small, ?_⟩
          refine ⟨_, _, rfl, same_wr s1 hD, ?_⟩
          rw [upd_same, et, List.map_append]
          unfold nearOne
          rw [if_neg e1, if_pos e2]
          rfl
        · have e2 : ¬ d = p := fun z => e' (decide_eq_true (by rw [z]))
          refine ⟨_, _, rfl, s1, ?_⟩
          rw [hl, et]
          unfold nearOne
          rw [if_neg e1, if_neg e2]
          show _ = some (HO.lst (List.map V.int (_ ++ [])))
          rw [List.append_nil]
    · rintro σ H' ⟨y3, y4, rfl, s1, hl⟩
      have hlen : xs.length = U.length := by
        rw [Paired.length h3, List.length_map]
      rw [hlen, List.take_length] at hl
      refine ⟨_, rfl, D, _, rfl, SqL.of hl, by omega, fun ns' r pm _ nr => ?_⟩
      refine ⟨r, _, rfl, .inl ⟨SqL.of upd_same, fun t nt => ?_⟩⟩
      refine q _ t ns' ((s1.trans (same_new nr)).trans (same_new nt)) upd_same ?_ fun z => ?_
      · rw [pm.length_eq]
        exact hd
      · rw [pm.mem_iff]
        exact mem_nearL W
end
end GrD
namespace GrD
open PySem PySem.Spec PyProof.Rows L2 GrT GrR Gr
theorem flat_ints : ∀ ns : List Int, (ns.map V.int).all flatV = true
  | [] => rfl
  | _ :: ns => by
    rw [List.map_cons, List.all_cons, flat_ints ns]
    rfl
theorem inV_ints (x : Int) (ns : List Int) : inV (.int x) (ns.map V.int) = decide (x ∈ ns) := by
  unfold inV
  induction ns with
  | nil => rfl
  | cons n ns ih =>
    rw [List.map_cons, List.any_cons, ih]
    show ((n == x) || decide (x ∈ ns)) = decide (x ∈ n :: ns)
    by_cases e : n = x
    · subst e
      simp
    · have e' : ¬ x = n := fun q => e q.symm
      rw [beq_eq_false_iff_ne.mpr e, Bool.false_or]
      exact decide_eq_decide.mpr ⟨fun h => List.mem_cons_of_mem _ h, fun h => (List.mem_cons.mp h).resolve_left e'⟩
section
variable {P : Program} {w : World} {K : PySem.W.Frag} {mg : Str → Option Value} {base : Heap} {C : Addr}
/-- steps_of: where a guard may be behind an answer -/
def spStepsOf (C : Addr) : Sp := fun vs H Q _ => ∃ (a : Addr) (n : Nat) (T : List (Int × Int)) (p : Int), vs = [.ref a, .int p] ∧ WebAt C H a n T ∧ Inn n p ∧
  ∀ (H' : Hp) (t : Addr) (ns : List Int), Same H H' → H' t = some (.lst (ns.map V.int)) → ns.length ≤ 6 → (∀ q, q ∈ ns ↔ StepOk T p q) → Q (.ref t) H'
theorem ok_steps_of {f : Addr} {fd : FuncData} (F : Fun K "steps_of" "steps_of" sStepsOf f fd) (T : Txt K mg C) (GN : Good P w K mg base 2 "near" ["web", "place"] (spNear C)) : FnOk P w K mg base CX0 3 f fd ["web", "guard"] (spStepsOf C) := by
  refine F.ok scStepsOf (fun vs H Q E h => ?_) (fun cdv A outer s H vs Q E hr h => ?_)
  · obtain ⟨a, n, T, p, rfl, _⟩ := h
    rfl
  · obtain ⟨a, n, U, p, rfl, hw, hp, q⟩ := h
    refine ⟨_, pss_one (ps_ret (pe_callB cr_sortedTup (by rfl) T.sorted (by decide +kernel) (pa_cons (pe_op op_catA (pe_tup (pa_cons (pv 1) pa_nil)) (pe_go GN hr (by rfl) (pa_cons (pv 0) (pa_cons (pv 1) pa_nil)))) pa_nil))), ?_⟩
    refine ⟨_, rfl, (by show 1 ≤ sizeLine; decide), fun g hg => ?_⟩
    refine ⟨_, rfl, _, rfl, a, n, U, p, rfl, hw.same (same_new hg), hp, fun H1 t ns s1 ht hl hm => ?_⟩
    have hg1 : H1 g = some (.tup [.int p]) := s1 _ _ upd_same
    have sH : Same H H1 := (same_new hg).trans s1
    have fin : ∀ (H2 : Hp) (r : Addr) (ns2 : List Int), Same H H2 → H2 r = some (.tup (ns2.map V.int)) → ns2 = p :: ns →
        rSortedTup [V.ref r] H2 Q := fun H2 r ns2 s2 hr2 e => by
      refine ⟨r, ns2, rfl, hr2, fun ns3 l pm _ nl => q _ l ns3 (s2.trans (same_new nl)) upd_same ?_ fun z => ?_⟩
      · rw [pm.length_eq, e, List.length_cons]
        omega
      · rw [pm.mem_iff, e, List.mem_cons, hm]
        exact Iff.rfl
    refine ⟨g, t, _, _, rfl, rfl, SqT.of hg1, SqT.of ht, ?_, (fun e => absurd e (List.cons_ne_nil _ _)), fun _ e => ?_, fun _ _ r nr => ?_⟩
    · refine Nat.le_of_lt (small1000 ?_)
      rw [List.length_map]
      show 1 + ns.length ≤ 1000
      omega
    · have e' : ns = [] := List.map_eq_nil_iff.mp e
      subst e'
      exact fin H1 g [p] sH hg1 rfl
    · exact fin _ r (p :: ns) (sH.trans (same_new nr)) upd_same rfl
end
end GrD
namespace Gr
theorem steps_snoc {T : List (Int × Int)} {g : Int} : ∀ {L r : List Int}, Steps T (L ++ [g]) r ↔ ∃ row q, r = row ++ [q] ∧ Steps T L row ∧ StepOk T g q
  | [], [] => ⟨fun h => h.elim, fun ⟨row, q, e, _⟩ => absurd e (by simp)⟩
  | [], [y] => ⟨fun h => ⟨[], y, rfl, trivial, h.1⟩, fun ⟨row, q, e, h1, h2⟩ => by
      cases row with
      | nil =>
        have e' : y = q := by simpa using e
        exact ⟨e' ▸ h2, trivial⟩
      | cons a b => exact h1.elim⟩
  | [], y :: z :: r => ⟨fun h => h.2.elim, fun ⟨row, q, e, h1, _⟩ => by
      cases row with
      | nil => simp at e
      | cons a b => exact h1.elim⟩
  | x :: L, [] => ⟨fun h => h.elim, fun ⟨row, q, e, _⟩ => absurd e (by simp)⟩
  | x :: L, y :: r => by
    constructor
    · rintro ⟨h1, h2⟩
      obtain ⟨row, q, e, h3, h4⟩ := (steps_snoc (L := L)).mp h2
      exact ⟨y :: row, q, by rw [e]; rfl, ⟨h1, h3⟩, h4⟩
    · rintro ⟨row, q, e, h3, h4⟩
      cases row with
      | nil => exact h3.elim
      | cons a b =>
        obtain ⟨e1, e2⟩ := List.cons.inj e
        exact ⟨e1 ▸ h3.1, (steps_snoc (L := L)).mpr ⟨b, q, e2, h3.2, h4⟩⟩
/-- a row with one place more -/
def extL (ns row : List Int) : List (List Int) := (ns.filter fun q => !decide (q ∈ row)).map fun q => row ++ [q]
theorem extL_len (ns row : List Int) : (extL ns row).length ≤ ns.length := by
  unfold extL
  rw [List.length_map]
  exact List.length_filter_le _ _
theorem mem_extL {ns row r : List Int} : r ∈ extL ns row ↔ ∃ q, q ∈ ns ∧ q ∉ row ∧ r = row ++ [q] := by
  unfold extL
  simp only [List.mem_map, List.mem_filter, Bool.not_eq_true', decide_eq_false_iff_not]
  constructor
  · rintro ⟨q, ⟨h1, h2⟩, rfl⟩
    exact ⟨q, h1, h2, rfl⟩
  · rintro ⟨q, h1, h2, rfl⟩
    exact ⟨q, ⟨h1, h2⟩, rfl⟩
theorem flat_len (ns : List Int) (h : ns.length ≤ 6) : ∀ rows : List (List Int), (rows.flatMap (extL ns)).length ≤ 6 * rows.length
  | [] => by simp
  | r :: rows => by
    rw [List.flatMap_cons, List.length_append, List.length_cons]
    have := flat_len ns h rows
    have := extL_len ns r
    omega
/-- the rows of a next guard -/
theorem rows_step {T : List (Int × Int)} {L : List Int} {g : Int} {ns : List Int} {rows : List (List Int)} (hr : ∀ row, row ∈ rows ↔ Steps T L row ∧ row.Nodup) (hn : ∀ q, q ∈ ns ↔ StepOk T g q) :
    ∀ r, r ∈ rows.flatMap (extL ns) ↔ Steps T (L ++ [g]) r ∧ r.Nodup := fun r => by
  rw [List.mem_flatMap]
  have nd : ∀ (row : List Int) (q : Int), (row ++ [q]).Nodup ↔ row.Nodup ∧ q ∉ row := fun row q => by
    rw [(List.perm_append_comm (l₁ := row) (l₂ := [q])).nodup_iff]
    show (q :: row).Nodup ↔ _
    rw [List.nodup_cons]
    exact And.comm
  constructor
  · rintro ⟨row, h1, h2⟩
    obtain ⟨q, h3, h4, rfl⟩ := mem_extL.mp h2
    obtain ⟨h5, h6⟩ := (hr row).mp h1
    exact ⟨steps_snoc.mpr ⟨row, q, rfl, h5, (hn q).mp h3⟩, (nd row q).mpr ⟨h6, h4⟩⟩
  · rintro ⟨h1, h2⟩
    obtain ⟨row, q, rfl, h3, h4⟩ := steps_snoc.mp h1
    obtain ⟨h5, h6⟩ := (nd row q).mp h2
    exact ⟨row, (hr row).mpr ⟨h3, h5⟩, mem_extL.mpr ⟨q, (hn q).mpr h4, h6, rfl⟩⟩
end Gr
namespace GrD
open PySem PySem.Spec PyProof.Rows L2 GrT GrR Gr
theorem take_snoc {α : Type} {l : List α} {i : Nat} {x : α} (h : l[i]? = some x) : l.take (i + 1) = l.take i ++ [x] := by
  rw [List.take_add_one, h]
  rfl
section
variable {P : Program} {w : World} {K : PySem.W.Frag} {mg : Str → Option Value} {base : Heap} {C : Addr}
/-- moves: all tuples of unlike places, one a step for each guard -/
def spMoves (C : Addr) : Sp := fun vs H Q _ => ∃ (a sa am : Addr) (n : Nat) (T : List (Int × Int)) (S : List Int) (kvs : List (Key × V)), vs = [.ref a, .ref sa, .ref am] ∧ WebAt C H a n T ∧ H sa = some (.tup (S.map V.int)) ∧ (∀ x, x ∈ S → Inn n x) ∧ S.length ≤ 6 ∧
  H am = some (.dK kvs) ∧ (∀ p, Inn n p → (valV kvs (.inl p)).isSome = true) ∧
  ∀ (H' : Hp) (l : Addr) (xs : List V) (rows : List (List Int)), Same H H' → H' l = some (.lst xs) → TIs H' xs rows → rows.length ≤ 46656 → (∀ row, row ∈ rows ↔ Steps T S row ∧ row.Nodup) → Q (.ref l) H'
theorem ok_moves {f : Addr} {fd : FuncData} (F : Fun K "moves" "moves" sMoves f fd) (T : Txt K mg C) (GS : Good P w K mg base 3 "steps_of" ["web", "guard"] (spStepsOf C)) : FnOk P w K mg base CX0 4 f fd ["web", "standing", "among"] (spMoves C) := by
  refine F.ok scMoves (fun vs H Q E h => ?_) (fun cdv A outer s H vs Q E hr h => ?_)
  · obtain ⟨a, sa, am, n, T, S, kvs, rfl, _⟩ := h
    rfl
  · obtain ⟨a, sa, am, n, U, S, kvs, rfl, hw, hS, hin, hS6, ham, hall, q⟩ := h
    refine ⟨_, pss_cons (ps_set (i := 3) scMoves.nd rfl (.inl rfl) (pe_lst (pa_cons (pe_tup pa_nil) pa_nil)))
      (pss_cons (ps_for PassesOwn.never rfl (pi_tup (pv 1)) (pg_name (i := 4) scMoves.nd rfl (.inl rfl))
        (pss_cons (ps_setLc (i := 5) (own := [("place", 8)]) (g := gName 8) rfl scMoves.nd rfl rfl (sw_true rfl rfl rfl (by decide +kernel)) (pi_list (pe_go GS hr (by rfl) (pa_cons (pv 0) (pa_cons (pv 4) pa_nil))))
            (blkOk_by (own := [("place", 8)]) (N := ["web", "standing", "among", "rows", "guard", "steps", "longer", "row", "place"]) (sc := defScope sMoves) (by decide +kernel))
            (fun _ _ _ _ _ => pg_name (i := 8) scMoves.nd rfl (.inl rfl)) (fun _ _ _ _ _ => pts_one (pt_cmp (pc_din (hu_of hr) (pv 8) (pv 2)))) (fun _ _ _ _ _ => pv 8))
        (pss_cons (ps_set (i := 6) scMoves.nd rfl (.inl rfl) (pe_lst pa_nil))
        (pss_cons (ps_for PassesOwn.never rfl (pi_list (pv 3)) (pg_name (i := 7) scMoves.nd rfl (.inr rfl))
          (pss_one (ps_expr (pe_bm PySem.F.plainAttrs_list PySem.F.slot_list_extend PySem.F.type_list_extend mt_extend (pv 6)
            (pa_cons (pe_lc (own := [("place", 8)]) (g := gName 8) rfl scMoves.nd (pi_list (pv 5))
              (blkOk_by (own := [("place", 8)]) (N := ["web", "standing", "among", "rows", "guard", "steps", "longer", "row", "place"]) (sc := defScope sMoves) (by decide +kernel))
              (fun _ _ _ _ _ => pg_name (i := 8) scMoves.nd rfl (.inl rfl)) (fun _ _ _ _ _ => pts_one (pt_cmpR (op_notIn_seq : OpR _ _ (rIn K true)) (pv 8) (pv 7) (by rfl))) (fun _ _ _ _ _ => pe_op (op_catA : OpR _ _ (rCatA K)) (pv 7) (pe_tup (pa_cons (pv 8) pa_nil)))) pa_nil)))))
        (pss_one (ps_set (i := 3) scMoves.nd rfl (.inl rfl) (pv 6)))))))
      (pss_one (ps_ret (pv 3)))), ?_⟩
    refine ⟨Nat.zero_le _, fun e0 he0 => ⟨(by show 1 ≤ sizeLine; decide), fun R hR => ?_⟩⟩
    have sR : Same H (upd (upd H e0 (.tup [])) R (.lst [.ref e0])) := (same_new he0).trans (same_new hR)
    have neR : e0 ≠ R := ne_of_none upd_same hR
    refine ⟨_, rfl, sa, rfl, ⟨_, SqT.of (sR _ _ hS)⟩, for_tup (xs := S.map V.int)
      (fun i σ H' => ∃ (R : Addr) (xs : List V) (rows : List (List Int)) (y4 y5 y6 y7 : Option V), σ = [some (.ref a), some (.ref sa), some (.ref am), some (.ref R), y4, y5, y6, y7, none] ∧ Same H H' ∧ H' R = some (.lst xs) ∧ TIs H' xs rows ∧
        rows.length ≤ 6 ^ i ∧ ∀ row, row ∈ rows ↔ Steps U (S.take i) row ∧ row.Nodup)
      ⟨R, [.ref e0], [[]], none, none, none, none, rfl, sR, upd_same, .cons ⟨e0, rfl, Eq.trans (upd_ne neR) upd_same⟩ .nil, Nat.le_refl _, fun row => ?_⟩
      (fun i σ H' _ ⟨_, _, _, _, _, _, _, _, s1, _⟩ => SqT.of (s1 _ _ hS)) ?_ ?_⟩
    · constructor
      · intro hm
        rw [List.mem_singleton.mp hm]
        exact ⟨trivial, List.nodup_nil⟩
      · rintro ⟨h1, _⟩
        cases row with
        | nil => exact List.mem_singleton.mpr rfl
        | cons _ _ => exact h1.elim
    · rintro i x σ H1 hx ⟨R, xs, rows, y4, y5, y6, y7, rfl, s1, hRl, hrows, hlen, hmem⟩
      obtain ⟨g, hg, rfl⟩ := map_int_at hx
      have hgi : Inn n g := hin g (List.mem_of_getElem? hg)
      have hi6 : i < 6 := Nat.lt_of_lt_of_le (List.getElem?_eq_some_iff.mp hg).1 hS6
      refine ⟨_, rfl, _, rfl, a, n, U, g, rfl, hw.same s1, hgi, fun H2 t ns s2 ht hn6 hns => ?_⟩
      refine ⟨t, rfl, ⟨_, SqL.of ht⟩, fun D hD => lc_list (K := K) (a := t) (xs := ns.map V.int) (fun j H' => Same H2 H' ∧ H' D = some (.lst ((ns.take j).map V.int)))
        ⟨same_new hD, upd_same⟩ (fun j H' _ ⟨s3, _⟩ => SqL.of (s3 _ _ ht)) ?_ ?_⟩
      · rintro j y H3 hy ⟨s3, hl3⟩
        obtain ⟨z, hz, rfl⟩ := map_int_at hy
        have hzi : Inn n z := by
          rcases (hns z).mp (List.mem_of_getElem? hz) with e | e
          · rw [e]
            exact hgi
          · exact (hw.1.adj_inn e).2
        have ham3 : H3 am = some (.dK kvs) := s3 _ _ (s2 _ _ (s1 _ _ ham))
        refine ⟨rfl, _, rfl, _, rfl, am, _, rfl, DGet.k (k := Sum.inl z) ham3, _, rfl, ?_⟩
        rw [hall z hzi]
        refine iteT ⟨_, rfl, _, hl3, ?_, same_wr s3 hD, ?_⟩
        · refine small1000 ?_
          rw [List.length_map, List.length_take]
          omega
        · rw [upd_same, take_snoc hz, List.map_append]
          rfl
      · rintro H3 ⟨s3, hl3⟩
        rw [List.length_map, List.take_length] at hl3
        refine ⟨Nat.zero_le _, fun Lg hLg => ?_⟩
        have s03 : Same H H3 := (s1.trans s2).trans s3
        have hR3 : H3 R = some (.lst xs) := s3 _ _ (s2 _ _ hRl)
        have hrows3 : TIs H3 xs rows := hrows.tk ((Tk.of s2).trans (Tk.of s3))
        refine ⟨_, rfl, R, rfl, ⟨_, SqL.of (same_new hLg _ _ hR3)⟩, for_list (K := K) (a := R) (xs := xs)
          (fun j σ H' => ∃ (acc : List V) (y7 : Option V), σ = [some (.ref a), some (.ref sa), some (.ref am), some (.ref R), some (.int g), some (.ref D), some (.ref Lg), y7, none] ∧ Same H3 H' ∧ H' Lg = some (.lst acc) ∧ TIs H' acc ((rows.take j).flatMap (extL ns)))
          ⟨[], y7, rfl, same_new hLg, upd_same, .nil⟩ (fun j σ H' _ ⟨_, _, _, s4, _⟩ => SqL.of (s4 _ _ hR3)) ?_ ?_⟩
        · rintro j x σ H4 hx ⟨acc, y7', rfl, s4, hlg, hacc⟩
          obtain ⟨row, hrow, hxr⟩ := paired_at (hrows3.tk (Tk.of s4)) hx
          obtain ⟨tr, rfl, htr⟩ := hxr
          refine ⟨_, rfl, .inl ⟨rfl, _, SqL.of hlg⟩, _, rfl, D, rfl, ⟨_, SqL.of (s4 _ _ hl3)⟩, fun B hB => lc_list (K := K) (a := D) (xs := ns.map V.int)
            (fun k H' => Same H4 H' ∧ ∃ zs, H' B = some (.lst zs) ∧ TIs H' zs (extL (ns.take k) row)) ⟨same_new hB, [], upd_same, .nil⟩ (fun k H' _ ⟨s5, _⟩ => SqL.of (s5 _ _ (s4 _ _ hl3))) ?_ ?_⟩
          · rintro k y H5 hy ⟨s5, zs, hzs, hti⟩
            obtain ⟨z, hz, rfl⟩ := map_int_at hy
            have htr5 : H5 tr = some (.tup (row.map V.int)) := s5 _ _ htr
            have ex : extL (ns.take (k + 1)) row = extL (ns.take k) row ++ (if z ∈ row then [] else [row ++ [z]]) := by
              unfold extL
              rw [take_snoc hz, List.filter_append, List.map_append]
              congr 1
              by_cases e : z ∈ row
              · simp [e]
              · simp [e]
            have hzl : zs.length < sizeLine := by
              refine small1000 ?_
              rw [Paired.length hti]
              refine Nat.le_trans (extL_len _ _) ?_
              rw [List.length_take]
              omega
            refine ⟨rfl, _, rfl, _, rfl, tr, _, rfl, .inr (SqT.of htr5), rfl, flat_ints _, _, rfl, ?_⟩
            rw [inV_ints]
            show if (!decide (z ∈ row)) = true then _ else _
            by_cases e : z ∈ row
            · rw [decide_eq_true e]
              refine iteF ⟨s5, zs, hzs, ?_⟩
              rw [ex, if_pos e, List.append_nil]
              exact hti
            · rw [decide_eq_false e]
              refine iteT ?_
              refine ⟨_, rfl, _, rfl, (by show 1 ≤ sizeLine; decide), fun c hc => ?_⟩
              have fin : ∀ (H6 : Hp) (r : Addr), Same H5 H6 → H6 r = some (.tup ((row ++ [z]).map V.int)) →
                  ∃ acc, H6 B = some (.lst acc) ∧ acc.length < sizeLine ∧ Same H4 (upd H6 B (.lst (acc ++ [.ref r]))) ∧ ∃ zs, (upd H6 B (.lst (acc ++ [.ref r]))) B = some (.lst zs) ∧ TIs (upd H6 B (.lst (acc ++ [.ref r]))) zs (extL (ns.take (k + 1)) row) := fun H6 r s6 hr6 => by
                have hb6 : H6 B = some (.lst zs) := s6 _ _ hzs
                refine ⟨zs, hb6, hzl, same_wr (s5.trans s6) hB, _, upd_same, ?_⟩
                rw [ex, if_neg e]
                exact paired_snoc (hti.tk ((Tk.of s6).trans (Tk.wrL hb6))) (TI.tk ⟨r, rfl, hr6⟩ (Tk.wrL hb6))
              refine ⟨tr, c, _, _, rfl, rfl, SqT.of (same_new hc _ _ htr5), SqT.of upd_same, ?_, fun e0 => ?_, fun _ e0 => absurd e0 (List.cons_ne_nil _ _), fun _ _ d hd => ?_⟩
              · have hrl : row.length ≤ 6 := by
                  have q := ((hmem row).mp (List.mem_of_getElem? hrow)).1.length
                  rw [List.length_take] at q
                  omega
                refine Nat.le_of_lt (small1000 ?_)
                rw [List.length_map]
                show row.length + 1 ≤ 1000
                omega
              · have e1 : row = [] := List.map_eq_nil_iff.mp e0
                refine fin _ c (same_new hc) ?_
                rw [e1]
                exact upd_same
              · refine fin _ d ((same_new hc).trans (same_new hd)) ?_
                rw [upd_same, List.map_append]
                rfl
          · rintro H5 ⟨s5, zs, hzs, hti⟩
            rw [List.length_map, List.take_length] at hti
            have hlg5 : H5 Lg = some (.lst acc) := s5 _ _ hlg
            refine ⟨Lg, B, acc, zs, rfl, rfl, hlg5, hzs, ?_, ?_⟩
            · rw [Paired.length hacc, Paired.length hti]
              have b1 := flat_len ns hn6 (rows.take j)
              have b2 := extL_len ns row
              have b3 : (rows.take j).length ≤ 6 ^ i := by
                rw [List.length_take]
                omega
              have b4 : 6 ^ i ≤ 6 ^ 5 := Nat.pow_le_pow_right (by decide) (by omega)
              rw [sizeLine_eq]
              have b5 : (6 : Nat) ^ 5 = 7776 := by decide
              omega
            · refine ⟨acc ++ zs, _, rfl, same_wr (s4.trans s5) hLg, upd_same, ?_⟩
              rw [take_snoc hrow, List.flatMap_append]
              refine paired_app (hacc.tk ((Tk.of s5).trans (Tk.wrL hlg5))) ?_
              rw [List.flatMap_cons, List.flatMap_nil, List.append_nil]
              exact hti.tk (Tk.wrL hlg5)
        · rintro σ H4 ⟨acc, y7', rfl, s4, hlg, hacc⟩
          refine ⟨_, rfl, Lg, acc, rows.flatMap (extL ns), _, _, _, _, rfl, s03.trans s4, hlg, ?_, ?_, ?_⟩
          · rw [Paired.length hrows, List.take_length] at hacc
            exact hacc
          · have b1 := flat_len ns hn6 rows
            rw [Nat.pow_succ]
            omega
          · rw [take_snoc hg]
            exact rows_step hmem hns
    · rintro σ H1 ⟨R, xs, rows, y4, y5, y6, y7, rfl, s1, hRl, hrows, hlen, hmem⟩
      rw [List.length_map] at hlen hmem
      rw [List.take_length] at hmem
      refine ⟨_, rfl, q H1 R xs rows s1 hRl hrows ?_ hmem⟩
      have b4 : 6 ^ S.length ≤ 6 ^ 6 := Nat.pow_le_pow_right (by decide) hS6
      have b5 : (6 : Nat) ^ 6 = 46656 := by decide
      omega
end
end GrD
namespace GrD
open PySem PySem.Spec PyProof.Rows L2 GrT GrR Gr
theorem paired_perm {α β : Type} {F : α → β → Prop} {ys xs : List α} (p : ys.Perm xs) : ∀ {zs : List β}, Paired F xs zs → ∃ zs', zs'.Perm zs ∧ Paired F ys zs' := by
  induction p with
  | nil => intro zs h; exact ⟨zs, List.Perm.refl _, h⟩
  | cons a _ ih =>
    intro zs h
    cases h with
    | cons r t =>
      obtain ⟨zs', p', h'⟩ := ih t
      exact ⟨_ :: zs', p'.cons _, .cons r h'⟩
  | swap a b l =>
    intro zs h
    cases h with
    | cons r t =>
      cases t with
      | cons r' t' => exact ⟨_, List.Perm.swap _ _ _, .cons r' (.cons r t')⟩
  | trans _ _ ih1 ih2 =>
    intro zs h
    obtain ⟨z1, p1, h1⟩ := ih2 h
    obtain ⟨z2, p2, h2⟩ := ih1 h1
    exact ⟨z2, p2.trans p1, h2⟩
/-- t + u, tuples of ints -/
theorem catA_ti {K : PySem.W.Frag} {H : Hp} {t u : Addr} {xs ys : List Int} {Q : VK} (h1 : H t = some (.tup (xs.map V.int))) (h2 : H u = some (.tup (ys.map V.int))) (hl : xs.length + ys.length ≤ 1000)
    (q : ∀ (H' : Hp) (r : Addr), Same H H' → H' r = some (.tup ((xs ++ ys).map V.int)) → Q (.ref r) H') : rCatA K (.ref t) (.ref u) H Q := by
  refine ⟨t, u, _, _, rfl, rfl, SqT.of h1, SqT.of h2, ?_, fun e => ?_, fun _ e => ?_, fun _ _ p hp => ?_⟩
  · rw [List.length_map, List.length_map]
    exact Nat.le_of_lt (small1000 hl)
  · have e1 : xs = [] := List.map_eq_nil_iff.mp e
    exact q H u (Same.refl H) (by rw [h2, e1]; rfl)
  · have e1 : ys = [] := List.map_eq_nil_iff.mp e
    exact q H t (Same.refl H) (by rw [h1, e1, List.append_nil])
  · exact q _ p (same_new hp) (by rw [upd_same, List.map_append])
/-- t[:k], k below the length -/
theorem slTake_ti {K : PySem.W.Frag} {H : Hp} {t : Addr} {xs : List Int} {k : Nat} {Q : VK} (h1 : H t = some (.tup (xs.map V.int))) (hk : k < xs.length)
    (q : ∀ (H' : Hp) (r : Addr), Same H H' → H' r = some (.tup ((xs.take k).map V.int)) → Q (.ref r) H') : rSlT K (.ref t) none (some (k : Int)) H Q := by
  have e1 : HT.sIx (xs.map V.int).length (xs.map V.int).length (some (k : Int)) = k := by
    rw [HT.sIx_nat, List.length_map]
    omega
  refine ⟨t, _, rfl, SqT.of h1, fun z => ?_, fun p hp => q _ p (same_new hp) ?_⟩
  · have := z.2
    rw [e1, List.length_map] at this
    omega
  · rw [upd_same]
    unfold cutV
    rw [e1, HT.sIx_none, List.drop_zero, Nat.sub_zero, List.map_take]
/-- t[k:], k above 0 -/
theorem slDrop_ti {K : PySem.W.Frag} {H : Hp} {t : Addr} {xs : List Int} {k : Nat} {Q : VK} (h1 : H t = some (.tup (xs.map V.int))) (hk : k ≤ xs.length) (h0 : 0 < k)
    (q : ∀ (H' : Hp) (r : Addr), Same H H' → H' r = some (.tup ((xs.drop k).map V.int)) → Q (.ref r) H') : rSlT K (.ref t) (some (k : Int)) none H Q := by
  have e1 : HT.sIx (xs.map V.int).length 0 (some (k : Int)) = k := by
    rw [HT.sIx_nat, List.length_map]
    omega
  refine ⟨t, _, rfl, SqT.of h1, fun z => ?_, fun p hp => q _ p (same_new hp) ?_⟩
  · have := z.1
    rw [e1] at this
    omega
  · rw [upd_same]
    unfold cutV
    rw [e1, HT.sIx_none, List.map_drop, List.take_of_length_le (by rw [List.length_drop]; exact Nat.le_refl _)]
section
variable {P : Program} {w : World} {K : PySem.W.Frag} {mg : Str → Option Value} {base : Heap} {C : Addr}
/-- look_at_call: a call passes -/
def spLookAtCall (C : Addr) : Sp := fun vs H Q _ => ∃ (a sa : Addr) (n : Nat) (T : List (Int × Int)) (S : List Int) (c : Int), vs = [.ref a, .ref sa, .int c] ∧ WebAt C H a n T ∧ H sa = some (.tup (S.map V.int)) ∧ Inn n c ∧ c ∉ S ∧ Q .non H
theorem ok_look_at_call {f : Addr} {fd : FuncData} (F : Fun K "look_at_call" "look_at_call" sLookAtCall f fd) (T : Txt K mg C) : FnOk P w K mg base CX0 1 f fd ["web", "standing", "call"] (spLookAtCall C) := by
  refine F.ok scLookAtCall (fun vs H Q E h => ?_) (fun cdv A outer s H vs Q E hr h => ?_)
  · obtain ⟨a, sa, n, T, S, c, rfl, _⟩ := h
    rfl
  · obtain ⟨a, sa, n, U, S, c, rfl, ⟨W, dx, at_, xs, h1, h2, h3⟩, hS, ⟨p0, p1⟩, hc, q⟩ := h
    refine ⟨_, pss_one (ps_if (PW.pt (pw_or (pt_cmpR op_lt (pv 2) pe_int (nomark _)) (pw_or (pt_cmpR op_ge (pv 2) (pe_fld (pv 0) rfl) (nomark _)) (pw_or1 (pt_cmpR op_in_seq (pv 2) (pv 1) (by rfl)))))) pss_never pss_nil), ?_⟩
    refine ⟨_, rfl, _, _, rfl, rfl, _, rfl, ?_⟩
    rw [decide_eq_false (show ¬ c < 0 by omega)]
    refine iteF ⟨_, rfl, _, rfl, a, C, dx, _, _, rfl, h1, T.cl, T.nP, wf_places _ _, _, _, rfl, rfl, _, rfl, ?_⟩
    rw [decide_eq_false (show ¬ c ≥ (n : Int) by omega)]
    refine iteF ⟨_, rfl, _, rfl, sa, _, rfl, .inr (SqT.of hS), rfl, flat_ints _, _, rfl, ?_⟩
    rw [inV_ints, decide_eq_false hc]
    exact iteF q
/-- answers_of_one -/
def spAnswersOfOne (C : Addr) : Sp := fun vs H Q _ => ∃ (a sa : Addr) (n g : Nat) (T : List (Int × Int)) (S : List Int) (c : Int), vs = [.ref a, .ref sa, .int c] ∧ WebAt C H a n T ∧ H sa = some (.tup (S.map V.int)) ∧ IsSt n g S ∧ 1 ≤ g ∧ g ≤ 6 ∧ Inn n c ∧
  ∀ (H' : Hp) (l : Addr) (xs : List V) (rows : List (List Int)), Same H H' → H' l = some (.lst xs) → TIs H' xs rows → rows.length ≤ 6 → (∀ row, row ∈ rows ↔ AnsOne T S c row) → Q (.ref l) H'
theorem ok_answers_of_one {f : Addr} {fd : FuncData} (F : Fun K "answers_of_one" "answers_of_one" sAnswersOfOne f fd) (T : Txt K mg C) (GN : Good P w K mg base 2 "near" ["web", "place"] (spNear C)) : FnOk P w K mg base CX0 3 f fd ["web", "standing", "call"] (spAnswersOfOne C) := by
  refine F.ok scAnswersOfOne (fun vs H Q E h => ?_) (fun cdv A outer s H vs Q E hr h => ?_)
  · obtain ⟨a, sa, n, g, T, S, c, rfl, _⟩ := h
    rfl
  · obtain ⟨a, sa, n, g, U, S, c, rfl, hw, hS, hst, g1, g6, hc, q⟩ := h
    have hSl : S.length = g := hst.1
    refine ⟨_, pss_cons (ps_set (i := 3) scAnswersOfOne.nd rfl (.inl rfl) (pe_lst pa_nil))
      (pss_cons (ps_for PassesOwn.never rfl (pi_range1 rfl T.range (pa_cons (pe_callB call_len_seq (by rfl) T.len PySem.boot_len (pa_cons (pv 1) pa_nil)) pa_nil)) (pg_name (i := 4) scAnswersOfOne.nd rfl (.inl rfl))
        (pss_one (ps_if (pt_cmpR op_in_seq (pe_ix ix_tup (pv 1) (pv 4) (fun _ _ => rfl)) (pe_go GN hr (by rfl) (pa_cons (pv 0) (pa_cons (pv 2) pa_nil))) (by rfl))
          (pss_one (ps_expr (pe_bm PySem.F.plainAttrs_list PySem.F.slot_list_append PySem.F.type_list_append mt_append (pv 3)
            (pa_cons (pe_op op_catA (pe_op op_catA (pe_slice sl_tup (pv 1) po_none (po_some (pv 4))) (pe_tup (pa_cons (pv 2) pa_nil))) (pe_slice sl_tup (pv 1) (po_some (pe_op op_add (pv 4) pe_int)) po_none)) pa_nil)))) pss_nil)))
      (pss_one (ps_ret (pe_callB (cr_sortT (d := g) (B := 6) g1) (by rfl) T.sorted (by decide +kernel) (pa_cons (pv 3) pa_nil))))), ?_⟩
    refine ⟨Nat.zero_le _, fun D hD => ?_⟩
    have s0 : Same H (upd H D (.lst [])) := same_new hD
    refine ⟨_, rfl, sa, _, rfl, .inr (SqT.of (s0 _ _ hS)), _, rfl, ?_, ?_, for_range (lo := 0) (n := (((S.map V.int).length : Nat) : Int).toNat)
      (fun i σ H' => ∃ (y4 : Option V) (xs : List V) (rows : List (List Int)), σ = [some (.ref a), some (.ref sa), some (.int c), some (.ref D), y4] ∧ Same H H' ∧ H' D = some (.lst xs) ∧ TIs H' xs rows ∧ rows.length ≤ i ∧
        ∀ row, row ∈ rows ↔ ∃ (k : Nat) (x : Int), k < i ∧ S[k]? = some x ∧ Adj U c x ∧ row = S.set k c)
      ⟨none, [], [], rfl, s0, upd_same, .nil, Nat.le_refl _, fun row => ⟨(fun z => by cases z), fun ⟨k, _, hk, _⟩ => absurd hk (Nat.not_lt_zero _)⟩⟩ ?_ ?_⟩
    · rw [List.length_map]
      omega
    · rw [List.length_map]
      omega
    · rintro i σ H1 hi ⟨y4, xs, rows, rfl, s1, hl, hti, hlen, hmem⟩
      rw [List.length_map] at hi
      have hik : i < S.length := by omega
      obtain ⟨x, hx⟩ : ∃ x, S[i]? = some x := ⟨S[i], List.getElem?_eq_getElem hik⟩
      have e0i : (0 : Int) + ((i : Nat) : Int) = ((i : Nat) : Int) := Int.zero_add _
      have hS1 := s1 _ _ hS
      refine ⟨_, rfl, _, rfl, sa, _, _, .int x, rfl, rfl, SqT.of hS1, at_of (j := i) e0i (by rw [List.getElem?_map, hx]; rfl), ?_⟩
      refine ⟨_, rfl, _, rfl, a, n, U, c, rfl, hw.same s1, hc, fun H2 t ns s2 ht hl5 hns => ?_⟩
      refine ⟨t, _, rfl, .inr (SqT.of ht), rfl, flat_ints _, _, rfl, ?_⟩
      rw [inV_ints]
      show if decide (x ∈ ns) = true then _ else _
      have s12 : Same H H2 := s1.trans s2
      by_cases e : x ∈ ns
      · rw [decide_eq_true e]
        refine iteT ?_
        have hl2 : H2 D = some (.lst xs) := s2 _ _ hl
        refine ⟨_, rfl, .inl ⟨rfl, _, SqL.of hl2⟩, ?_⟩
        have hS2 := s12 _ _ hS
        refine ⟨_, rfl, _, rfl, ?_⟩
        rw [e0i]
        refine ⟨_, rfl, ?_⟩
        refine slTake_ti hS2 hik fun H3 t1 s3 ht1 => ?_
        refine ⟨_, rfl, (by show 1 ≤ sizeLine; decide), fun t2 nt2 => ?_⟩
        have ht1' : upd H3 t2 (.tup [.int c]) t1 = some (.tup ((S.take i).map V.int)) := same_new nt2 _ _ ht1
        refine catA_ti ht1' (ys := [c]) upd_same (by rw [List.length_take]; show min i S.length + 1 ≤ 1000; omega) fun H4 t3 s4 ht3 => ?_
        have s24 : Same H2 H4 := (s3.trans (same_new nt2)).trans s4
        refine ⟨_, rfl, _, rfl, _, _, rfl, rfl, _, rfl, ?_⟩
        have e1i : ((i : Nat) : Int) + 1 = ((i + 1 : Nat) : Int) := rfl
        rw [e1i]
        delta tNoPart
        refine slDrop_ti (s24 _ _ hS2) (k := i + 1) hik (Nat.succ_pos _) fun H5 t4 s5 ht4 => ?_
        refine catA_ti (s5 _ _ ht3) ht4 (by simp only [List.length_append, List.length_take, List.length_drop, List.length_singleton]; omega) fun H6 t5 s6 ht5 => ?_
        have s26 : Same H2 H6 := s24.trans (s5.trans s6)
        have hl6 : H6 D = some (.lst xs) := s26 _ _ hl2
        have eset : S.take i ++ [c] ++ S.drop (i + 1) = S.set i c := by
          rw [List.set_eq_take_append_cons_drop, if_pos hik, List.append_assoc]
          rfl
        rw [eset] at ht5
        refine ⟨D, xs, _, rfl, rfl, hl6, ?_, ?_⟩
        · rw [Paired.length hti]
          exact small1000 (by omega)
        · refine ⟨_, xs ++ [.ref t5], rows ++ [S.set i c], rfl, same_wr (s12.trans s26) hD, upd_same, paired_snoc (hti.tk ((Tk.of (s2.trans s26)).trans (Tk.wrL hl6))) (TI.tk ⟨t5, rfl, ht5⟩ (Tk.wrL hl6)), ?_, fun row => ?_⟩
          · rw [List.length_append, List.length_singleton]
            omega
          · rw [List.mem_append, hmem row, List.mem_singleton]
            constructor
            · rintro (⟨k, y, hk, r⟩ | rfl)
              · exact ⟨k, y, Nat.lt_succ_of_lt hk, r⟩
              · exact ⟨i, x, Nat.lt_succ_self _, hx, (hns x).mp e, rfl⟩
            · rintro ⟨k, y, hk, hy, ha, rfl⟩
              rcases Nat.lt_succ_iff_lt_or_eq.mp hk with z | z
              · exact .inl ⟨k, y, z, hy, ha, rfl⟩
              · exact .inr (by rw [z])
      · rw [decide_eq_false e]
        refine iteF ⟨_, xs, rows, rfl, s12, s2 _ _ hl, hti.tk (Tk.of s2), Nat.le_succ_of_le hlen, fun row => ?_⟩
        rw [hmem row]
        constructor
        · rintro ⟨k, y, hk, r⟩
          exact ⟨k, y, Nat.lt_succ_of_lt hk, r⟩
        · rintro ⟨k, y, hk, hy, ha, r⟩
          rcases Nat.lt_succ_iff_lt_or_eq.mp hk with z | z
          · exact ⟨k, y, z, hy, ha, r⟩
          · rw [z, hx] at hy
            cases hy
            exact absurd ((hns x).mpr ha) e
    · rintro σ H1 ⟨y4, xs, rows, rfl, s1, hl, hti, hlen, hmem⟩
      rw [List.length_map] at hlen hmem
      have all_ : ∀ row, row ∈ rows ↔ AnsOne U S c row := fun row => by
        rw [hmem row]
        constructor
        · rintro ⟨k, x, _, r⟩
          exact ⟨k, x, r⟩
        · rintro ⟨k, x, hk, r⟩
          have := (List.getElem?_eq_some_iff.mp hk).1
          exact ⟨k, x, by omega, hk, r⟩
      refine ⟨_, rfl, D, xs, rfl, SqL.of hl, ?_, fun x hx => ?_, fun ys p pm _ np => ?_⟩
      · rw [Paired.length hti]
        omega
      · obtain ⟨i, hi⟩ := List.getElem?_of_mem hx
        obtain ⟨row, hrow, t, e, ht⟩ := paired_at hti hi
        have ha := (all_ row).mp (List.mem_of_getElem? hrow)
        obtain ⟨k, y, hk, _, er⟩ := ha
        refine ⟨row, ⟨t, e, SqT.of ht⟩, ?_, fun m hm => ?_⟩
        · rw [er, List.length_set]
          exact hSl
        · have hm' : m = c ∨ m ∈ S := by
            rw [er] at hm
            exact (List.mem_or_eq_of_mem_set hm).symm
          have hmi : Inn n m := by
            rcases hm' with e | e
            · rw [e]
              exact hc
            · exact hst.2.2 m e
          have := hw.1.le
          have h1 := hmi.1
          have h2 := hmi.2
          omega
      · obtain ⟨rows', pr', hti'⟩ := paired_perm pm hti
        refine q _ p ys rows' (s1.trans (same_new np)) upd_same (TIs.tk hti' (Tk.new np)) ?_ fun row => ?_
        · rw [pr'.length_eq]
          omega
        · rw [pr'.mem_iff]
          exact all_ row
end
end GrD
namespace GrD
open PySem PySem.Spec PyProof.Rows L2 GrT GrR Gr
/-- a kind's text -/
def kd (one : Bool) : V := if one = true then .str "one" else .str "all"
theorem kd_scal (one : Bool) : scal (kd one) (.str "one") = true := by cases one <;> rfl
theorem ne_all : ¬ (V.str "all" = V.str "one") := by decide +kernel
theorem kd_dec (one : Bool) : decide (kd one = .str "one") = one := by
  cases one with
  | true => exact decide_eq_true rfl
  | false => exact decide_eq_false ne_all
section
variable {P : Program} {w : World} {K : PySem.W.Frag} {mg : Str → Option Value} {base : Heap} {C : Addr}
/-- answers -/
def spAnswers (C : Addr) : Sp := fun vs H Q _ => ∃ (a sa : Addr) (n g : Nat) (T : List (Int × Int)) (S : List Int) (c : Int) (one : Bool), vs = [.ref a, .ref sa, .int c, kd one] ∧ WebAt C H a n T ∧ H sa = some (.tup (S.map V.int)) ∧ IsSt n g S ∧ 1 ≤ g ∧ g ≤ 6 ∧ Inn n c ∧ c ∉ S ∧
  ∀ (H' : Hp) (l : Addr) (xs : List V) (rows : List (List Int)), Same H H' → H' l = some (.lst xs) → TIs H' xs rows → rows.length ≤ 46656 → (∀ row, row ∈ rows ↔ Ans one T S c row) → Q (.ref l) H'
theorem ok_answers {f : Addr} {fd : FuncData} (F : Fun K "answers" "answers" sAnswers f fd) (T : Txt K mg C) (GL : Good P w K mg base 1 "look_at_call" ["web", "standing", "call"] (spLookAtCall C))
    (GO : Good P w K mg base 3 "answers_of_one" ["web", "standing", "call"] (spAnswersOfOne C)) (GM : Good P w K mg base 4 "moves" ["web", "standing", "among"] (spMoves C)) :
    FnOk P w K mg base CX0 5 f fd ["web", "standing", "call", "kind"] (spAnswers C) := by
  refine F.ok scAnswers (fun vs H Q E h => ?_) (fun cdv A outer s H vs Q E hr h => ?_)
  · obtain ⟨a, sa, n, g, T, S, c, one, rfl, _⟩ := h
    rfl
  · obtain ⟨a, sa, n, g, U, S, c, one, rfl, hw, hS, hst, g1, g6, hc, hcn, q⟩ := h
    refine ⟨_, pss_cons (ps_expr (pe_go GL (hr.mono (by decide)) (by rfl) (pa_cons (pv 0) (pa_cons (pv 1) (pa_cons (pv 2) pa_nil)))))
      (pss_cons (ps_if (pt_cmpR op_eq (pv 3) pe_str (nomark _)) (pss_one (ps_ret (pe_go GO (hr.mono (by decide)) (by rfl) (pa_cons (pv 0) (pa_cons (pv 1) (pa_cons (pv 2) pa_nil)))))) pss_nil)
      (pss_cons (ps_set (i := 4) scAnswers.nd rfl (.inl rfl) pe_dnewK)
      (pss_cons (ps_for PassesOwn.never rfl (pi_range1 rfl T.range (pa_cons (pe_fld (pv 0) rfl) pa_nil)) (pg_name (i := 5) scAnswers.nd rfl (.inl rfl))
        (pss_one (ps_dput (hu_of hr) (pv 4) (pv 5) pe_bl rfl)))
      (pss_one (ps_ret (pe_lc (own := [("row", 6)]) (g := gName 6) rfl scAnswers.nd (pi_list (pe_go GM (hr.mono (by decide)) (by rfl) (pa_cons (pv 0) (pa_cons (pv 1) (pa_cons (pv 4) pa_nil)))))
        (blkOk_by (own := [("row", 6)]) (N := ["web", "standing", "call", "kind", "among", "place", "row"]) (sc := defScope sAnswers) (by decide +kernel))
        (fun _ _ _ _ _ => pg_name (i := 6) scAnswers.nd rfl (.inl rfl)) (fun _ _ _ _ _ => pts_one (pt_cmpR (op_in_seq : OpR _ _ (rIn K false)) (pv 2) (pv 6) (by rfl))) (fun _ _ _ _ _ => pv 6))))))), ?_⟩
    refine ⟨_, rfl, _, rfl, _, rfl, a, sa, n, U, S, c, rfl, hw, hS, hc, hcn, ?_⟩
    refine ⟨_, rfl, kd_scal one, _, rfl, ?_⟩
    rw [kd_dec]
    cases one with
    | true =>
      refine iteT ⟨_, rfl, _, rfl, _, rfl, a, sa, n, g, U, S, c, rfl, hw, hS, hst, g1, g6, hc, fun H1 l xs rows s1 hl hti hlen hm => ?_⟩
      exact q H1 l xs rows s1 hl hti (by omega) hm
    | false =>
      refine iteF ?_
      intro am nam
      obtain ⟨W, dx, at_, txs, h1, h2, h3⟩ := id hw
      have s0 : Same H (upd H am (.dK [])) := same_new nam
      refine ⟨_, rfl, a, C, dx, _, _, rfl, s0 _ _ h1, T.cl, T.nP, wf_places _ _, _, rfl, by omega, by have := W.le; omega, for_range (lo := 0) (n := ((n : Nat) : Int).toNat)
        (fun i σ H' => ∃ (y5 : Option V) (kvs : List (Key × V)), σ = [some (.ref a), some (.ref sa), some (.int c), some (kd false), some (.ref am), y5, none] ∧ Same H H' ∧ H' am = some (.dK kvs) ∧ kvs.length ≤ i ∧ ∀ j : Nat, j < i → (valV kvs (.inl (j : Int))).isSome = true)
        ⟨none, [], rfl, s0, upd_same, Nat.le_refl _, fun j hj => absurd hj (Nat.not_lt_zero _)⟩ ?_ ?_⟩
      · rintro i σ H1 hi ⟨y5, kvs, rfl, s1, ha, hl, hv⟩
        have hle := W.le
        refine ⟨_, rfl, _, rfl, am, _, rfl, DPut.k (k := Sum.inl ((0 : Int) + (i : Nat))) ha (small1000 (by omega)), ?_⟩
        refine ⟨_, _, rfl, same_wr s1 nam, upd_same, ?_, fun j hj => ?_⟩
        · exact Nat.le_trans (length_putK _ _ _) (by omega)
        · rw [valV_put]
          by_cases e : (Sum.inl (j : Int) : Key) = Sum.inl ((0 : Int) + (i : Nat))
          · rw [if_pos e]
            rfl
          · rw [if_neg e]
            refine hv j ?_
            have ne : j ≠ i := fun z => e (by rw [z, Int.zero_add])
            omega
      · rintro σ H1 ⟨y5, kvs, rfl, s1, ha, hl, hv⟩
        have hle := W.le
        refine ⟨_, rfl, _, rfl, _, rfl, a, sa, am, n, U, S, kvs, rfl, hw.same s1, s1 _ _ hS, hst.2.2, by rw [hst.1]; exact g6, ha, fun p hp => ?_, fun H2 l xs rows s2 hl2 hti hlen hm => ?_⟩
        · have e : p = ((p.toNat : Nat) : Int) := by
            have := hp.1
            omega
          rw [e]
          have h1 := hp.1
          have h2 := hp.2
          exact hv p.toNat (by omega)
        · refine ⟨l, rfl, ⟨_, SqL.of hl2⟩, fun D hD => lc_list (K := K) (a := l) (xs := xs) (fun j H' => Same H2 H' ∧ ∃ zs, H' D = some (.lst zs) ∧ TIs H' zs ((rows.take j).filter fun r => decide (c ∈ r)))
            ⟨same_new hD, [], upd_same, .nil⟩ (fun j H' _ ⟨s3, _⟩ => SqL.of (s3 _ _ hl2)) ?_ ?_⟩
          · rintro j x H3 hx ⟨s3, zs, hzs, hz⟩
            obtain ⟨row, hrow, t, rfl, ht⟩ := paired_at (hti.tk (Tk.of s3)) hx
            have ex : (rows.take (j + 1)).filter (fun r => decide (c ∈ r)) = (rows.take j).filter (fun r => decide (c ∈ r)) ++ (if c ∈ row then [row] else []) := by
              rw [take_snoc hrow, List.filter_append]
              congr 1
              by_cases e : c ∈ row
              · simp [e]
              · simp [e]
            refine ⟨rfl, _, rfl, _, rfl, t, _, rfl, .inr (SqT.of ht), rfl, flat_ints _, _, rfl, ?_⟩
            rw [inV_ints]
            show if decide (c ∈ row) = true then _ else _
            by_cases e : c ∈ row
            · rw [decide_eq_true e]
              refine iteT ⟨_, rfl, zs, hzs, ?_, same_wr s3 hD, _, upd_same, ?_⟩
              · rw [Paired.length hz, sizeLine_eq]
                have b1 := List.length_filter_le (fun r => decide (c ∈ r)) (rows.take j)
                rw [List.length_take] at b1
                omega
              · rw [ex, if_pos e]
                exact paired_snoc (hz.tk (Tk.wrL hzs)) (TI.tk ⟨t, rfl, ht⟩ (Tk.wrL hzs))
            · rw [decide_eq_false e]
              refine iteF ⟨s3, zs, hzs, ?_⟩
              rw [ex, if_neg e, List.append_nil]
              exact hz
          · rintro H3 ⟨s3, zs, hzs, hz⟩
            rw [Paired.length hti, List.take_length] at hz
            refine q H3 D zs _ ((s1.trans s2).trans s3) hzs hz ?_ fun row => ?_
            · exact Nat.le_trans (List.length_filter_le _ _) hlen
            · rw [List.mem_filter, hm row, decide_eq_true_eq]
              show _ ↔ AnsAll U S c row
              unfold AnsAll
              rw [and_assoc]
end
end GrD
namespace GrD
open PySem PySem.Spec PyProof.Rows L2 GrT GrR Gr
section
variable {P : Program} {w : World} {K : PySem.W.Frag} {mg : Str → Option Value} {base : Heap} {C : Addr}
/-- choices -/
def spChoices : Sp := fun vs H Q _ => ∃ (m : Nat) (s : Int), vs = [.int (m : Int), .int s] ∧ m ≤ 6 ∧ Q (.int (ch (m : Int) s)) H
theorem ok_choices {f : Addr} {fd : FuncData} (F : Fun K "choices" "choices" sChoices f fd) (T : Txt K mg C) : FnOk P w K mg base CX0 1 f fd ["many", "some"] spChoices := by
  refine F.ok scChoices (fun vs H Q E h => ?_) (fun cdv A outer s H vs Q E hr h => ?_)
  · obtain ⟨m, t, rfl, _⟩ := h
    rfl
  · obtain ⟨m, t, rfl, hm, q⟩ := h
    refine ⟨_, pss_cons (ps_if (PW.pt (pw_or (pt_cmpR op_lt (pv 1) pe_int (nomark _)) (pw_or1 (pt_cmpR op_gt (pv 1) (pv 0) (nomark _))))) (pss_one (ps_ret pe_int)) pss_nil)
      (pss_cons (ps_set (i := 2) scChoices.nd rfl (.inl rfl) pe_int)
      (pss_cons (ps_for PassesOwn.never rfl (pi_range1 rfl T.range (pa_cons (pv 1) pa_nil)) (pg_name (i := 3) scChoices.nd rfl (.inl rfl))
        (pss_one (ps_set (i := 2) scChoices.nd rfl (.inl rfl) (pe_op op_fdivN (pe_op op_mul (pv 2) (pe_op op_sub (pv 0) (pv 3))) (pe_op op_add (pv 3) pe_int)))))
      (pss_one (ps_ret (pv 2))))), ?_⟩
    refine ⟨_, rfl, _, _, rfl, rfl, _, rfl, ite2 (fun e => ?_) (fun e => ?_)⟩
    · have h1 := of_decide_eq_true e
      refine iteT ?_
      have e2 : ch (m : Int) t = 0 := if_pos (.inl h1)
      rw [e2] at q
      exact q
    · have h1 : ¬ t < 0 := fun z => e (decide_eq_true z)
      refine ⟨_, rfl, _, rfl, _, _, rfl, rfl, _, rfl, ite2 (fun e' => ?_) (fun e' => ?_)⟩
      · have h2 := of_decide_eq_true e'
        have e2 : ch (m : Int) t = 0 := if_pos (.inr h2)
        rw [e2] at q
        exact q
      · have h2 : ¬ t > (m : Int) := fun z => e' (decide_eq_true z)
        have e2 : ch (m : Int) t = chK (m : Int) t.toNat := if_neg (fun z => z.elim h1 h2)
        rw [e2] at q
        refine ⟨_, rfl, t, rfl, by omega, by omega, for_range (lo := 0) (n := t.toNat)
          (fun i σ H' => ∃ y3 : Option V, σ = [some (.int (m : Int)), some (.int t), some (.int (chK (m : Int) i)), y3] ∧ H' = H) ⟨none, rfl, rfl⟩ ?_ ?_⟩
        · rintro i σ H1 hi ⟨y3, rfl, rfl⟩
          obtain ⟨b1, b2⟩ := chK_small m hm i (by omega)
          refine ⟨_, rfl, _, rfl, _, rfl, _, _, rfl, rfl, _, _, rfl, rfl, .inl ⟨by omega, by omega⟩, ?_⟩
          refine ⟨_, rfl, _, _, rfl, rfl, _, _, rfl, rfl, ⟨by omega, by omega⟩, ?_⟩
          refine ⟨some (.int (0 + ((i : Nat) : Int))), ?_, rfl⟩
          rw [chK_succ, Int.zero_add]
          rfl
        · rintro σ H1 ⟨y3, rfl, rfl⟩
          exact ⟨_, rfl, q⟩
/-- look_at_guards -/
def spLookAtGuards (C : Addr) : Sp := fun vs H Q _ => ∃ (a : Addr) (n g : Nat) (T : List (Int × Int)), vs = [.ref a, .int (g : Int)] ∧ WebAt C H a n T ∧ 1 ≤ g ∧ g ≤ n ∧ Q .non H
theorem ok_look_at_guards {f : Addr} {fd : FuncData} (F : Fun K "look_at_guards" "look_at_guards" sLookAtGuards f fd) (T : Txt K mg C) : FnOk P w K mg base CX0 1 f fd ["web", "guards"] (spLookAtGuards C) := by
  refine F.ok scLookAtGuards (fun vs H Q E h => ?_) (fun cdv A outer s H vs Q E hr h => ?_)
  · obtain ⟨a, n, g, T, rfl, _⟩ := h
    rfl
  · obtain ⟨a, n, g, U, rfl, ⟨W, dx, at_, xs, h1, h2, h3⟩, p0, p1, q⟩ := h
    refine ⟨_, pss_one (ps_if (PW.pt (pw_or (pt_cmpR op_lt (pv 1) pe_int (nomark _)) (pw_or1 (pt_cmpR op_gt (pv 1) (pe_fld (pv 0) rfl) (nomark _))))) pss_never pss_nil), ?_⟩
    refine ⟨_, rfl, _, _, rfl, rfl, _, rfl, ?_⟩
    rw [decide_eq_false (show ¬ (g : Int) < 1 by omega)]
    refine iteF ⟨_, rfl, _, rfl, a, C, dx, _, _, rfl, h1, T.cl, T.nP, wf_places _ _, _, _, rfl, rfl, _, rfl, ?_⟩
    rw [decide_eq_false (show ¬ (g : Int) > (n : Int) by omega)]
    exact iteF q
/-- how_many -/
def spHowMany (C : Addr) : Sp := fun vs H Q _ => ∃ (a : Addr) (n g : Nat) (T : List (Int × Int)), vs = [.ref a, .int (g : Int)] ∧ WebAt C H a n T ∧ 1 ≤ g ∧ g ≤ n ∧ Q (.int (many n g : Int)) H
theorem ok_how_many {f : Addr} {fd : FuncData} (F : Fun K "how_many" "how_many" sHowMany f fd) (T : Txt K mg C) (GG : Good P w K mg base 1 "look_at_guards" ["web", "guards"] (spLookAtGuards C)) (GC : Good P w K mg base 1 "choices" ["many", "some"] spChoices) :
    FnOk P w K mg base CX0 2 f fd ["web", "guards"] (spHowMany C) := by
  refine F.ok scHowMany (fun vs H Q E h => ?_) (fun cdv A outer s H vs Q E hr h => ?_)
  · obtain ⟨a, n, g, T, rfl, _⟩ := h
    rfl
  · obtain ⟨a, n, g, U, rfl, hw, p0, p1, q⟩ := h
    obtain ⟨W, dx, at_, xs, h1, h2, h3⟩ := id hw
    refine ⟨_, pss_cons (ps_expr (pe_go GG hr (by rfl) (pa_cons (pv 0) (pa_cons (pv 1) pa_nil)))) (pss_one (ps_ret (pe_go GC hr (by rfl) (pa_cons (pe_fld (pv 0) rfl) (pa_cons (pv 1) pa_nil))))), ?_⟩
    refine ⟨_, rfl, _, rfl, a, n, g, U, rfl, hw, p0, p1, ?_⟩
    have hle := W.le
    refine ⟨_, rfl, a, C, dx, _, _, rfl, h1, T.cl, T.nP, wf_places _ _, _, rfl, n, (g : Int), rfl, W.le, ?_⟩
    rw [(many_small n g W.le (by omega)).1]
    exact q
/-- standing_at -/
def spStandingAt (C : Addr) : Sp := fun vs H Q _ => ∃ (a : Addr) (n g : Nat) (T : List (Int × Int)) (num : Int), vs = [.ref a, .int (g : Int), .int num] ∧ WebAt C H a n T ∧ 1 ≤ g ∧ g ≤ n ∧
  ∀ (H' : Hp) (t : Addr), Same H H' → H' t = some (.tup ((standAt n g num).map V.int)) → Q (.ref t) H'
theorem ok_standing_at {f : Addr} {fd : FuncData} (F : Fun K "standing_at" "standing_at" sStandingAt f fd) (T : Txt K mg C) (GG : Good P w K mg base 1 "look_at_guards" ["web", "guards"] (spLookAtGuards C)) (GC : Good P w K mg base 1 "choices" ["many", "some"] spChoices) :
    FnOk P w K mg base CX0 2 f fd ["web", "guards", "number"] (spStandingAt C) := by
  refine F.ok scStandingAt (fun vs H Q E h => ?_) (fun cdv A outer s H vs Q E hr h => ?_)
  · obtain ⟨a, n, g, T, num, rfl, _⟩ := h
    rfl
  · obtain ⟨a, n, g, U, num, rfl, hw, p0, p1, q⟩ := h
    obtain ⟨W, dx, at_, xs, h1, h2, h3⟩ := id hw
    have hle := W.le
    refine ⟨_, pss_cons (ps_expr (pe_go GG hr (by rfl) (pa_cons (pv 0) (pa_cons (pv 1) pa_nil))))
      (pss_cons (ps_set (i := 3) scStandingAt.nd rfl (.inl rfl) (pe_lst pa_nil))
      (pss_cons (ps_set (i := 4) scStandingAt.nd rfl (.inl rfl) (pv 2))
      (pss_cons (ps_for PassesOwn.never rfl (pi_range1 rfl T.range (pa_cons (pe_fld (pv 0) rfl) pa_nil)) (pg_name (i := 5) scStandingAt.nd rfl (.inl rfl))
        (pss_cons (ps_set (i := 6) scStandingAt.nd rfl (.inl rfl) (pe_go GC hr (by rfl) (pa_cons (pe_op op_sub (pe_op op_sub (pe_fld (pv 0) rfl) (pv 5)) pe_int)
          (pa_cons (pe_op op_sub (pe_op op_sub (pv 1) (pe_callB call_len_seq (by rfl) T.len PySem.boot_len (pa_cons (pv 3) pa_nil))) pe_int) pa_nil))))
        (pss_one (ps_if (PW.pt (pw_and (pt_cmpR op_lt (pe_callB call_len_seq (by rfl) T.len PySem.boot_len (pa_cons (pv 3) pa_nil)) (pv 1) (nomark _)) (pw_and1 (pt_cmpR op_lt (pv 4) (pv 6) (nomark _)))))
          (pss_one (ps_expr (pe_bm PySem.F.plainAttrs_list PySem.F.slot_list_append PySem.F.type_list_append mt_append (pv 3) (pa_cons (pv 5) pa_nil))))
          (pss_one (ps_if (pt_cmpR op_lt (pe_callB call_len_seq (by rfl) T.len PySem.boot_len (pa_cons (pv 3) pa_nil)) (pv 1) (nomark _))
            (pss_one (ps_set (i := 4) scStandingAt.nd rfl (.inl rfl) (pe_op op_sub (pv 4) (pv 6)))) pss_nil))))))
      (pss_one (ps_ret (pe_callTy call_tuple_of (by rfl) T.tuple (by decide +kernel) (pa_cons (pv 3) pa_nil))))))), ?_⟩
    refine ⟨_, rfl, _, rfl, a, n, g, U, rfl, hw, p0, p1, ?_⟩
    refine ⟨Nat.zero_le _, fun D hD => ?_⟩
    have s0 : Same H (upd H D (.lst [])) := same_new hD
    refine ⟨_, rfl, _, rfl, a, C, dx, _, _, rfl, s0 _ _ h1, T.cl, T.nP, wf_places _ _, _, rfl, by omega, by omega, for_range (lo := 0) (n := ((n : Nat) : Int).toNat)
      (fun i σ H' => ∃ (y5 y6 : Option V), σ = [some (.ref a), some (.int (g : Int)), some (.int num), some (.ref D), some (.int (standTo n g num i).2), y5, y6] ∧ Same H H' ∧ H' D = some (.lst ((standTo n g num i).1.map V.int)))
      ⟨none, none, rfl, s0, upd_same⟩ ?_ ?_⟩
    · rintro i σ H1 hi ⟨y5, y6, rfl, s1, hl⟩
      have hin : i < n := by omega
      obtain ⟨l1, l2⟩ := standTo_len n g num i
      have e0 : (n : Int) - (0 + (i : Nat)) - 1 = ((n - i - 1 : Nat) : Int) := by omega
      refine ⟨_, rfl, a, C, dx, _, _, rfl, s1 _ _ h1, T.cl, T.nP, wf_places _ _, _, rfl, _, _, rfl, rfl, _, _, rfl, rfl, ?_⟩
      refine ⟨_, rfl, _, rfl, D, _, rfl, .inl (SqL.of hl), _, _, rfl, rfl, _, _, rfl, rfl, ?_⟩
      refine ⟨n - i - 1, (g : Int) - (((standTo n g num i).1.map V.int).length : Nat) - 1, ?_, by omega, ?_⟩
      · show [V.int ((n : Int) - (0 + ((i : Nat) : Int)) - 1), V.int ((g : Int) - (((standTo n g num i).1.map V.int).length : Nat) - 1)] = _
        rw [e0]
      rw [List.length_map]
      have es : standTo n g num (i + 1) = stepSt n g (standTo n g num i) i := standTo_succ n g num i
      have eb : (n : Int) - (i : Nat) - 1 = ((n - i - 1 : Nat) : Int) := by omega
      refine ⟨_, rfl, D, _, rfl, .inl (SqL.of hl), _, rfl, _, _, rfl, rfl, _, rfl, ?_⟩
      rw [List.length_map]
      by_cases c1 : (standTo n g num i).1.length < g
      · rw [decide_eq_true (show (((standTo n g num i).1.length : Nat) : Int) < (g : Int) by omega)]
        refine iteT ⟨_, rfl, _, rfl, _, _, rfl, rfl, _, rfl, ?_⟩
        by_cases c2 : (standTo n g num i).2 < ch ((n - i - 1 : Nat) : Int) ((g : Int) - (((standTo n g num i).1.length : Nat) : Int) - 1)
        · rw [decide_eq_true c2]
          refine iteT ⟨_, rfl, .inl ⟨rfl, _, SqL.of hl⟩, _, rfl, D, _, _, rfl, rfl, hl, ?_, ?_⟩
          · rw [List.length_map]
            exact small1000 (by omega)
          · have e2 : stepSt n g (standTo n g num i) i = ((standTo n g num i).1 ++ [(i : Int)], (standTo n g num i).2) := by
              unfold stepSt
              rw [if_pos c1, eb, if_pos c2]
            refine ⟨_, _, by rw [es, e2]; rfl, same_wr s1 hD, ?_⟩
            rw [upd_same, es, e2, List.map_append, Int.zero_add]
            rfl
        · rw [decide_eq_false c2]
          refine iteF ⟨_, rfl, D, _, rfl, .inl (SqL.of hl), _, rfl, _, _, rfl, rfl, _, rfl, ?_⟩
          rw [List.length_map, decide_eq_true (show (((standTo n g num i).1.length : Nat) : Int) < (g : Int) by omega)]
          refine iteT ⟨_, rfl, _, rfl, _, _, rfl, rfl, ?_⟩
          have e2 : stepSt n g (standTo n g num i) i = ((standTo n g num i).1, (standTo n g num i).2 - ch ((n - i - 1 : Nat) : Int) ((g : Int) - (((standTo n g num i).1.length : Nat) : Int) - 1)) := by
            unfold stepSt
            rw [if_pos c1, eb, if_neg c2]
          refine ⟨_, _, by rw [es, e2]; rfl, s1, ?_⟩
          rw [es, e2]
          exact hl
      · rw [decide_eq_false (show ¬ (((standTo n g num i).1.length : Nat) : Int) < (g : Int) by omega)]
        refine iteF (iteF ⟨_, rfl, D, _, rfl, .inl (SqL.of hl), _, rfl, _, _, rfl, rfl, _, rfl, ?_⟩)
        rw [List.length_map, decide_eq_false (show ¬ (((standTo n g num i).1.length : Nat) : Int) < (g : Int) by omega)]
        have e2 : stepSt n g (standTo n g num i) i = standTo n g num i := by
          unfold stepSt
          rw [if_neg c1]
        refine iteF ⟨_, _, by rw [es, e2]; rfl, s1, ?_⟩
        rw [es, e2]
        exact hl
    · rintro σ H1 ⟨y5, y6, rfl, s1, hl⟩
      refine ⟨_, rfl, D, _, rfl, .inl ⟨SqL.of hl, fun t nt => q _ t (s1.trans (same_new nt)) ?_⟩⟩
      rw [upd_same]
      rfl
end
end GrD
namespace GrD
open PySem PySem.Spec PyProof.Rows L2 GrT GrR Gr
theorem yesT {σ : L2.St} {H : Hp} {A B : Hp → Prop} (h : A H) : tYes σ H (fun b H3 => if b = true then A H3 else B H3) := by
  show if true = true then A H else B H
  rw [if_pos rfl]
  exact h
/-- the heap but for one address -/
def rmv (H : Hp) (D : Addr) : Hp := fun b => if b = D then none else H b
theorem rmv_ne {H : Hp} {D b : Addr} (h : b ≠ D) : rmv H D b = H b := if_neg h
theorem rmv_same (H : Hp) (D : Addr) : Same (rmv H D) H := fun b o e => by
  unfold rmv at e
  split at e
  · cases e
  · exact e
theorem rmv_upd {H : Hp} {D : Addr} {o : HO} : rmv (upd H D o) D = rmv H D := by
  funext b
  unfold rmv
  split
  · rfl
  · rename_i h
    exact upd_ne h
theorem rmv_mono {H H' : Hp} (s : Same H H') (D : Addr) : Same (rmv H D) (rmv H' D) := fun b o e => by
  unfold rmv at e ⊢
  split at e
  · cases e
  · rename_i h
    rw [if_neg h]
    exact s b o e
theorem same_rmv {H0 H : Hp} {D : Addr} (s : Same H0 H) (h : H0 D = none) : Same H0 (rmv H D) := fun b o e => by
  rw [rmv_ne (ne_of_none e h)]
  exact s b o e
def callsL (n : Nat) (S : List Int) : List Int := (rangeI n).filter fun p => !decide (p ∈ S)
theorem mem_callsL {n : Nat} {S : List Int} {p : Int} : p ∈ callsL n S ↔ Inn n p ∧ p ∉ S := by
  unfold callsL
  rw [List.mem_filter, mem_rangeI]
  simp
theorem callsL_len (n : Nat) (S : List Int) : (callsL n S).length ≤ n := by
  unfold callsL
  refine Nat.le_trans (List.length_filter_le _ _) ?_
  rw [rangeI_len]
  exact Nat.le_refl _
theorem rangeI_at {n i : Nat} (h : i < n) : (rangeI n)[i]? = some ((i : Nat) : Int) := by
  unfold rangeI
  rw [List.getElem?_map, List.getElem?_range h]
  rfl
theorem ks_of {H : Hp} : ∀ {zs : List V} {ts : List (List Int)}, TIs H zs ts → ∃ ks : List (Addr × List Int), zs = (ks.map fun p => V.ref p.1) ∧ ts = ks.map (·.2) ∧ ∀ p ∈ ks, H p.1 = some (.tup (p.2.map V.int))
  | _, _, .nil => ⟨[], rfl, rfl, fun p h => by cases h⟩
  | _, t :: _, .cons r q => by
    obtain ⟨ks, e1, e2, e3⟩ := ks_of q
    obtain ⟨a, e, ha⟩ := r
    refine ⟨(a, t) :: ks, by rw [e, e1]; rfl, by rw [e2]; rfl, fun p hp => ?_⟩
    rcases List.mem_cons.mp hp with z | z
    · rw [z]
      exact ha
    · exact e3 p z
theorem of_ks {H : Hp} : ∀ {ks : List (Addr × List Int)}, (∀ p ∈ ks, H p.1 = some (.tup (p.2.map V.int))) → TIs H (ks.map fun p => V.ref p.1) (ks.map (·.2))
  | [], _ => .nil
  | p :: ks, h => .cons ⟨p.1, rfl, h p List.mem_cons_self⟩ (of_ks fun q hq => h q (List.mem_cons_of_mem _ hq))
/-- what led_to tells of a call -/
def RowI (H0 : Hp) (one : Bool) (T : List (Int × Int)) (S : List Int) (H : Hp) (x : V) (c : Int) : Prop := ∃ (t bl : Addr) (bxs : List V) (bs : List (List Int)), x = .ref t ∧ H t = some (.tup [.int c, .ref bl]) ∧ H0 bl = none ∧ H bl = some (.lst bxs) ∧ TIs H bxs bs ∧ bs.length < 64 ∧ ∀ S', S' ∈ bs ↔ Lead one T S c S'
theorem RowI.same {H0 : Hp} {one : Bool} {T : List (Int × Int)} {S : List Int} {H H' : Hp} {x : V} {c : Int} (h : RowI H0 one T S H x c) (s : Same H H') : RowI H0 one T S H' x c := by
  obtain ⟨t, bl, bxs, bs, e, h1, h0, h2, h3, h4, h5⟩ := h
  exact ⟨t, bl, bxs, bs, e, s _ _ h1, h0, s _ _ h2, h3.tk (.of s), h4, h5⟩
abbrev nil0 : Hp := fun _ => none
/-- the rows stand apart from a list that was there before -/
theorem RowI.off {H0 : Hp} {one : Bool} {T : List (Int × Int)} {S : List Int} {H : Hp} {x : V} {c : Int} {D : Addr} {u : HO} {ys : List V} (h : RowI H0 one T S H x c) (h0 : H0 D = some u) (hD : H D = some (.lst ys)) : RowI nil0 one T S (rmv H D) x c := by
  obtain ⟨t, bl, bxs, bs, e, h1, hb, h2, h3, h4, h5⟩ := h
  have k : Tk H (rmv H D) := fun b xs hb => by
    rw [rmv_ne (ne_of hb hD fun z => by cases z)]
    exact hb
  refine ⟨t, bl, bxs, bs, e, k _ _ h1, rfl, ?_, h3.tk k, h4, h5⟩
  rw [rmv_ne (ne_of_none h0 hb).symm]
  exact h2
abbrev RowIs (H0 : Hp) (one : Bool) (T : List (Int × Int)) (S : List Int) (H : Hp) (xs : List V) (cs : List Int) : Prop := Paired (RowI H0 one T S H) xs cs
theorem RowIs.same {H0 : Hp} {one : Bool} {T : List (Int × Int)} {S : List Int} {H H' : Hp} {xs : List V} {cs : List Int} (h : RowIs H0 one T S H xs cs) (s : Same H H') : RowIs H0 one T S H' xs cs := Paired.mapP h fun _ _ q => q.same s
theorem RowIs.off {H0 : Hp} {one : Bool} {T : List (Int × Int)} {S : List Int} {H : Hp} {xs : List V} {cs : List Int} {D : Addr} {u : HO} {ys : List V} (h : RowIs H0 one T S H xs cs) (h0 : H0 D = some u) (hD : H D = some (.lst ys)) : RowIs nil0 one T S (rmv H D) xs cs := Paired.mapP h fun _ _ q => q.off h0 hD
section
variable {P : Program} {w : World} {K : PySem.W.Frag} {mg : Str → Option Value} {base : Heap} {C : Addr}
/-- standings -/
def spStandings (C : Addr) : Sp := fun vs H Q _ => ∃ (a : Addr) (n g : Nat) (T : List (Int × Int)), vs = [.ref a, .int (g : Int)] ∧ WebAt C H a n T ∧ 1 ≤ g ∧ g ≤ n ∧
  ∀ (H' : Hp) (l : Addr) (xs : List V), Same H H' → H l = none → H' l = some (.lst xs) → TIs H' xs (stands n g) → Q (.ref l) H'
theorem ok_standings {f : Addr} {fd : FuncData} (F : Fun K "standings" "standings" sStandings f fd) (T : Txt K mg C) (GM : Good P w K mg base 2 "how_many" ["web", "guards"] (spHowMany C)) (GS : Good P w K mg base 2 "standing_at" ["web", "guards", "number"] (spStandingAt C)) :
    FnOk P w K mg base CX0 3 f fd ["web", "guards"] (spStandings C) := by
  refine F.ok scStandings (fun vs H Q E h => ?_) (fun cdv A outer s H vs Q E hr h => ?_)
  · obtain ⟨a, n, g, T, rfl, _⟩ := h
    rfl
  · obtain ⟨a, n, g, U, rfl, hw, p0, p1, q⟩ := h
    have hle := hw.1.le
    obtain ⟨tm, hmost⟩ := T.most
    obtain ⟨_, m20⟩ := many_small n g hle (by omega)
    refine ⟨_, pss_cons (ps_set (i := 2) scStandings.nd rfl (.inl rfl) (pe_go GM hr (by rfl) (pa_cons (pv 0) (pa_cons (pv 1) pa_nil))))
      (pss_cons (ps_if (pt_cmpR op_gt (pv 2) (pe_glob (v := .int 400) rfl hmost ⟨_, rfl⟩) (nomark _)) pss_never pss_nil)
      (pss_one (ps_ret (pe_lc (own := [("number", 3)]) (g := gName 3) (tt := tYes) rfl scStandings.nd (pi_range1 rfl T.range (pa_cons (pv 2) pa_nil))
        (blkOk_by (own := [("number", 3)]) (N := ["web", "guards", "many", "number"]) (sc := defScope sStandings) (by decide +kernel))
        (fun _ _ _ _ _ => pg_name (i := 3) scStandings.nd rfl (.inl rfl)) (fun _ _ _ _ _ => pts_nil) (fun _ _ _ _ _ => pe_go GS hr (by rfl) (pa_cons (pv 0) (pa_cons (pv 1) (pa_cons (pv 3) pa_nil)))))))), ?_⟩
    refine ⟨_, rfl, _, rfl, a, n, g, U, rfl, hw, p0, p1, ?_⟩
    refine ⟨_, rfl, _, _, rfl, rfl, _, rfl, ?_⟩
    rw [decide_eq_false (show ¬ (many n g : Int) > 400 by omega)]
    refine iteF ⟨_, rfl, _, rfl, by omega, by omega, fun D hD => lc_range (lo := 0) (n := ((many n g : Nat) : Int).toNat)
      (fun i H' => Same H H' ∧ ∃ zs, H' D = some (.lst zs) ∧ TIs H' zs ((stands n g).take i)) ⟨same_new hD, [], upd_same, .nil⟩ ?_ ?_⟩
    · rintro i H1 hi ⟨s1, zs, hzs, hti⟩
      refine ⟨rfl, yesT ?_⟩
      refine ⟨_, rfl, _, rfl, _, rfl, a, n, g, U, _, rfl, hw.same s1, p0, p1, fun H2 t s2 ht => ?_⟩
      have hz2 := s2 _ _ hzs
      refine ⟨zs, hz2, ?_, same_wr (s1.trans s2) hD, _, upd_same, ?_⟩
      · rw [Paired.length hti, List.length_take]
        exact small1000 (by omega)
      · have hi' : i < many n g := by omega
        have e : (stands n g)[i]? = some (standAt n g (i : Int)) := by
          unfold stands
          rw [List.getElem?_map, List.getElem?_range hi']
          rfl
        rw [Int.zero_add] at ht
        rw [take_snoc e]
        exact paired_snoc (hti.tk ((Tk.of s2).trans (Tk.wrL hz2))) (TI.tk ⟨t, rfl, ht⟩ (Tk.wrL hz2))
    · rintro H1 ⟨s1, zs, hzs, hti⟩
      have e : (stands n g).take (((many n g : Nat) : Int).toNat) = stands n g := List.take_of_length_le (by rw [stands_len]; exact Nat.le_refl _)
      rw [e] at hti
      exact q H1 D zs s1 hD hzs hti
/-- calls_at -/
def spCallsAt (C : Addr) : Sp := fun vs H Q _ => ∃ (a sa : Addr) (n : Nat) (T : List (Int × Int)) (S : List Int), vs = [.ref a, .ref sa] ∧ WebAt C H a n T ∧ H sa = some (.tup (S.map V.int)) ∧
  ∀ (H' : Hp) (l : Addr), Same H H' → H l = none → H' l = some (.lst ((callsL n S).map V.int)) → Q (.ref l) H'
theorem ok_calls_at {f : Addr} {fd : FuncData} (F : Fun K "calls_at" "calls_at" sCallsAt f fd) (T : Txt K mg C) : FnOk P w K mg base CX0 1 f fd ["web", "standing"] (spCallsAt C) := by
  refine F.ok scCallsAt (fun vs H Q E h => ?_) (fun cdv A outer s H vs Q E hr h => ?_)
  · obtain ⟨a, sa, n, T, S, rfl, _⟩ := h
    rfl
  · obtain ⟨a, sa, n, U, S, rfl, ⟨W, dx, at_, txs, h1, h2, h3⟩, hS, q⟩ := h
    have hle := W.le
    refine ⟨_, pss_one (ps_ret (pe_lc (own := [("place", 2)]) (g := gName 2) rfl scCallsAt.nd (pi_range1 rfl T.range (pa_cons (pe_fld (pv 0) rfl) pa_nil))
        (blkOk_by (own := [("place", 2)]) (N := ["web", "standing", "place"]) (sc := defScope sCallsAt) (by decide +kernel))
        (fun _ _ _ _ _ => pg_name (i := 2) scCallsAt.nd rfl (.inl rfl)) (fun _ _ _ _ _ => pts_one (pt_cmpR (op_notIn_seq : OpR _ _ (rIn K true)) (pv 2) (pv 1) (by rfl))) (fun _ _ _ _ _ => pv 2))), ?_⟩
    refine ⟨_, rfl, a, C, dx, _, _, rfl, h1, T.cl, T.nP, wf_places _ _, _, rfl, by omega, by omega, fun D hD => lc_range (lo := 0) (n := ((n : Nat) : Int).toNat)
      (fun i H' => Same H H' ∧ H' D = some (.lst ((((rangeI n).take i).filter fun p => !decide (p ∈ S)).map V.int))) ⟨same_new hD, upd_same⟩ ?_ ?_⟩
    · rintro i H1 hi ⟨s1, hl⟩
      have hi' : i < n := by omega
      have ex : ((rangeI n).take (i + 1)).filter (fun p => !decide (p ∈ S)) = ((rangeI n).take i).filter (fun p => !decide (p ∈ S)) ++ (if (i : Int) ∈ S then [] else [(i : Int)]) := by
        rw [take_snoc (rangeI_at hi'), List.filter_append]
        congr 1
        by_cases e : (i : Int) ∈ S
        · simp [e]
        · simp [e]
      refine ⟨rfl, _, rfl, _, rfl, sa, _, rfl, .inr (SqT.of (s1 _ _ hS)), rfl, flat_ints _, _, rfl, ?_⟩
      rw [inV_ints, Int.zero_add]
      show if (!decide ((i : Int) ∈ S)) = true then _ else _
      by_cases e : (i : Int) ∈ S
      · rw [decide_eq_true e]
        refine iteF ⟨s1, ?_⟩
        rw [ex, if_pos e, List.append_nil]
        exact hl
      · rw [decide_eq_false e]
        refine iteT ⟨_, rfl, _, hl, ?_, same_wr s1 hD, ?_⟩
        · rw [List.length_map]
          refine small1000 (Nat.le_trans (List.length_filter_le _ _) ?_)
          rw [List.length_take]
          omega
        · rw [upd_same, ex, if_neg e, List.map_append]
          rfl
    · rintro H1 ⟨s1, hl⟩
      have e : (rangeI n).take (((n : Nat) : Int).toNat) = rangeI n := List.take_of_length_le (by rw [rangeI_len]; exact Nat.le_refl _)
      rw [e] at hl
      exact q H1 D s1 hD hl
/-- led_to -/
def spLedTo (C : Addr) : Sp := fun vs H Q _ => ∃ (a sa : Addr) (n g : Nat) (T : List (Int × Int)) (S : List Int) (one : Bool), vs = [.ref a, .ref sa, kd one] ∧ WebAt C H a n T ∧ H sa = some (.tup (S.map V.int)) ∧ IsSt n g S ∧ 1 ≤ g ∧ g ≤ 6 ∧
  ∀ (H' : Hp) (l : Addr) (xs : List V), Same H H' → H l = none → H' l = some (.lst xs) → RowIs H one T S H' xs (callsL n S) → Q (.ref l) H'
theorem ok_led_to {f : Addr} {fd : FuncData} (F : Fun K "led_to" "led_to" sLedTo f fd) (T : Txt K mg C) (GC : Good P w K mg base 1 "calls_at" ["web", "standing"] (spCallsAt C)) (GA : Good P w K mg base 5 "answers" ["web", "standing", "call", "kind"] (spAnswers C)) :
    FnOk P w K mg base CX0 6 f fd ["web", "standing", "kind"] (spLedTo C) := by
  refine F.ok scLedTo (fun vs H Q E h => ?_) (fun cdv A outer s H vs Q E hr h => ?_)
  · obtain ⟨a, sa, n, g, T, S, one, rfl, _⟩ := h
    rfl
  · obtain ⟨a, sa, n, g, U, S, one, rfl, hw, hS, hst, g1, g6, q⟩ := h
    have hle := hw.1.le
    refine ⟨_, pss_cons (ps_set (i := 3) scLedTo.nd rfl (.inl rfl) (pe_lst pa_nil))
      (pss_cons (ps_for PassesOwn.never rfl (pi_list (pe_go GC (hr.mono (by decide)) (by rfl) (pa_cons (pv 0) (pa_cons (pv 1) pa_nil)))) (pg_name (i := 4) scLedTo.nd rfl (.inl rfl))
        (pss_cons (ps_setLc (i := 5) (own := [("row", 6)]) (g := gName 6) (tt := tYes) rfl scLedTo.nd rfl rfl (sw_true rfl rfl rfl (by decide +kernel)) (pi_list (pe_go GA hr (by rfl) (pa_cons (pv 0) (pa_cons (pv 1) (pa_cons (pv 4) (pa_cons (pv 2) pa_nil))))))
            (blkOk_by (own := [("row", 6)]) (N := ["web", "standing", "kind", "found", "call", "behind", "row"]) (sc := defScope sLedTo) (by decide +kernel))
            (fun _ _ _ _ _ => pg_name (i := 6) scLedTo.nd rfl (.inl rfl)) (fun _ _ _ _ _ => pts_nil)
            (fun _ _ _ _ _ => pe_callTy (r := fun xs H Q => ∃ p ys, xs = [.ref p] ∧ ((SqL K H p ys ∧ ∀ l, H l = none → Q (.ref l) (upd H l (.tup ys))) ∨ (SqT K H p ys ∧ Q (.ref p) H))) call_tuple_of (by rfl) T.tuple (by decide +kernel) (pa_cons (pe_callB cr_sortedTup (by rfl) T.sorted (by decide +kernel) (pa_cons (pv 6) pa_nil)) pa_nil)))
        (pss_one (ps_expr (pe_bm PySem.F.plainAttrs_list PySem.F.slot_list_append PySem.F.type_list_append mt_append (pv 3)
          (pa_cons (pe_tup (pa_cons (pv 4) (pa_cons (pe_callB (cr_sortedT rfl) (by rfl) T.sorted (by decide +kernel) (pa_cons (pe_callTy (cr_setFew rfl hr.units) (by rfl) T.set (by decide +kernel) (pa_cons (pv 5) pa_nil)) pa_nil)) pa_nil))) pa_nil))))))
      (pss_one (ps_ret (pv 3)))), ?_⟩
    refine ⟨Nat.zero_le _, fun D hD => ?_⟩
    have s0 : Same H (upd H D (.lst [])) := same_new hD
    refine ⟨_, rfl, _, rfl, a, sa, n, U, S, rfl, hw.same s0, s0 _ _ hS, fun H1 l s1 hl0 hl => ?_⟩
    have nlD : l ≠ D := fun e => by
      rw [e, upd_same] at hl0
      cases hl0
    have hD1 : H1 D = some (.lst []) := s1 _ _ upd_same
    refine ⟨l, rfl, ⟨_, SqL.of hl⟩, for_list (K := K) (a := l) (xs := (callsL n S).map V.int)
      (fun i σ H' => ∃ (y4 y5 : Option V) (xs : List V), σ = [some (.ref a), some (.ref sa), some (kd one), some (.ref D), y4, y5, none] ∧ Same H H' ∧ H' l = some (.lst ((callsL n S).map V.int)) ∧ H' D = some (.lst xs) ∧ RowIs H one U S (rmv H' D) xs ((callsL n S).take i))
      ⟨none, none, [], rfl, s0.trans s1, hl, hD1, .nil⟩ (fun i σ H' _ ⟨_, _, _, _, _, h, _⟩ => SqL.of h) ?_ ?_⟩
    · rintro i x σ H2 hx ⟨y4, y5, xs, rfl, s2, hl2, hD2, hrows⟩
      obtain ⟨c, hc, rfl⟩ := map_int_at hx
      obtain ⟨hci, hcn⟩ := mem_callsL.mp (List.mem_of_getElem? hc)
      have hil : i < n := Nat.lt_of_lt_of_le (List.getElem?_eq_some_iff.mp hc).1 (callsL_len n S)
      refine ⟨_, rfl, _, rfl, _, rfl, _, rfl, a, sa, n, g, U, S, c, one, rfl, hw.same s2, s2 _ _ hS, hst, g1, g6, hci, hcn, fun H3 la axs rows s3 hla hti hlen hm => ?_⟩
      refine ⟨la, rfl, ⟨_, SqL.of hla⟩, fun B hB => lc_list (K := K) (a := la) (xs := axs) (fun j H' => Same H3 H' ∧ ∃ zs, H' B = some (.lst zs) ∧ TIs H' zs ((rows.take j).map isort)) ⟨same_new hB, [], upd_same, .nil⟩ (fun j H' _ ⟨s4, _⟩ => SqL.of (s4 _ _ hla)) ?_ ?_⟩
      · rintro j x H4 hx ⟨s4, zs, hzs, hz⟩
        obtain ⟨row, hrow, t, rfl, ht⟩ := paired_at (hti.tk (Tk.of s4)) hx
        refine ⟨rfl, yesT ?_⟩
        refine ⟨_, rfl, t, row, rfl, ht, fun ns' p pm so np => ?_⟩
        refine ⟨p, _, rfl, .inl ⟨SqL.of upd_same, fun u nu => ?_⟩⟩
        have s5 : Same H4 (upd (upd H4 p (.lst (ns'.map V.int))) u (.tup (ns'.map V.int))) := (same_new np).trans (same_new nu)
        have hz5 := s5 _ _ hzs
        refine ⟨zs, hz5, ?_, same_wr (s4.trans s5) hB, _, upd_same, ?_⟩
        · rw [Paired.length hz, List.length_map, List.length_take, sizeLine_eq]
          omega
        · rw [take_snoc hrow, List.map_append]
          refine paired_snoc (hz.tk ((Tk.of s5).trans (Tk.wrL hz5))) (TI.tk ⟨u, rfl, ?_⟩ (Tk.wrL hz5))
          rw [upd_same, isort_unique pm so]
      · rintro H4 ⟨s4, zs, hzs, hz⟩
        rw [Paired.length hti, List.take_length] at hz
        obtain ⟨ks, ek, et, hks⟩ := ks_of hz
        have behind_st : ∀ p ∈ ks, IsSt n g p.2 ∧ Lead one U S c p.2 := fun p hp => by
          have hm2 : p.2 ∈ rows.map isort := by
            rw [et]
            exact List.mem_map.mpr ⟨p, hp, rfl⟩
          obtain ⟨row, hrow, e⟩ := List.mem_map.mp hm2
          have ha := (hm row).mp hrow
          rw [← e]
          exact ⟨ans_st hw.1 hst hcn ha, row, ha, rfl⟩
        have s24 : Same H2 H4 := s3.trans s4
        refine ⟨_, rfl, .inl ⟨rfl, _, SqL.of (s24 _ _ hD2)⟩, ?_⟩
        refine ⟨_, rfl, _, rfl, B, ks, stands n g, rfl, by rw [← ek]; exact hzs, hks, fun p hp => (mem_stands hle g6 g1).mpr (behind_st p hp).1, ?_, fun sb L nsb lsub lall => ?_⟩
        · rw [stands_len]
          have := (many_small n g hle g6).2
          omega
        have s5 : Same H4 (upd H4 sb (SetTO P w sb L)) := same_new nsb
        refine ⟨sb, L, g, 6, rfl, upd_same, fun p hp => SqT.of (s5 _ _ (hks p (lsub p hp))), g1, fun p hp => ?_, fun L' r pm nd few _ nr => ?_⟩
        · obtain ⟨h1, _⟩ := behind_st p (lsub p hp)
          refine ⟨h1.1, fun m hm => ?_⟩
          have := h1.2.2 m hm
          have h1 := this.1
          have h2 := this.2
          omega
        refine ⟨(by show 2 ≤ sizeLine; decide), fun tp ntp => ?_⟩
        have s6 : Same H4 (upd (upd (upd H4 sb (SetTO P w sb L)) r (.lst (L'.map fun q => V.ref q.1))) tp (.tup [.int c, .ref r])) := (s5.trans (same_new nr)).trans (same_new ntp)
        have s26 := s24.trans s6
        have hD6 := s26 _ _ hD2
        have hl6 := s26 _ _ hl2
        refine ⟨D, xs, _, rfl, rfl, hD6, ?_, ?_⟩
        · rw [Paired.length hrows, List.length_take]
          exact small1000 (by omega)
        · refine ⟨_, _, _, rfl, same_wr (s2.trans s26) hD, by rw [upd_ne nlD]; exact hl6, upd_same, ?_⟩
          rw [rmv_upd, take_snoc hc]
          refine paired_snoc (hrows.same (rmv_mono s26 D)) ?_
          have zr : upd H4 sb (SetTO P w sb L) D = some (.lst xs) := (s24.trans s5) _ _ hD2
          have zt : upd (upd H4 sb (SetTO P w sb L)) r (.lst (L'.map fun q => V.ref q.1)) D = some (.lst xs) := same_new nr _ _ zr
          have nrD : r ≠ D := (ne_of_none zr nr).symm
          have ntD : tp ≠ D := (ne_of_none zt ntp).symm
          have ntr : r ≠ tp := ne_of_none upd_same ntp
          have hks6 : ∀ p ∈ L', rmv (upd (upd (upd H4 sb (SetTO P w sb L)) r (.lst (L'.map fun q => V.ref q.1))) tp (.tup [.int c, .ref r])) D p.1 = some (.tup (p.2.map V.int)) := fun p hp => by
            have h1 := hks p (lsub p (pm.mem_iff.mp hp))
            have h2 : p.1 ≠ D := ne_of h1 (s24 _ _ hD2) (fun z => by cases z)
            rw [rmv_ne h2]
            exact s6 _ _ h1
          refine ⟨tp, r, _, _, rfl, by rw [rmv_ne ntD, upd_same], (s2.trans (s24.trans s5)).free nr, by rw [rmv_ne nrD, upd_ne ntr, upd_same], of_ks hks6, by rw [List.length_map]; exact few, fun S' => ?_⟩
          constructor
          · intro hS'
            obtain ⟨p, hp, e⟩ := List.mem_map.mp hS'
            rw [← e]
            exact (behind_st p (lsub p (pm.mem_iff.mp hp))).2
          · rintro ⟨row, ha, rfl⟩
            have hm2 : isort row ∈ rows.map isort := List.mem_map.mpr ⟨row, (hm row).mpr ha, rfl⟩
            rw [et] at hm2
            obtain ⟨p, hp, e⟩ := List.mem_map.mp hm2
            have hL := lall p hp
            rw [e] at hL
            exact (pm.map (·.2)).mem_iff.mpr hL
    · rintro σ H2 ⟨y4, y5, xs, rfl, s2, hl2, hD2, hrows⟩
      rw [List.length_map, List.take_length] at hrows
      exact ⟨_, rfl, q H2 D xs s2 hD hD2 (hrows.same (rmv_same H2 D))⟩
end
end GrD
namespace GrD
open PySem PySem.Spec PyProof.Rows L2 GrT GrR Gr
def tk (S : List Int) : List Key := S.map Sum.inl
theorem tk_inj {S S' : List Int} (h : tk S = tk S') : S = S' := (List.map_inj_right (f := (Sum.inl : Int → Key)) fun _ _ e => Sum.inl.inj e).mp h
theorem tk_kV (S : List Int) : (tk S).map kV = S.map V.int := kV_ints S
/-- a key of the dict -/
def KIn (kvs : List (List Key × V)) (S : List Int) : Prop := tk S ∈ kvs.map (·.1)
theorem valV_some (kvs : List (List Key × V)) (S : List Int) : (valV kvs (tk S)).isSome = true ↔ KIn kvs S := by
  unfold KIn
  cases e : valV kvs (tk S) with
  | none => exact ⟨fun h => by simp at h, fun h => absurd h (valV_not e)⟩
  | some v => exact ⟨fun _ => valV_in e, fun _ => rfl⟩
instance decKIn (kvs : List (List Key × V)) (S : List Int) : Decidable (KIn kvs S) := decidable_of_iff ((valV kvs (tk S)).isSome = true) (valV_some kvs S)
theorem valV_dec (kvs : List (List Key × V)) (S : List Int) : (valV kvs (tk S)).isSome = decide (KIn kvs S) := by
  by_cases h : KIn kvs S
  · rw [decide_eq_true h]
    exact (valV_some kvs S).mpr h
  · rw [decide_eq_false h]
    cases e : (valV kvs (tk S)).isSome with
    | false => rfl
    | true => exact absurd ((valV_some kvs S).mp e) h
theorem dget_ti {H : Hp} {d t : Addr} {kvs : List (List Key × V)} {S : List Int} (hd : Rd H d (.dT kvs)) (ht : H t = some (.tup (S.map V.int))) : DGet H d (.ref t) (valV kvs (tk S)) :=
  .inr ⟨kvs, tk S, t, hd, rfl, by rw [tk_kV]; exact ht, rfl⟩
section
variable {P : Program} {w : World} {K : PySem.W.Frag} {mg : Str → Option Value} {base : Heap} {C : Addr}
/-- falling_call -/
def spFallingCall : Sp := fun vs H Q _ => ∃ (H0 : Hp) (rl d : Addr) (T : List (Int × Int)) (S : List Int) (one : Bool) (xs : List V) (cs : List Int) (kvs : List (List Key × V)), vs = [.ref rl, .ref d] ∧ H rl = some (.lst xs) ∧ RowIs H0 one T S H xs cs ∧ H d = some (.dT kvs) ∧
  ∀ (H' : Hp) (v : V), Same H H' → ((v = .non ∧ ∀ c ∈ cs, ∃ S', Lead one T S c S' ∧ ¬ KIn kvs S') ∨ ∃ c ∈ cs, v = .int c ∧ ∀ S', Lead one T S c S' → KIn kvs S') → Q v H'
theorem ok_falling_call {f : Addr} {fd : FuncData} (F : Fun K "falling_call" "falling_call" sFallingCall f fd) (T : Txt K mg C) : FnOk P w K mg base CX0 1 f fd ["rows", "fallen"] spFallingCall := by
  refine F.ok scFallingCall (fun vs H Q E h => ?_) (fun cdv A outer s H vs Q E hr h => ?_)
  · obtain ⟨H0, rl, d, U, S, one, xs, cs, kvs, rfl, _⟩ := h
    rfl
  · obtain ⟨H0, rl, d, U, S, one, xs, cs, kvs, rfl, hrl, hrows, hd, q⟩ := h
    refine ⟨_, pss_cons (ps_for PassesOwn.never rfl (pi_list (pv 0)) (pg_tup rfl (pgs_cons (pg_name (i := 2) scFallingCall.nd rfl (.inl rfl)) (pgs_cons (pg_name (i := 3) scFallingCall.nd rfl (.inl rfl)) pgs_nil)))
        (pss_one (ps_if (pt_val (pe_callB (cr_all rfl) (by rfl) T.all (by decide +kernel) (pa_cons (pe_lc (own := [("one", 4)]) (g := gName 4) (tt := tYes) rfl scFallingCall.nd (pi_list (pv 3))
            (blkOk_by (own := [("one", 4)]) (N := ["rows", "fallen", "call", "behind", "one"]) (sc := defScope sFallingCall) (by decide +kernel))
            (fun _ _ _ _ _ => pg_name (i := 4) scFallingCall.nd rfl (.inl rfl)) (fun _ _ _ _ _ => pts_nil) (fun _ _ _ _ _ => pe_cmp (pc_din (hu_of hr) (pv 4) (pv 1)) rfl)) pa_nil)))
          (pss_one (ps_ret (pv 2))) pss_nil)))
      (pss_one (ps_ret pe_non)), ?_⟩
    refine ⟨_, rfl, rl, rfl, ⟨_, SqL.of hrl⟩, for_list (K := K) (a := rl) (xs := xs)
      (fun i σ H' => ∃ (y2 y3 : Option V), σ = [some (.ref rl), some (.ref d), y2, y3, none] ∧ Same H H' ∧ ∀ c ∈ cs.take i, ∃ S', Lead one U S c S' ∧ ¬ KIn kvs S')
      ⟨none, none, rfl, Same.refl H, fun c hc => by cases hc⟩ (fun i σ H' _ ⟨_, _, _, s1, _⟩ => SqL.of (s1 _ _ hrl)) ?_ ?_⟩
    · rintro i x σ H1 hx ⟨y2, y3, rfl, s1, hno⟩
      obtain ⟨c, hc, t, bl, bxs, bs, rfl, ht, _, hbl, hti, hb64, hm⟩ := paired_at (hrows.same s1) hx
      have hd1 := s1 _ _ hd
      refine ⟨t, _, rfl, SqT.of ht, rfl, _, _, rfl, _, _, rfl, rfl, ?_⟩
      refine ⟨_, rfl, bl, rfl, ⟨_, SqL.of hbl⟩, fun B hB => lc_list (K := K) (a := bl) (xs := bxs)
        (fun j H' => Same H1 H' ∧ H' B = some (.lst (((bs.take j).map fun S' => (valV kvs (tk S')).isSome).map V.bl))) ⟨same_new hB, upd_same⟩ (fun j H' _ ⟨s2, _⟩ => SqL.of (s2 _ _ hbl)) ?_ ?_⟩
      · rintro j y H2 hy ⟨s2, hz⟩
        obtain ⟨S', hS', u, rfl, hu⟩ := paired_at (hti.tk (Tk.of s2)) hy
        refine ⟨rfl, yesT ?_⟩
        refine ⟨_, rfl, _, rfl, d, _, rfl, dget_ti (.inl (s2 _ _ hd1)) hu, _, hz, ?_, same_wr s2 hB, ?_⟩
        · rw [List.length_map, List.length_map, List.length_take]
          refine small1000 ?_
          omega
        · rw [upd_same, take_snoc hS', List.map_append, List.map_append]
          rfl
      · rintro H2 ⟨s2, hz⟩
        rw [Paired.length hti, List.take_length] at hz
        refine ⟨B, _, rfl, SqL.of hz, _, rfl, ?_⟩
        refine ite2 (fun e => ?_) (fun e => ?_)
        · refine ⟨_, rfl, q H2 _ (s1.trans s2) (.inr ⟨c, List.mem_of_getElem? hc, rfl, fun S' hl => ?_⟩)⟩
          have h1 := List.all_eq_true.mp e _ (List.mem_map.mpr ⟨S', (hm S').mpr hl, rfl⟩)
          exact (valV_some kvs S').mp h1
        · refine ⟨_, _, rfl, s1.trans s2, fun c' hc' => ?_⟩
          rw [take_snoc hc] at hc'
          rcases List.mem_append.mp hc' with z | z
          · exact hno c' z
          · rw [List.mem_singleton.mp z]
            refine Classical.byContradiction fun hn => e (List.all_eq_true.mpr fun b hb => ?_)
            obtain ⟨S', hS', rfl⟩ := List.mem_map.mp hb
            refine Classical.byContradiction fun hk => hn ⟨S', (hm S').mp hS', fun z => hk ((valV_some kvs S').mpr z)⟩
    · rintro σ H1 ⟨y2, y3, rfl, s1, hno⟩
      rw [Paired.length hrows, List.take_length] at hno
      exact q H1 _ s1 (.inl ⟨rfl, hno⟩)
end
end GrD
namespace Gr
theorem stands_nodup : ∀ n, n ≤ 6 → ∀ g, g ≤ 6 → 1 ≤ g → (stands n g).Nodup := by decide +kernel
end Gr
namespace GrD
open PySem PySem.Spec PyProof.Rows L2 GrT GrR Gr
/-- what rounds_of keeps of a standing -/
def LeftI (one : Bool) (T : List (Int × Int)) (n : Nat) (H : Hp) (x : V) (S : List Int) : Prop := ∃ (t st rl : Addr) (xs : List V), x = .ref t ∧ H t = some (.tup [.ref st, .ref rl]) ∧ H st = some (.tup (S.map V.int)) ∧ H rl = some (.lst xs) ∧ RowIs nil0 one T S H xs (callsL n S)
theorem LeftI.same {one : Bool} {T : List (Int × Int)} {n : Nat} {H H' : Hp} {x : V} {S : List Int} (h : LeftI one T n H x S) (s : Same H H') : LeftI one T n H' x S := by
  obtain ⟨t, st, rl, xs, e, h1, h2, h3, h4⟩ := h
  exact ⟨t, st, rl, xs, e, s _ _ h1, s _ _ h2, s _ _ h3, h4.same s⟩
abbrev LeftIs (one : Bool) (T : List (Int × Int)) (n : Nat) (H : Hp) (xs : List V) (ss : List (List Int)) : Prop := Paired (LeftI one T n H) xs ss
theorem LeftIs.same {one : Bool} {T : List (Int × Int)} {n : Nat} {H H' : Hp} {xs : List V} {ss : List (List Int)} (h : LeftIs one T n H xs ss) (s : Same H H') : LeftIs one T n H' xs ss := Paired.mapP h fun _ _ q => q.same s
/-- an entry of fallen: a standing with a pair of its round and its call -/
def Ent (n g : Nat) (H : Hp) (p : List Key × V) : Prop := ∃ (S : List Int) (t : Addr) (r c : Int), p = (tk S, .ref t) ∧ IsSt n g S ∧ H t = some (.tup [.int r, .int c])
theorem Ent.tk {n g : Nat} {H H' : Hp} {p : List Key × V} (h : Ent n g H p) (k : Tk H H') : Ent n g H' p := by
  obtain ⟨S, t, r, c, e, h1, h2⟩ := h
  exact ⟨S, t, r, c, e, h1, k _ _ h2⟩
/-- fallen as it stands between two turns -/
structure Fal (one : Bool) (n : Nat) (T : List (Int × Int)) (g : Nat) (H : Hp) (kvs : List (List Key × V)) : Prop where
  nd : (kvs.map (·.1)).Nodup
  ent : ∀ p ∈ kvs, Ent n g H p
  bad : ∀ S, KIn kvs S → ¬ Lasts one n T g S
theorem Fal.tk {one : Bool} {n : Nat} {T : List (Int × Int)} {g : Nat} {H H' : Hp} {kvs : List (List Key × V)} (h : Fal one n T g H kvs) (k : Tk H H') : Fal one n T g H' kvs := ⟨h.nd, fun p hp => (h.ent p hp).tk k, h.bad⟩
theorem Fal.len {one : Bool} {n : Nat} {T : List (Int × Int)} {g : Nat} {H : Hp} {kvs : List (List Key × V)} (h : Fal one n T g H kvs) (hn : n ≤ 6) (hg : g ≤ 6) (h1 : 1 ≤ g) : kvs.length ≤ 20 := by
  have q := nodup_sub_len (kvs.map (·.1)) ((stands n g).map GrD.tk) h.nd fun k hk => by
    obtain ⟨p, hp, e⟩ := List.mem_map.mp hk
    obtain ⟨S, t, r, c, ep, hst, _⟩ := h.ent p hp
    rw [← e, ep]
    exact List.mem_map.mpr ⟨S, (mem_stands hn hg h1).mpr hst, rfl⟩
  rw [List.length_map, List.length_map, stands_len] at q
  exact Nat.le_trans q (many_small n g hn hg).2
/-- no standing falls any more -/
def Fix (one : Bool) (n : Nat) (T : List (Int × Int)) (g : Nat) (kvs : List (List Key × V)) : Prop := ∀ S, IsSt n g S → KIn kvs S ∨ ∀ c ∈ callsL n S, ∃ S', Lead one T S c S' ∧ ¬ KIn kvs S'
theorem fix_lasts {one : Bool} {n : Nat} {T : List (Int × Int)} {g : Nat} {kvs : List (List Key × V)} (W : WebOk n T) (f : Fix one n T g kvs) {S : List Int} (hS : IsSt n g S) (hk : ¬ KIn kvs S) : Lasts one n T g S := by
  refine ⟨fun S => IsSt n g S ∧ ¬ KIn kvs S, fun S h => ⟨h.1, fun c hc hn => ?_⟩, hS, hk⟩
  rcases f S h.1 with z | z
  · exact absurd z h.2
  · obtain ⟨S', h1, h2⟩ := z c (mem_callsL.mpr ⟨hc, hn⟩)
    refine ⟨S', h1, ?_, h2⟩
    obtain ⟨row, ha, rfl⟩ := h1
    exact ans_st W h.1 hn ha
theorem KIn_app {a b : List (List Key × V)} {S : List Int} : KIn (a ++ b) S ↔ KIn a S ∨ KIn b S := by
  unfold KIn
  rw [List.map_append, List.mem_append]
theorem valV_none {kvs : List (List Key × V)} {S : List Int} (h : ¬ KIn kvs S) : valV kvs (GrD.tk S) = none := by
  cases e : valV kvs (GrD.tk S) with
  | none => rfl
  | some v => exact absurd ((valV_some kvs S).mp (by rw [e]; rfl)) h
theorem not_take {α : Type} {l : List α} (nd : l.Nodup) {j : Nat} {x : α} (h : l[j]? = some x) : x ∉ l.take j := fun hm => by
  obtain ⟨i, hi⟩ := List.getElem?_of_mem hm
  have hij : i < j := by
    have := (List.getElem?_eq_some_iff.mp hi).1
    rw [List.length_take] at this
    omega
  rw [List.getElem?_take_of_lt hij] at hi
  have e : i = j := nd_ix nd hi h
  omega
/-- fresh as it grows -/
structure Frs (one : Bool) (n : Nat) (T : List (Int × Int)) (g : Nat) (kvs : List (List Key × V)) (j : Nat) (H : Hp) (fk : List (List Key × V)) : Prop where
  nd : (fk.map (·.1)).Nodup
  ent : ∀ p ∈ fk, ∃ (S : List Int) (t : Addr) (r c : Int), p = (GrD.tk S, .ref t) ∧ S ∈ (stands n g).take j ∧ H t = some (.tup [.int r, .int c])
  bad : ∀ S, KIn fk S → ¬ KIn kvs S ∧ ∃ c, Inn n c ∧ c ∉ S ∧ ∀ S', Lead one T S c S' → KIn kvs S'
  cov : ∀ S, S ∈ (stands n g).take j → KIn kvs S ∨ KIn fk S ∨ ∀ c ∈ callsL n S, ∃ S', Lead one T S c S' ∧ ¬ KIn kvs S'
theorem Frs.tk {one : Bool} {n : Nat} {T : List (Int × Int)} {g : Nat} {kvs fk : List (List Key × V)} {j : Nat} {H H' : Hp} (h : Frs one n T g kvs j H fk) (k : Tk H H') : Frs one n T g kvs j H' fk :=
  ⟨h.nd, fun p hp => by
    obtain ⟨S, t, r, c, e, h1, h2⟩ := h.ent p hp
    exact ⟨S, t, r, c, e, h1, k _ _ h2⟩, h.bad, h.cov⟩
theorem Frs.len {one : Bool} {n : Nat} {T : List (Int × Int)} {g : Nat} {kvs fk : List (List Key × V)} {j : Nat} {H : Hp} (h : Frs one n T g kvs j H fk) (hn : n ≤ 6) (hg : g ≤ 6) : fk.length ≤ 20 := by
  have q := nodup_sub_len (fk.map (·.1)) ((stands n g).map GrD.tk) h.nd fun k hk => by
    obtain ⟨p, hp, e⟩ := List.mem_map.mp hk
    obtain ⟨S, t, r, c, ep, hst, _⟩ := h.ent p hp
    rw [← e, ep]
    exact List.mem_map.mpr ⟨S, List.mem_of_mem_take hst, rfl⟩
  rw [List.length_map, List.length_map, stands_len] at q
  exact Nat.le_trans q (many_small n g hn hg).2
theorem KIn_one {p : List Key × V} {S : List Int} : KIn [p] S ↔ GrD.tk S = p.1 := by
  unfold KIn
  rw [List.map_cons, List.map_nil, List.mem_singleton]
section
variable {P : Program} {w : World} {K : PySem.W.Frag} {mg : Str → Option Value} {base : Heap} {C : Addr}
/-- rounds_of -/
def spRoundsOf (C : Addr) : Sp := fun vs H Q _ => ∃ (a : Addr) (n g : Nat) (T : List (Int × Int)) (one : Bool), vs = [.ref a, .int (g : Int), kd one] ∧ WebAt C H a n T ∧ 1 ≤ g ∧ g ≤ n ∧
  ∀ (H' : Hp) (d : Addr) (kvs : List (List Key × V)), Same H H' → H' d = some (.dT kvs) → Fal one n T g H' kvs → (∀ S, IsSt n g S → ¬ KIn kvs S → Lasts one n T g S) → Q (.ref d) H'
theorem ok_rounds_of {f : Addr} {fd : FuncData} (F : Fun K "rounds_of" "rounds_of" sRoundsOf f fd) (T : Txt K mg C) (GS : Good P w K mg base 3 "standings" ["web", "guards"] (spStandings C)) (GL : Good P w K mg base 6 "led_to" ["web", "standing", "kind"] (spLedTo C))
    (GF : Good P w K mg base 1 "falling_call" ["rows", "fallen"] spFallingCall) : FnOk P w K mg base CX0 7 f fd ["web", "guards", "kind"] (spRoundsOf C) := by
  refine F.ok scRoundsOf (fun vs H Q E h => ?_) (fun cdv A outer s H vs Q E hr h => ?_)
  · obtain ⟨a, n, g, U, one, rfl, _⟩ := h
    rfl
  · obtain ⟨a, n, g, U, one, rfl, hw, g1, gn, q⟩ := h
    have hle := hw.1.le
    have hu := hu_of hr
    refine ⟨_, pss_cons (ps_set (i := 3) scRoundsOf.nd rfl (.inl rfl) (pe_lst pa_nil))
      (pss_cons (ps_for PassesOwn.never rfl (pi_list (pe_go GS (hr.mono (by decide)) (by rfl) (pa_cons (pv 0) (pa_cons (pv 1) pa_nil)))) (pg_name (i := 4) scRoundsOf.nd rfl (.inl rfl))
        (pss_one (ps_expr (pe_bm PySem.F.plainAttrs_list PySem.F.slot_list_append PySem.F.type_list_append mt_append (pv 3)
          (pa_cons (pe_tup (pa_cons (pv 4) (pa_cons (pe_go GL hr (by rfl) (pa_cons (pv 0) (pa_cons (pv 4) (pa_cons (pv 2) pa_nil)))) pa_nil))) pa_nil)))))
      (pss_cons (ps_set (i := 5) scRoundsOf.nd rfl (.inl rfl) pe_dnewT)
      (pss_cons (ps_set (i := 6) scRoundsOf.nd rfl (.inl rfl) pe_int)
      (pss_cons (ps_set (i := 7) scRoundsOf.nd rfl (.inl rfl) (pe_un un_neg pe_int))
      (pss_cons (ps_while PassesOwn.never (pt_cmpR op_gt (pe_callB call_len_dT (by rfl) T.len PySem.boot_len (pa_cons (pv 5) pa_nil)) (pv 7) (nomark _))
        (pss_cons (ps_set (i := 7) scRoundsOf.nd rfl (.inl rfl) (pe_callB call_len_dT (by rfl) T.len PySem.boot_len (pa_cons (pv 5) pa_nil)))
        (pss_cons (ps_aug (i := 6) scRoundsOf.nd rfl (.inl rfl) pe_int ip_add)
        (pss_cons (ps_set (i := 8) scRoundsOf.nd rfl (.inl rfl) pe_dnewT)
        (pss_cons (ps_for PassesOwn.never rfl (pi_list (pv 3)) (pg_tup rfl (pgs_cons (pg_name (i := 4) scRoundsOf.nd rfl (.inl rfl)) (pgs_cons (pg_name (i := 9) scRoundsOf.nd rfl (.inl rfl)) pgs_nil)))
          (pss_cons (ps_set (i := 10) scRoundsOf.nd rfl (.inl rfl) (pe_go GF (hr.mono (by decide)) (by rfl) (pa_cons (pv 9) (pa_cons (pv 5) pa_nil))))
          (pss_one (ps_if (PW.pt (pw_and (pt_cmp (pc_dnotin hu (pv 4) (pv 5))) (pw_and1 (pt_cmp (pc_notN (pv 10))))))
            (pss_one (ps_dput hu (pv 8) (pv 4) (pe_tup (pa_cons (pv 6) (pa_cons (pv 10) pa_nil))) rfl)) pss_nil))))
        (pss_one (ps_lock (ps_for PassesOwn.never rfl (pi_keys (pv 8)) (pg_name (i := 4) scRoundsOf.nd rfl (.inl rfl))
          (pss_one (ps_dput hu (pv 5) (pv 4) (pe_dget hu (pv 8) (pv 4) (fun _ _ => rfl)) rfl))))))))))
      (pss_one (ps_ret (pv 5)))))))), ?_⟩
    refine ⟨Nat.zero_le _, fun Lf hLf => ?_⟩
    have s0 : Same H (upd H Lf (.lst [])) := same_new hLf
    refine ⟨_, rfl, _, rfl, a, n, g, U, rfl, hw.same s0, g1, gn, fun H1 l xs s1 hl0 hl hti => ?_⟩
    have nlL : l ≠ Lf := fun e => by
      rw [e, upd_same] at hl0
      cases hl0
    refine ⟨l, rfl, ⟨_, SqL.of hl⟩, for_list (K := K) (a := l) (xs := xs)
      (fun i σ H' => ∃ (y4 : Option V) (ls : List V), σ = [some (.ref a), some (.int (g : Int)), some (kd one), some (.ref Lf), y4, none, none, none, none, none, none] ∧ Same H H' ∧ H' l = some (.lst xs) ∧ TIs H' xs (stands n g) ∧ H' Lf = some (.lst ls) ∧ LeftIs one U n (rmv H' Lf) ls ((stands n g).take i))
      ⟨none, [], rfl, s0.trans s1, hl, hti, s1 _ _ upd_same, .nil⟩ (fun i σ H' _ ⟨_, _, _, _, h, _⟩ => SqL.of h) ?_ ?_⟩
    · rintro i x σ H2 hx ⟨y4, ls, rfl, s2, hl2, hti2, hL2, hls⟩
      obtain ⟨S, hS, st, rfl, hst⟩ := paired_at hti2 hx
      have hSst : IsSt n g S := (mem_stands hle (by omega) g1).mp (List.mem_of_getElem? hS)
      have him : i < many n g := by
        have := (List.getElem?_eq_some_iff.mp hS).1
        rw [stands_len] at this
        exact this
      have m20 := (many_small n g hle (by omega)).2
      refine ⟨_, rfl, .inl ⟨rfl, _, SqL.of hL2⟩, _, rfl, ?_⟩
      refine ⟨_, rfl, _, rfl, _, rfl, a, st, n, g, U, S, one, rfl, hw.same s2, hst, hSst, g1, by omega, fun H3 rl rxs s3 hrl0 hrl hrows => ?_⟩
      refine ⟨(by show 2 ≤ sizeLine; decide), fun tp ntp => ?_⟩
      have s23 : Same H2 (upd H3 tp (.tup [.ref st, .ref rl])) := s3.trans (same_new ntp)
      have hL3 := s3 _ _ hL2
      have hL4 := s23 _ _ hL2
      have ntL : tp ≠ Lf := (ne_of_none hL3 ntp).symm
      have nrL : rl ≠ Lf := (ne_of_none hL2 hrl0).symm
      have nsL : st ≠ Lf := ne_of hst hL2 fun z => by cases z
      refine ⟨Lf, ls, _, rfl, rfl, hL4, ?_, ?_⟩
      · rw [Paired.length hls, List.length_take]
        exact small1000 (by omega)
      · refine ⟨_, _, rfl, same_wr (s2.trans s23) hLf, by rw [upd_ne nlL]; exact s23 _ _ hl2, hti2.tk ((Tk.of s23).trans (Tk.wrL hL4)), upd_same, ?_⟩
        rw [rmv_upd, take_snoc hS]
        refine paired_snoc (hls.same (rmv_mono s23 Lf)) ?_
        refine ⟨tp, st, rl, rxs, rfl, by rw [rmv_ne ntL, upd_same], by rw [rmv_ne nsL]; exact s23 _ _ hst, by rw [rmv_ne nrL]; exact same_new ntp _ _ hrl, ?_⟩
        exact (hrows.off hL2 hL3).same (rmv_mono (same_new ntp) Lf)
    · rintro σ H2 ⟨y4, ls, rfl, s2, hl2, hti2, hL2, hls0⟩
      rw [Paired.length hti2, List.take_length] at hls0
      have hls : LeftIs one U n H2 ls (stands n g) := hls0.same (rmv_same H2 Lf)
      intro d hd
      have nd20 : (stands n g).Nodup := stands_nodup n hle g (by omega) g1
      refine ⟨_, rfl, ?_⟩
      refine ⟨fun m σ H' => ∃ (nw mn : Int) (kvs : List (List Key × V)) (y4 y8 y9 y10 : Option V), σ = [some (.ref a), some (.int (g : Int)), some (kd one), some (.ref Lf), y4, some (.ref d), some (.int nw), some (.int mn), y8, y9, y10] ∧ m = (20 - mn).toNat ∧
        Same H2 H' ∧ H' d = some (.dT kvs) ∧ Fal one n U g H' kvs ∧ ((kvs.length : Int) ≤ mn → Fix one n U g kvs),
        ⟨_, 0, -1, [], y4, none, none, none, rfl, rfl, same_new hd, upd_same, ⟨List.nodup_nil, fun p hp => (by cases hp), fun S hS => (by cases hS)⟩, fun h => ?_⟩, ?_⟩
      · have z : ((([] : List (List Key × V)).length : Nat) : Int) ≤ -1 := h
        rw [List.length_nil] at z
        omega
      rintro m σ Hc ⟨nw, mn, kvs, y4, y8, y9, y10, rfl, rfl, sc, hdc, fal, hfix⟩
      have hl20 := fal.len hle (by omega) g1
      refine ⟨_, rfl, d, kvs, rfl, hdc, _, rfl, _, _, rfl, rfl, _, rfl, ite2 (fun e => ?_) (fun e => ?_)⟩
      · have hgt : ((kvs.length : Nat) : Int) > mn := of_decide_eq_true e
        refine ⟨fun σ' H' => ∃ (nw' : Int) (kvs' : List (List Key × V)) (y4 y8 y9 y10 : Option V), σ' = [some (.ref a), some (.int (g : Int)), some (kd one), some (.ref Lf), y4, some (.ref d), some (.int nw'), some (.int ((kvs.length : Nat) : Int)), y8, y9, y10] ∧
          Same H2 H' ∧ H' d = some (.dT kvs') ∧ Fal one n U g H' kvs' ∧ (((kvs'.length : Nat) : Int) ≤ ((kvs.length : Nat) : Int) → Fix one n U g kvs'), fun σ' H' h => ?_, ?_⟩
        · obtain ⟨nw', kvs', z4, z8, z9, z10, e1, e2, e3, e4, e5⟩ := h
          exact ⟨_, by omega, nw', _, kvs', z4, z8, z9, z10, e1, rfl, e2, e3, e4, e5⟩
        refine ⟨_, rfl, d, kvs, rfl, hdc, ?_⟩
        refine ⟨_, rfl, _, _, rfl, rfl, ?_⟩
        intro fr hfr
        have nfd : d ≠ fr := ne_of_none hdc hfr
        have sf : Same Hc (upd Hc fr (.dT [])) := same_new hfr
        refine ⟨_, rfl, Lf, rfl, ⟨_, SqL.of (sf _ _ (sc _ _ hL2))⟩, for_list (K := K) (a := Lf) (xs := ls)
          (fun j σ H' => ∃ (fk : List (List Key × V)) (y4 y9 y10 : Option V), σ = [some (.ref a), some (.int (g : Int)), some (kd one), some (.ref Lf), y4, some (.ref d), some (.int (nw + 1)), some (.int ((kvs.length : Nat) : Int)), some (.ref fr), y9, y10] ∧
            Same Hc H' ∧ H' fr = some (.dT fk) ∧ Frs one n U g kvs j H' fk)
          ⟨[], y4, y9, y10, rfl, sf, upd_same, List.nodup_nil, fun p hp => (by cases hp), fun S hS => (by cases hS), fun S hS => (by cases hS)⟩ (fun j σ H' _ ⟨_, _, _, _, _, s3, _⟩ => SqL.of (s3 _ _ (sc _ _ hL2))) ?_ ?_⟩
        · rintro j x σ H3 hx ⟨fk, z4, z9, z10, rfl, s3, hfr3, frs⟩
          obtain ⟨S, hS, t, st, rl, rxs, rfl, ht, hst, hrl, hrows⟩ := paired_at (hls.same (sc.trans s3)) hx
          have hfl := frs.len hle (by omega)
          have hSt : S ∉ (stands n g).take j := not_take nd20 hS
          have hSf : ¬ KIn fk S := fun z => by
            obtain ⟨p, hp, ep⟩ := List.mem_map.mp z
            obtain ⟨S', t', r', c', e', h1, _⟩ := frs.ent p hp
            rw [e'] at ep
            have e2 : S' = S := tk_inj ep
            rw [e2] at h1
            exact hSt h1
          refine ⟨t, _, rfl, SqT.of ht, rfl, _, _, rfl, _, _, rfl, rfl, ?_⟩
          refine ⟨_, rfl, _, rfl, nil0, rl, d, U, S, one, rxs, callsL n S, kvs, rfl, hrl, hrows, s3 _ _ hdc, fun H4 v s4 hv => ?_⟩
          have s34 := s3.trans s4
          have hfr4 := s4 _ _ hfr3
          refine ⟨_, rfl, _, rfl, d, _, rfl, dget_ti (.inl (s34 _ _ hdc)) (s4 _ _ hst), _, rfl, ?_⟩
          rw [valV_dec]
          by_cases hk : KIn kvs S
          · rw [decide_eq_true hk]
            refine iteF (iteF ⟨fk, _, _, _, rfl, s34, hfr4, frs.nd, fun p hp => ?_, frs.bad, fun S' hS' => ?_⟩)
            · obtain ⟨S', t', r', c', e', h1, h2⟩ := frs.ent p hp
              refine ⟨S', t', r', c', e', ?_, s4 _ _ h2⟩
              rw [take_snoc hS]
              exact List.mem_append_left _ h1
            · rw [take_snoc hS] at hS'
              rcases List.mem_append.mp hS' with z | z
              · exact frs.cov S' z
              · rw [List.mem_singleton.mp z]
                exact .inl hk
          · rw [decide_eq_false hk]
            refine iteT ⟨_, rfl, _, rfl, ?_⟩
            rcases hv with ⟨rfl, hno⟩ | ⟨c, hc, rfl, hyes⟩
            · rw [decide_eq_true (rfl : V.non = V.non)]
              refine iteF ⟨fk, _, _, _, rfl, s34, hfr4, frs.nd, fun p hp => ?_, frs.bad, fun S' hS' => ?_⟩
              · obtain ⟨S', t', r', c', e', h1, h2⟩ := frs.ent p hp
                refine ⟨S', t', r', c', e', ?_, s4 _ _ h2⟩
                rw [take_snoc hS]
                exact List.mem_append_left _ h1
              · rw [take_snoc hS] at hS'
                rcases List.mem_append.mp hS' with z | z
                · exact frs.cov S' z
                · rw [List.mem_singleton.mp z]
                  exact .inr (.inr hno)
            · rw [decide_eq_false (show ¬ V.int c = V.non from fun z => by cases z)]
              refine iteT ?_
              refine ⟨_, rfl, _, rfl, (by show 2 ≤ sizeLine; decide), fun tp ntp => ?_⟩
              have s5 : Same H4 (upd H4 tp (.tup [.int (nw + 1), .int c])) := same_new ntp
              have hst5 : upd H4 tp (.tup [.int (nw + 1), .int c]) st = some (.tup ((GrD.tk S).map kV)) := by
                rw [tk_kV]
                exact s5 _ _ (s4 _ _ hst)
              refine ⟨_, rfl, _, rfl, fr, _, rfl, DPut.t (s5 _ _ hfr4) hst5 (small1000 (by omega)), ?_⟩
              rw [putK_new (.ref tp) (valV_none hSf)]
              have k5 : Tk H3 (upd (upd H4 tp (.tup [.int (nw + 1), .int c])) fr (.dT (fk ++ [(GrD.tk S, .ref tp)]))) := (Tk.of (s4.trans s5)).trans (Tk.wr (s5 _ _ hfr4) fun _ z => by cases z)
              have ntf : tp ≠ fr := (ne_of_none hfr4 ntp).symm
              obtain ⟨hci, hcn⟩ := mem_callsL.mp hc
              refine ⟨_, _, _, _, rfl, same_wr (s34.trans s5) hfr, upd_same, ?_, fun p hp => ?_, fun S' hS' => ?_, fun S' hS' => ?_⟩
              · rw [List.map_append]
                refine List.nodup_append.mpr ⟨frs.nd, List.nodup_cons.mpr ⟨by simp, List.nodup_nil⟩, fun x hx y hy e => ?_⟩
                have ey : y = GrD.tk S := by simpa using hy
                rw [e, ey] at hx
                exact hSf hx
              · rw [take_snoc hS]
                rcases List.mem_append.mp hp with z | z
                · obtain ⟨S', t', r', c', e', h1, h2⟩ := frs.ent p z
                  exact ⟨S', t', r', c', e', List.mem_append_left _ h1, k5 _ _ h2⟩
                · rw [List.mem_singleton.mp z]
                  exact ⟨S, tp, _, _, rfl, List.mem_append_right _ (List.mem_singleton.mpr rfl), by rw [upd_ne ntf, upd_same]⟩
              · rcases KIn_app.mp hS' with z | z
                · exact frs.bad S' z
                · have e2 : S' = S := tk_inj (KIn_one.mp z)
                  rw [e2]
                  exact ⟨hk, c, hci, hcn, hyes⟩
              · rw [take_snoc hS] at hS'
                rcases List.mem_append.mp hS' with z | z
                · rcases frs.cov S' z with y | y | y
                  · exact .inl y
                  · exact .inr (.inl (KIn_app.mpr (.inl y)))
                  · exact .inr (.inr y)
                · rw [List.mem_singleton.mp z]
                  exact .inr (.inl (KIn_app.mpr (.inr (KIn_one.mpr rfl))))
        · rintro σ H3 ⟨fk, z4, z9, z10, rfl, s3, hfr3, frs⟩
          rw [Paired.length hls] at frs
          have hfl := frs.len hle (by omega)
          have stands_of : ∀ S, S ∈ (stands n g).take (stands n g).length ↔ IsSt n g S := fun S => by
            rw [List.take_length]
            exact mem_stands hle (by omega) g1
          have hdc3 := s3 _ _ hdc
          refine ⟨fr, _, hfr3, trivial, fun od => ?_⟩
          have hdk : upd H3 fr (.frz od (.dT fk)) d = some (.dT kvs) := by
            rw [upd_ne nfd]
            exact hdc3
          refine ⟨_, rfl, fr, od, rfl, .inr ⟨fk, upd_same, fun i m σ H' => m = fk.length - i ∧ i ≤ fk.length ∧ ∃ y4 : Option V, σ = [some (.ref a), some (.int (g : Int)), some (kd one), some (.ref Lf), y4, some (.ref d), some (.int (nw + 1)), some (.int ((kvs.length : Nat) : Int)), some (.ref fr), z9, z10] ∧
            H' fr = some (.frz od (.dT fk)) ∧ H' d = some (.dT (kvs ++ fk.take i)) ∧ Same (rmv (upd H3 fr (.frz od (.dT fk))) d) H',
            ⟨_, rfl, Nat.zero_le _, z4, rfl, upd_same, by rw [List.take_zero, List.append_nil]; exact hdk, rmv_same _ d⟩, ?_⟩⟩
          rintro i m σ H5 ⟨rfl, hi, w4, rfl, hfr5, hd5, s5⟩
          by_cases hlt : i < fk.length
          · refine .inr ⟨⟨hfr5, hlt⟩, fun σ' H' => i + 1 ≤ fk.length ∧ ∃ y4 : Option V, σ' = [some (.ref a), some (.int (g : Int)), some (kd one), some (.ref Lf), y4, some (.ref d), some (.int (nw + 1)), some (.int ((kvs.length : Nat) : Int)), some (.ref fr), z9, z10] ∧
              H' fr = some (.frz od (.dT fk)) ∧ H' d = some (.dT (kvs ++ fk.take (i + 1))) ∧ Same (rmv (upd H3 fr (.frz od (.dT fk))) d) H',
              fun σ' H' h => ⟨fk.length - (i + 1), by omega, rfl, h⟩, fun x H' y => ?_⟩
            obtain ⟨rfl, k, v, qa, hkv, rfl, hqa⟩ := y
            have hmem := List.mem_of_getElem? hkv
            have hvv : valV fk k = some v := val_nodup frs.nd (k, v) hmem
            obtain ⟨S, t, r, c, ep, hSm, ht⟩ := frs.ent (k, v) hmem
            have ek : k = GrD.tk S := congrArg Prod.fst ep
            have hSf : KIn fk S := by
              unfold KIn
              rw [← ek]
              exact List.mem_map.mpr ⟨_, hmem, rfl⟩
            have hnew : ¬ KIn (kvs ++ fk.take i) S := fun z => by
              rcases KIn_app.mp z with z | z
              · exact (frs.bad S hSf).1 z
              · have nd2 := not_take frs.nd (j := i) (x := GrD.tk S) (by rw [List.getElem?_map, hkv, ← ek]; rfl)
                unfold KIn at z
                rw [List.map_take] at z
                exact nd2 z
            have hg : DGet H' fr (.ref qa) (some v) := .inr ⟨fk, k, qa, .inr ⟨od, hfr5⟩, rfl, hqa, hvv.symm⟩
            refine ⟨_, rfl, _, rfl, fr, v, rfl, hg, _, rfl, _, rfl, d, _, rfl, DPut.t hd5 hqa (small1000 ?_), ?_⟩
            · rw [List.length_append, List.length_take]
              omega
            · refine ⟨hlt, some (.ref qa), rfl, by rw [upd_ne nfd.symm]; exact hfr5, ?_, fun b o hb => ?_⟩
              · have hn : valV (kvs ++ fk.take i) k = none := by
                  rw [ek]
                  exact valV_none hnew
                rw [upd_same, putK_new v hn, take_snoc hkv, List.append_assoc]
              · have nb : b ≠ d := fun z => by
                  unfold rmv at hb
                  rw [if_pos z] at hb
                  cases hb
                rw [upd_ne nb]
                exact s5 b o hb
          · have ei : i = fk.length := by omega
            rw [ei, List.take_length] at hd5
            refine .inl ⟨⟨hfr5, by omega⟩, hfr5, ?_⟩
            have s25 : Same H2 (upd H5 fr (.dT fk)) := fun b o hb => by
              have nbd : b ≠ d := ne_of_none hb hd
              have nbf : b ≠ fr := ne_of_none (sc _ _ hb) hfr
              rw [upd_ne nbf]
              refine s5 b o ?_
              rw [rmv_ne nbd, upd_ne nbf]
              exact (sc.trans s3) _ _ hb
            have k35 : Tk H3 (upd H5 fr (.dT fk)) := fun b xs hb => by
              have nbd : b ≠ d := ne_of hb hdc3 fun z => by cases z
              have nbf : b ≠ fr := ne_of hb hfr3 fun z => by cases z
              rw [upd_ne nbf]
              refine s5 b _ ?_
              rw [rmv_ne nbd, upd_ne nbf]
              exact hb
            refine ⟨nw + 1, kvs ++ fk, w4, some (.ref fr), z9, z10, rfl, s25, by rw [upd_ne nfd]; exact hd5, ⟨?_, fun p hp => ?_, fun S hS => ?_⟩, fun hlen S hS => ?_⟩
            · rw [List.map_append]
              refine List.nodup_append.mpr ⟨fal.nd, frs.nd, fun x hx y hy e => ?_⟩
              obtain ⟨p, hp, ep⟩ := List.mem_map.mp hy
              obtain ⟨S, t, r, c, e', hSm, ht⟩ := frs.ent p hp
              rw [e'] at ep
              have hSf : KIn fk S := by
                unfold KIn
                rw [show GrD.tk S = y from ep]
                exact hy
              refine (frs.bad S hSf).1 ?_
              unfold KIn
              rw [show GrD.tk S = y from ep, ← e]
              exact hx
            · rcases List.mem_append.mp hp with z | z
              · exact ((fal.ent p z).tk (Tk.of s3)).tk k35
              · obtain ⟨S, t, r, c, e', hSm, ht⟩ := frs.ent p z
                exact ⟨S, t, r, c, e', (stands_of S).mp hSm, k35 _ _ ht⟩
            · rcases KIn_app.mp hS with z | z
              · exact fal.bad S z
              · obtain ⟨_, c, hci, hcn, hall⟩ := frs.bad S z
                exact not_lasts hci hcn fun S' hl => fal.bad S' (hall S' hl)
            · rw [List.length_append] at hlen
              have e0 : fk = [] := List.eq_nil_of_length_eq_zero (by omega)
              rw [e0, List.append_nil]
              rcases frs.cov S ((stands_of S).mpr hS) with z | z | z
              · exact .inl z
              · rw [e0] at z
                cases z
              · exact .inr z
      · have hle' : ((kvs.length : Nat) : Int) ≤ mn := by
          have z : ¬ ((kvs.length : Nat) : Int) > mn := fun z => e (decide_eq_true z)
          omega
        exact ⟨_, rfl, q Hc d kvs (s2.trans sc) hdc fal fun S hS hk => fix_lasts hw.1 (hfix hle') hS hk⟩
end
end GrD
namespace GrD
open PySem PySem.Spec PyProof.Rows L2 GrT GrR Gr
/-! ### tuples of ints, and lists of them, as data -/
def tD (S : List Int) : PyData := .tuple (S.map PyData.int)
theorem ints_lay : ∀ S : List Int, PyData.canLayAll0 (S.map PyData.int) = true
  | [] => by simp [PyData.canLayAll0]
  | x :: S => by simp [PyData.canLayAll0, PyData.canLay0, ints_lay S]
theorem ints_depth : ∀ S : List Int, PyData.depthAll (S.map PyData.int) ≤ 1
  | [] => by simp [PyData.depthAll]
  | x :: S => by
    have := ints_depth S
    simp only [List.map_cons, PyData.depthAll, PyData.depth]
    omega
theorem tD_lay (S : List Int) : (tD S).canLay0 = true := by simp [tD, PyData.canLay0, ints_lay S]
theorem tD_depth (S : List Int) : (tD S).depth ≤ 2 := by
  have := ints_depth S
  simp only [tD, PyData.depth]
  omega
theorem tDs_lay : ∀ ss : List (List Int), PyData.canLayAll0 (ss.map tD) = true
  | [] => by simp [PyData.canLayAll0]
  | S :: ss => by simp [PyData.canLayAll0, tD_lay S, tDs_lay ss]
theorem tDs_depth : ∀ ss : List (List Int), PyData.depthAll (ss.map tD) ≤ 2
  | [] => by simp [PyData.depthAll]
  | S :: ss => by
    have h1 := tDs_depth ss
    have h2 := tD_depth S
    simp only [List.map_cons, PyData.depthAll]
    omega
theorem tD_shaped (S : List Int) : SeqAt.shaped (tD S) = true := by
  have h := tD_depth S
  show ((tD S).canLay0 && decide ((tD S).depth ≤ 64)) = true
  rw [tD_lay, Bool.true_and]
  exact decide_eq_true (by omega)
theorem tDs_shaped (ss : List (List Int)) : SeqAt.shaped (.list (ss.map tD)) = true := by
  have h := tDs_depth ss
  have e : PyData.canLay0 (.list (ss.map tD)) = true := by
    simp only [PyData.canLay0]
    exact tDs_lay ss
  show (PyData.canLay0 (.list (ss.map tD)) && decide (PyData.depth (.list (ss.map tD)) ≤ 64)) = true
  rw [e, Bool.true_and]
  refine decide_eq_true ?_
  simp only [PyData.depth]
  omega
theorem ints_eqv : ∀ S S' : List Int, PyData.eqvAll (S.map PyData.int) (S'.map PyData.int) = decide (S = S')
  | [], [] => by simp [PyData.eqvAll]
  | [], _ :: _ => by simp [PyData.eqvAll]
  | _ :: _, [] => by simp [PyData.eqvAll]
  | x :: S, y :: S' => by
    have ih := ints_eqv S S'
    simp only [List.map_cons, PyData.eqvAll, PyData.eqv, ih]
    by_cases e : x = y
    · subst e
      simp
    · have e' : (x == y) = false := beq_eq_false_iff_ne.mpr e
      rw [e', Bool.false_and]
      exact (decide_eq_false fun z => e (List.cons.inj z).1).symm
theorem tD_eqv (S S' : List Int) : PyData.eqv (tD S) (tD S') = decide (S = S') := by
  simp only [tD, PyData.eqv]
  exact ints_eqv S S'
theorem tDs_any (S : List Int) : ∀ ss : List (List Int), ((ss.map tD).any fun z => PyData.eqv z (tD S)) = decide (S ∈ ss)
  | [] => rfl
  | S' :: ss => by
    rw [List.map_cons, List.any_cons, tDs_any S ss, tD_eqv]
    by_cases e : S' = S
    · subst e
      simp
    · have e' : ¬ S = S' := fun q => e q.symm
      simp [e, e']
theorem dp_ints {K : PySem.W.Frag} {H : Hp} : ∀ S : List Int, DpAll K H (S.map V.int) (S.map PyData.int)
  | [] => .nil
  | x :: S => .cons (.int x) (dp_ints S)
theorem dp_ti {K : PySem.W.Frag} {H : Hp} {v : V} {S : List Int} (h : TI H v S) : Dp K H v (tD S) := by
  obtain ⟨t, rfl, ht⟩ := h
  exact .tup (SqT.of ht) (dp_ints S)
theorem dp_tis {K : PySem.W.Frag} {H : Hp} : ∀ {xs : List V} {ss : List (List Int)}, TIs H xs ss → DpAll K H xs (ss.map tD)
  | _, _, .nil => .nil
  | _, _, .cons r t => .cons (dp_ti r) (dp_tis t)
theorem dp_list {K : PySem.W.Frag} {H : Hp} {l : Addr} {xs : List V} {ss : List (List Int)} (hl : H l = some (.lst xs)) (h : TIs H xs ss) : Dp K H (.ref l) (.list (ss.map tD)) := .lst (SqL.of hl) (dp_tis h)
theorem tDs_nil (ss : List (List Int)) : PyData.eqv (.list (ss.map tD)) (.list (([] : List (List Int)).map tD)) = decide (ss = []) := by
  cases ss with
  | nil => simp [PyData.eqv, PyData.eqvAll]
  | cons S ss => simp [PyData.eqv, PyData.eqvAll]
end GrD
namespace GrD
open PySem PySem.Spec PyProof.Rows L2 GrT GrR Gr
theorem Fal.lasts_iff {one : Bool} {n : Nat} {T : List (Int × Int)} {g : Nat} {H : Hp} {kvs : List (List Key × V)} (f : Fal one n T g H kvs) (l : ∀ S, IsSt n g S → ¬ KIn kvs S → Lasts one n T g S) {S : List Int} : (IsSt n g S ∧ ¬ KIn kvs S) ↔ Lasts one n T g S :=
  ⟨fun h => l S h.1 h.2, fun h => ⟨h.st, fun k => f.bad S k h⟩⟩
section
variable {P : Program} {w : World} {K : PySem.W.Frag} {mg : Str → Option Value} {base : Heap} {C : Addr}
/-- lasting -/
def spLasting (C : Addr) : Sp := fun vs H Q _ => ∃ (a : Addr) (n g : Nat) (T : List (Int × Int)) (one : Bool), vs = [.ref a, .int (g : Int), kd one] ∧ WebAt C H a n T ∧ 1 ≤ g ∧ g ≤ n ∧
  ∀ (H' : Hp) (l : Addr) (xs : List V) (ss : List (List Int)), Same H H' → H' l = some (.lst xs) → TIs H' xs ss → ss.length ≤ many n g → (∀ S, S ∈ ss ↔ Lasts one n T g S) → Q (.ref l) H'
theorem ok_lasting {f : Addr} {fd : FuncData} (F : Fun K "lasting" "lasting" sLasting f fd) (T : Txt K mg C) (GR : Good P w K mg base 7 "rounds_of" ["web", "guards", "kind"] (spRoundsOf C)) (GS : Good P w K mg base 3 "standings" ["web", "guards"] (spStandings C)) :
    FnOk P w K mg base CX0 8 f fd ["web", "guards", "kind"] (spLasting C) := by
  refine F.ok scLasting (fun vs H Q E h => ?_) (fun cdv A outer s H vs Q E hr h => ?_)
  · obtain ⟨a, n, g, U, one, rfl, _⟩ := h
    rfl
  · obtain ⟨a, n, g, U, one, rfl, hw, g1, gn, q⟩ := h
    have hle := hw.1.le
    refine ⟨_, pss_cons (ps_set (i := 3) scLasting.nd rfl (.inr rfl) (pe_go GR hr (by rfl) (pa_cons (pv 0) (pa_cons (pv 1) (pa_cons (pv 2) pa_nil)))))
      (pss_one (ps_ret (pe_lc (own := [("standing", 4)]) (g := gName 4) rfl scLasting.nd (pi_list (pe_go GS (hr.mono (by decide)) (by rfl) (pa_cons (pv 0) (pa_cons (pv 1) pa_nil))))
        (blkOk_by (own := [("standing", 4)]) (N := ["web", "guards", "kind", "fallen", "standing"]) (sc := defScope sLasting) (by decide +kernel))
        (fun _ _ _ _ _ => pg_name (i := 4) scLasting.nd rfl (.inl rfl)) (fun _ _ _ _ _ => pts_one (pt_cmp (pc_dnotin (hu_of hr) (pv 4) (pv 3)))) (fun _ _ _ _ _ => pv 4)))), ?_⟩
    refine ⟨_, rfl, _, rfl, _, rfl, a, n, g, U, one, rfl, hw, g1, gn, fun H1 d kvs s1 hd fal hl => ?_⟩
    refine ⟨_, rfl, _, rfl, a, n, g, U, rfl, hw.same s1, g1, gn, fun H2 l xs s2 _ hli hti => ?_⟩
    refine ⟨l, rfl, ⟨_, SqL.of hli⟩, fun D hD => lc_list (K := K) (a := l) (xs := xs) (fun j H' => Same H2 H' ∧ ∃ zs, H' D = some (.lst zs) ∧ TIs H' zs (((stands n g).take j).filter fun S => !decide (KIn kvs S)))
      ⟨same_new hD, [], upd_same, .nil⟩ (fun j H' _ ⟨s3, _⟩ => SqL.of (s3 _ _ hli)) ?_ ?_⟩
    · rintro j x H3 hx ⟨s3, zs, hzs, hz⟩
      obtain ⟨S, hS, t, rfl, ht⟩ := paired_at (hti.tk (Tk.of s3)) hx
      have ex : ((stands n g).take (j + 1)).filter (fun S => !decide (KIn kvs S)) = ((stands n g).take j).filter (fun S => !decide (KIn kvs S)) ++ (if KIn kvs S then [] else [S]) := by
        rw [take_snoc hS, List.filter_append]
        congr 1
        by_cases e : KIn kvs S
        · simp [e]
        · simp [e]
      refine ⟨rfl, _, rfl, _, rfl, d, _, rfl, dget_ti (.inl (s3 _ _ (s2 _ _ hd))) ht, _, rfl, ?_⟩
      rw [valV_dec]
      by_cases e : KIn kvs S
      · rw [decide_eq_true e]
        refine iteF ⟨s3, zs, hzs, ?_⟩
        rw [ex, if_pos e, List.append_nil]
        exact hz
      · rw [decide_eq_false e]
        refine iteT ⟨_, rfl, zs, hzs, ?_, same_wr s3 hD, _, upd_same, ?_⟩
        · rw [Paired.length hz]
          refine small1000 (Nat.le_trans (List.length_filter_le _ _) ?_)
          have b1 := (many_small n g hle (by omega)).2
          rw [List.length_take, stands_len]
          omega
        · rw [ex, if_neg e]
          exact paired_snoc (hz.tk (Tk.wrL hzs)) (TI.tk ⟨t, rfl, ht⟩ (Tk.wrL hzs))
    · rintro H3 ⟨s3, zs, hzs, hz⟩
      rw [Paired.length hti, List.take_length] at hz
      refine q H3 D zs _ ((s1.trans s2).trans s3) hzs hz ?_ fun S => ?_
      · rw [← stands_len]
        exact List.length_filter_le _ _
      · rw [← fal.lasts_iff hl, List.mem_filter, mem_stands hle (by omega) g1]
        simp
/-- falls: some list -/
def spFalls (C : Addr) : Sp := fun vs H Q _ => ∃ (a : Addr) (n g : Nat) (T : List (Int × Int)) (one : Bool), vs = [.ref a, .int (g : Int), kd one] ∧ WebAt C H a n T ∧ 1 ≤ g ∧ g ≤ n ∧ ∀ (H' : Hp) (l : Addr), Same H H' → Q (.ref l) H'
theorem ok_falls {f : Addr} {fd : FuncData} (F : Fun K "falls" "falls" sFalls f fd) (T : Txt K mg C) (GR : Good P w K mg base 7 "rounds_of" ["web", "guards", "kind"] (spRoundsOf C)) : FnOk P w K mg base CX0 8 f fd ["web", "guards", "kind"] (spFalls C) := by
  refine F.ok scFalls (fun vs H Q E h => ?_) (fun cdv A outer s H vs Q E hr h => ?_)
  · obtain ⟨a, n, g, U, one, rfl, _⟩ := h
    rfl
  · obtain ⟨a, n, g, U, one, rfl, hw, g1, gn, q⟩ := h
    have hle := hw.1.le
    refine ⟨_, pss_cons (ps_set (i := 3) scFalls.nd rfl (.inr rfl) (pe_go GR hr (by rfl) (pa_cons (pv 0) (pa_cons (pv 1) (pa_cons (pv 2) pa_nil)))))
      (pss_one (ps_ret (pe_lc (own := [("standing", 4)]) (g := gName 4) (tt := tYes) rfl scFalls.nd (pi_list (pe_callB (cr_sortedDT rfl) (by rfl) T.sorted (by decide +kernel) (pa_cons (pv 3) pa_nil)))
        (blkOk_by (own := [("standing", 4)]) (N := ["web", "guards", "kind", "fallen", "standing"]) (sc := defScope sFalls) (by decide +kernel))
        (fun _ _ _ _ _ => pg_name (i := 4) scFalls.nd rfl (.inl rfl)) (fun _ _ _ _ _ => pts_nil)
        (fun _ _ _ _ _ => pe_tup (pa_cons (pv 4) (pa_cons (pe_ix (ix_tup : IxR _ (rIxT K)) (pe_dget (hu_of hr) (pv 3) (pv 4) (fun _ _ => rfl)) pe_int (fun _ _ => rfl))
          (pa_cons (pe_ix (ix_tup : IxR _ (rIxT K)) (pe_dget (hu_of hr) (pv 3) (pv 4) (fun _ _ => rfl)) pe_int (fun _ _ => rfl)) pa_nil))))))), ?_⟩
    refine ⟨_, rfl, _, rfl, _, rfl, a, n, g, U, one, rfl, hw, g1, gn, fun H1 d kvs s1 hd fal _ => ?_⟩
    have hl20 := fal.len hle (by omega) g1
    refine ⟨_, rfl, d, kvs, g, 6, rfl, hd, by omega, g1, fun p hp => ?_, fun bs l hbs hlen nl => ?_⟩
    · obtain ⟨S, t, r, c, e, hst, _⟩ := fal.ent p hp
      refine ⟨S, by rw [e]; rfl, hst.1, fun m hm => ?_⟩
      have := hst.2.2 m hm
      have h1 := this.1
      have h2 := this.2
      omega
    · have s2 : Same H1 (upd H1 l (.lst (bs.map V.ref))) := same_new nl
      refine ⟨l, rfl, ⟨_, SqL.of upd_same⟩, fun D hD => lc_list (K := K) (a := l) (xs := bs.map V.ref) (fun j H' => Same (upd H1 l (.lst (bs.map V.ref))) H' ∧ ∃ zs : List V, H' D = some (.lst zs) ∧ zs.length ≤ j)
        ⟨same_new hD, [], upd_same, Nat.le_refl _⟩ (fun j H' _ ⟨s3, _⟩ => SqL.of (s3 _ _ upd_same)) ?_ ?_⟩
      · rintro j x H3 hx ⟨s3, zs, hzs, hz⟩
        have hjl := (List.getElem?_eq_some_iff.mp hx).1
        rw [List.length_map] at hjl
        rw [List.getElem?_map] at hx
        obtain ⟨b, hb, rfl⟩ := Option.map_eq_some_iff.mp hx
        obtain ⟨e, he, hbt⟩ := hbs b (List.mem_of_getElem? hb)
        obtain ⟨S, t, r, c, ee, hst, ht⟩ := fal.ent e he
        have s13 := s2.trans s3
        have hd3 := s13 _ _ hd
        have hb3 : H3 b = some (.tup (S.map V.int)) := by
          have z := s13 _ _ hbt
          rw [ee, tk_kV] at z
          exact z
        have hv : valV kvs (tk S) = some (.ref t) := by
          have z := val_nodup fal.nd e he
          rw [ee] at z
          exact z
        have hg : DGet H3 d (.ref b) (some (.ref t)) := by
          have z := dget_ti (.inl hd3) hb3
          rw [hv] at z
          exact z
        have ht3 := s13 _ _ ht
        refine ⟨rfl, yesT ?_⟩
        refine ⟨_, rfl, ?_⟩
        refine ⟨_, rfl, _, rfl, d, .ref t, rfl, hg, t, _, 0, .int r, rfl, rfl, SqT.of ht3, atI_nat (j := 0) rfl, ?_⟩
        refine ⟨_, rfl, _, rfl, d, .ref t, rfl, hg, t, _, 1, .int c, rfl, rfl, SqT.of ht3, atI_nat (j := 1) rfl, ?_⟩
        refine ⟨(by show 3 ≤ sizeLine; decide), fun tp ntp => ?_⟩
        refine ⟨zs, same_new ntp _ _ hzs, small1000 (by omega), same_wr (s3.trans (same_new ntp)) hD, _, upd_same, ?_⟩
        rw [List.length_append, List.length_singleton]
        omega
      · rintro H3 ⟨s3, _⟩
        exact q H3 D ((s1.trans s2).trans s3)
/-- first_answer: some value -/
def spFirstAnswer (C : Addr) : Sp := fun vs H Q _ => ∃ (a sa ld : Addr) (n g : Nat) (T : List (Int × Int)) (S : List Int) (c : Int) (one : Bool) (kvs : List (List Key × V)), vs = [.ref a, .ref sa, .int c, kd one, .ref ld] ∧ WebAt C H a n T ∧ H sa = some (.tup (S.map V.int)) ∧ IsSt n g S ∧ 1 ≤ g ∧ g ≤ 6 ∧ Inn n c ∧ c ∉ S ∧
  H ld = some (.dT kvs) ∧ ∀ (H' : Hp) (v : V), Same H H' → Q v H'
theorem ok_first_answer {f : Addr} {fd : FuncData} (F : Fun K "first_answer" "first_answer" sFirstAnswer f fd) (T : Txt K mg C) (GA : Good P w K mg base 5 "answers" ["web", "standing", "call", "kind"] (spAnswers C)) :
    FnOk P w K mg base CX0 6 f fd ["web", "standing", "call", "kind", "listed"] (spFirstAnswer C) := by
  refine F.ok scFirstAnswer (fun vs H Q E h => ?_) (fun cdv A outer s H vs Q E hr h => ?_)
  · obtain ⟨a, sa, ld, n, g, U, S, c, one, kvs, rfl, _⟩ := h
    rfl
  · obtain ⟨a, sa, ld, n, g, U, S, c, one, kvs, rfl, hw, hS, hst, g1, g6, hc, hcn, hld, q⟩ := h
    refine ⟨_, pss_cons (ps_for PassesOwn.never rfl (pi_list (pe_go GA hr (by rfl) (pa_cons (pv 0) (pa_cons (pv 1) (pa_cons (pv 2) (pa_cons (pv 3) pa_nil)))))) (pg_name (i := 5) scFirstAnswer.nd rfl (.inl rfl))
        (pss_one (ps_if (pt_cmp (pc_din (hu_of hr) (pe_callTy call_tuple_of (by rfl) T.tuple (by decide +kernel) (pa_cons (pe_callB cr_sortedTup (by rfl) T.sorted (by decide +kernel) (pa_cons (pv 5) pa_nil)) pa_nil)) (pv 4)))
          (pss_one (ps_ret (pv 5))) pss_nil)))
      (pss_one (ps_ret pe_non)), ?_⟩
    refine ⟨_, rfl, _, rfl, _, rfl, _, rfl, a, sa, n, g, U, S, c, one, rfl, hw, hS, hst, g1, g6, hc, hcn, fun H1 l xs rows s1 hl hti _ _ => ?_⟩
    refine ⟨l, rfl, ⟨_, SqL.of hl⟩, for_list (K := K) (a := l) (xs := xs)
      (fun i σ H' => ∃ y5 : Option V, σ = [some (.ref a), some (.ref sa), some (.int c), some (kd one), some (.ref ld), y5] ∧ Same H1 H')
      ⟨none, rfl, Same.refl H1⟩ (fun i σ H' _ ⟨_, _, s2⟩ => SqL.of (s2 _ _ hl)) ?_ ?_⟩
    · rintro i x σ H2 hx ⟨y5, rfl, s2⟩
      obtain ⟨row, hrow, t, rfl, ht⟩ := paired_at (hti.tk (Tk.of s2)) hx
      refine ⟨_, rfl, t, row, rfl, ht, fun ns p pm so np => ?_⟩
      refine ⟨p, _, rfl, .inl ⟨SqL.of upd_same, fun u nu => ?_⟩⟩
      have s3 : Same H2 (upd (upd H2 p (.lst (ns.map V.int))) u (.tup (ns.map V.int))) := (same_new np).trans (same_new nu)
      refine ⟨_, rfl, ld, _, rfl, dget_ti (.inl ((s1.trans s2).trans s3 _ _ hld)) upd_same, _, rfl, ite2 (fun _ => ?_) (fun _ => ?_)⟩
      · exact ⟨_, rfl, q _ _ ((s1.trans s2).trans s3)⟩
      · exact ⟨_, rfl, s2.trans s3⟩
    · rintro σ H2 ⟨y5, rfl, s2⟩
      exact q _ _ (s1.trans s2)
end
end GrD
namespace GrD
open PySem PySem.Spec PyProof.Rows L2 GrT GrR Gr
theorem none_lasts {one : Bool} {n g : Nat} {T : List (Int × Int)} {ss : List (List Int)} (h : ∀ S, S ∈ ss ↔ Lasts one n T g S) : ss = [] ↔ ∀ S, ¬ Lasts one n T g S := by
  constructor
  · intro e S hS
    have := (h S).mpr hS
    rw [e] at this
    cases this
  · intro hno
    cases ss with
    | nil => rfl
    | cons S ss => exact absurd ((h S).mp List.mem_cons_self) (hno S)
theorem some_lasts {one : Bool} {n g : Nat} {T : List (Int × Int)} {ss : List (List Int)} (h : ∀ S, S ∈ ss ↔ Lasts one n T g S) (ne : ¬ ss = []) : ∃ S, Lasts one n T g S := by
  cases ss with
  | nil => exact absurd rfl ne
  | cons S ss => exact ⟨S, (h S).mp List.mem_cons_self⟩
section
variable {P : Program} {w : World} {K : PySem.W.Frag} {mg : Str → Option Value} {base : Heap} {C : Addr}
/-- guide_paper: None just where nothing lasts -/
def spGuidePaper (C : Addr) : Sp := fun vs H Q _ => ∃ (a : Addr) (n g : Nat) (T : List (Int × Int)) (one : Bool), vs = [.ref a, .int (g : Int), kd one] ∧ WebAt C H a n T ∧ 1 ≤ g ∧ g ≤ n ∧
  ∀ (H' : Hp) (v : V), Same H H' → ((v = .non ∧ ∀ S, ¬ Lasts one n T g S) ∨ ((∃ p, v = .ref p) ∧ ∃ S, Lasts one n T g S)) → Q v H'
theorem ok_guide_paper {f : Addr} {fd : FuncData} (F : Fun K "guide_paper" "guide_paper" sGuidePaper f fd) (T : Txt K mg C) (GL : Good P w K mg base 8 "lasting" ["web", "guards", "kind"] (spLasting C))
    (GF : Good P w K mg base 6 "first_answer" ["web", "standing", "call", "kind", "listed"] (spFirstAnswer C)) (GC : Good P w K mg base 1 "calls_at" ["web", "standing"] (spCallsAt C)) :
    FnOk P w K mg base CX0 9 f fd ["web", "guards", "kind"] (spGuidePaper C) := by
  refine F.ok scGuidePaper (fun vs H Q E h => ?_) (fun cdv A outer s H vs Q E hr h => ?_)
  · obtain ⟨a, n, g, U, one, rfl, _⟩ := h
    rfl
  · obtain ⟨a, n, g, U, one, rfl, hw, g1, gn, q⟩ := h
    have hle := hw.1.le
    have hu := hu_of hr
    refine ⟨_, pss_cons (ps_set (i := 3) scGuidePaper.nd rfl (.inl rfl) (pe_go GL hr (by rfl) (pa_cons (pv 0) (pa_cons (pv 1) (pa_cons (pv 2) pa_nil)))))
      (pss_cons (ps_if (pt_cmpR (op_eqD hr.units) (pv 3) (pe_lst pa_nil) (nomark _)) (pss_one (ps_ret pe_non)) pss_nil)
      (pss_cons (ps_set (i := 4) scGuidePaper.nd rfl (.inr rfl) pe_dnewT)
      (pss_cons (ps_for PassesOwn.never rfl (pi_list (pv 3)) (pg_name (i := 5) scGuidePaper.nd rfl (.inr rfl)) (pss_one (ps_dput hu (pv 4) (pv 5) pe_bl rfl)))
      (pss_cons (ps_set (i := 6) scGuidePaper.nd rfl (.inl rfl) (pe_lst pa_nil))
      (pss_cons (ps_for PassesOwn.never rfl (pi_list (pv 3)) (pg_name (i := 5) scGuidePaper.nd rfl (.inr rfl))
        (pss_cons (ps_setLc (i := 7) (own := [("call", 8)]) (g := gName 8) (tt := tYes) rfl scGuidePaper.nd rfl rfl (sw_true rfl rfl rfl (by decide +kernel)) (pi_list (pe_go GC (hr.mono (by decide)) (by rfl) (pa_cons (pv 0) (pa_cons (pv 5) pa_nil))))
            (blkOk_by (own := [("call", 8)]) (N := ["web", "guards", "kind", "some", "listed", "standing", "paper", "rows", "call"]) (sc := defScope sGuidePaper) (by decide +kernel))
            (fun _ _ _ _ _ => pg_name (i := 8) scGuidePaper.nd rfl (.inl rfl)) (fun _ _ _ _ _ => pts_nil)
            (fun _ _ _ _ _ => pe_tup (pa_cons (pv 8) (pa_cons (pe_go GF (hr.mono (by decide)) (by rfl) (pa_cons (pv 0) (pa_cons (pv 5) (pa_cons (pv 8) (pa_cons (pv 2) (pa_cons (pv 4) pa_nil)))))) pa_nil))))
        (pss_one (ps_expr (pe_bm PySem.F.plainAttrs_list PySem.F.slot_list_append PySem.F.type_list_append mt_append (pv 6)
          (pa_cons (pe_tup (pa_cons (pv 5) (pa_cons (pe_callTy call_tuple_of (by rfl) T.tuple (by decide +kernel) (pa_cons (pv 7) pa_nil)) pa_nil))) pa_nil))))))
      (pss_one (ps_ret (pv 6)))))))), ?_⟩
    refine ⟨_, rfl, _, rfl, _, rfl, a, n, g, U, one, rfl, hw, g1, gn, fun H1 l xs ss s1 hl hti hlen hm => ?_⟩
    have b20 := (many_small n g hle (by omega)).2
    refine ⟨_, rfl, Nat.zero_le _, fun e0 ne0 => ?_⟩
    have s2 : Same H1 (upd H1 e0 (.lst [])) := same_new ne0
    refine ⟨_, _, dp_list (s2 _ _ hl) (hti.tk (Tk.of s2)), dp_list (ss := []) upd_same .nil, tDs_shaped _, tDs_shaped [], _, rfl, ?_⟩
    rw [tDs_nil]
    by_cases e : ss = []
    · rw [decide_eq_true e]
      exact iteT (q _ _ (s1.trans s2) (.inl ⟨rfl, (none_lasts hm).mp e⟩))
    · rw [decide_eq_false e]
      refine iteF ?_
      intro ld nld
      have s3 : Same H1 (upd (upd H1 e0 (.lst [])) ld (.dT [])) := s2.trans (same_new nld)
      have hld0 : H1 ld = none := s2.free nld
      refine ⟨_, rfl, l, rfl, ⟨_, SqL.of (s3 _ _ hl)⟩, for_list (K := K) (a := l) (xs := xs)
        (fun i σ H' => ∃ (y5 : Option V) (kvs : List (List Key × V)), σ = [some (.ref a), some (.int (g : Int)), some (kd one), some (.ref l), some (.ref ld), y5, none, none, none] ∧ Same H1 H' ∧ H' ld = some (.dT kvs) ∧ kvs.length ≤ i)
        ⟨none, [], rfl, s3, upd_same, Nat.le_refl _⟩ (fun i σ H' _ ⟨_, _, _, s4, _⟩ => SqL.of (s4 _ _ hl)) ?_ ?_⟩
      · rintro i x σ H2 hx ⟨y5, kvs, rfl, s4, hld, hkl⟩
        obtain ⟨S, hS, t, rfl, ht⟩ := paired_at (hti.tk (Tk.of s4)) hx
        have hi := (List.getElem?_eq_some_iff.mp hS).1
        refine ⟨_, rfl, _, rfl, ld, _, rfl, DPut.t hld (k := tk S) (by rw [tk_kV]; exact ht) (small1000 (by omega)), ?_⟩
        refine ⟨_, _, rfl, same_wr s4 hld0, upd_same, ?_⟩
        exact Nat.le_trans (length_putK _ _ _) (by omega)
      · rintro σ H2 ⟨y5, kvs, rfl, s4, hld, hkl⟩
        refine ⟨Nat.zero_le _, fun pa npa => ?_⟩
        have s5 : Same H2 (upd H2 pa (.lst [])) := same_new npa
        refine ⟨_, rfl, l, rfl, ⟨_, SqL.of (s5 _ _ (s4 _ _ hl))⟩, for_list (K := K) (a := l) (xs := xs)
          (fun i σ H' => ∃ (y5 y7 : Option V) (ps : List V), σ = [some (.ref a), some (.int (g : Int)), some (kd one), some (.ref l), some (.ref ld), y5, some (.ref pa), y7, none] ∧ Same H2 H' ∧ H' pa = some (.lst ps) ∧ ps.length ≤ i)
          ⟨y5, none, [], rfl, s5, upd_same, Nat.le_refl _⟩ (fun i σ H' _ ⟨_, _, _, _, s6, _⟩ => SqL.of (s6 _ _ (s4 _ _ hl))) ?_ ?_⟩
        · rintro i x σ H3 hx ⟨z5, z7, ps, rfl, s6, hpa, hpl⟩
          obtain ⟨S, hS, t, rfl, ht⟩ := paired_at (hti.tk (Tk.of (s4.trans s6))) hx
          have hi := (List.getElem?_eq_some_iff.mp hS).1
          have hst : IsSt n g S := ((hm S).mp (List.mem_of_getElem? hS)).st
          have s13 : Same H H3 := s1.trans (s4.trans s6)
          refine ⟨_, rfl, _, rfl, a, t, n, U, S, rfl, hw.same s13, ht, fun H4 cl s7 _ hcl => ?_⟩
          refine ⟨cl, rfl, ⟨_, SqL.of hcl⟩, fun D hD => lc_list (K := K) (a := cl) (xs := (callsL n S).map V.int) (fun j H' => Same H4 H' ∧ ∃ zs : List V, H' D = some (.lst zs) ∧ zs.length ≤ j)
            ⟨same_new hD, [], upd_same, Nat.le_refl _⟩ (fun j H' _ ⟨s8, _⟩ => SqL.of (s8 _ _ hcl)) ?_ ?_⟩
          · rintro j y H5 hy ⟨s8, zs, hzs, hzl⟩
            have hj := (List.getElem?_eq_some_iff.mp hy).1
            rw [List.length_map] at hj
            have hcl6 := callsL_len n S
            obtain ⟨c, hc, rfl⟩ := map_int_at hy
            obtain ⟨hci, hcn⟩ := mem_callsL.mp (List.mem_of_getElem? hc)
            have s35 := s7.trans s8
            refine ⟨rfl, yesT ?_⟩
            refine ⟨_, rfl, _, rfl, _, rfl, _, rfl, _, rfl, _, rfl, a, t, ld, n, g, U, S, c, one, kvs, rfl, hw.same (s13.trans s35), s35 _ _ ht, hst, g1, by omega, hci, hcn, s35 _ _ (s6 _ _ hld), fun H6 v s9 => ?_⟩
            refine ⟨(by show 2 ≤ sizeLine; decide), fun tp ntp => ?_⟩
            refine ⟨zs, same_new ntp _ _ (s9 _ _ hzs), small1000 (by omega), same_wr ((s8.trans s9).trans (same_new ntp)) hD, _, upd_same, ?_⟩
            rw [List.length_append, List.length_singleton]
            omega
          · rintro H5 ⟨s8, zs, hzs, hzl⟩
            have s35 := s7.trans s8
            have hpa5 := s35 _ _ hpa
            refine ⟨_, rfl, .inl ⟨rfl, _, SqL.of hpa5⟩, _, rfl, _, rfl, D, _, rfl, .inl ⟨SqL.of hzs, fun u nu => ?_⟩⟩
            refine ⟨(by show 2 ≤ sizeLine; decide), fun tp ntp => ?_⟩
            have s56 : Same H5 (upd (upd H5 u (.tup zs)) tp (.tup [.ref t, .ref u])) := (same_new nu).trans (same_new ntp)
            refine ⟨pa, ps, _, rfl, rfl, s56 _ _ hpa5, small1000 (by omega), ?_⟩
            refine ⟨_, _, _, rfl, same_wr ((s6.trans s35).trans s56) npa, upd_same, ?_⟩
            rw [List.length_append, List.length_singleton]
            omega
        · rintro σ H3 ⟨z5, z7, ps, rfl, s6, hpa, hpl⟩
          exact ⟨_, rfl, q H3 _ (s1.trans (s4.trans s6)) (.inr ⟨⟨pa, rfl⟩, some_lasts hm e⟩)⟩
/-- caller_paper: None just where something lasts -/
def spCallerPaper (C : Addr) : Sp := fun vs H Q _ => ∃ (a : Addr) (n g : Nat) (T : List (Int × Int)) (one : Bool), vs = [.ref a, .int (g : Int), kd one] ∧ WebAt C H a n T ∧ 1 ≤ g ∧ g ≤ n ∧
  ∀ (H' : Hp) (v : V), Same H H' → ((v = .non ∧ ∃ S, Lasts one n T g S) ∨ ((∃ p, v = .ref p) ∧ ∀ S, ¬ Lasts one n T g S)) → Q v H'
theorem ok_caller_paper {f : Addr} {fd : FuncData} (F : Fun K "caller_paper" "caller_paper" sCallerPaper f fd) (T : Txt K mg C) (GL : Good P w K mg base 8 "lasting" ["web", "guards", "kind"] (spLasting C))
    (GF : Good P w K mg base 8 "falls" ["web", "guards", "kind"] (spFalls C)) : FnOk P w K mg base CX0 9 f fd ["web", "guards", "kind"] (spCallerPaper C) := by
  refine F.ok scCallerPaper (fun vs H Q E h => ?_) (fun cdv A outer s H vs Q E hr h => ?_)
  · obtain ⟨a, n, g, U, one, rfl, _⟩ := h
    rfl
  · obtain ⟨a, n, g, U, one, rfl, hw, g1, gn, q⟩ := h
    refine ⟨_, pss_cons (ps_if (pt_cmpR (op_neD hr.units) (pe_go GL hr (by rfl) (pa_cons (pv 0) (pa_cons (pv 1) (pa_cons (pv 2) pa_nil)))) (pe_lst pa_nil) (nomark _)) (pss_one (ps_ret pe_non)) pss_nil)
      (pss_one (ps_ret (pe_go GF hr (by rfl) (pa_cons (pv 0) (pa_cons (pv 1) (pa_cons (pv 2) pa_nil)))))), ?_⟩
    refine ⟨_, rfl, _, rfl, _, rfl, a, n, g, U, one, rfl, hw, g1, gn, fun H1 l xs ss s1 hl hti hlen hm => ?_⟩
    refine ⟨Nat.zero_le _, fun e0 ne0 => ?_⟩
    have s2 : Same H1 (upd H1 e0 (.lst [])) := same_new ne0
    refine ⟨_, _, dp_list (s2 _ _ hl) (hti.tk (Tk.of s2)), dp_list (ss := []) upd_same .nil, tDs_shaped _, tDs_shaped [], _, rfl, ?_⟩
    rw [tDs_nil]
    by_cases e : ss = []
    · rw [decide_eq_true e]
      refine iteF ⟨_, rfl, _, rfl, _, rfl, a, n, g, U, one, rfl, hw.same (s1.trans s2), g1, gn, fun H2 l2 s3 => ?_⟩
      exact q _ _ ((s1.trans s2).trans s3) (.inr ⟨⟨l2, rfl⟩, (none_lasts hm).mp e⟩)
    · rw [decide_eq_false e]
      exact iteT (q _ _ (s1.trans s2) (.inl ⟨rfl, some_lasts hm e⟩))
/-- fewest -/
def spFewest (C : Addr) : Sp := fun vs H Q _ => ∃ (a : Addr) (n : Nat) (T : List (Int × Int)) (one : Bool), vs = [.ref a, kd one] ∧ WebAt C H a n T ∧
  ∀ (H' : Hp) (f : Nat), Same H H' → 1 ≤ f → f ≤ n → (∃ S, Lasts one n T f S) → (∀ g, 1 ≤ g → g < f → ∀ S, ¬ Lasts one n T g S) → Q (.int (f : Int)) H'
theorem ok_fewest {f : Addr} {fd : FuncData} (F : Fun K "fewest" "fewest" sFewest f fd) (T : Txt K mg C) (GL : Good P w K mg base 8 "lasting" ["web", "guards", "kind"] (spLasting C)) : FnOk P w K mg base CX0 9 f fd ["web", "kind"] (spFewest C) := by
  refine F.ok scFewest (fun vs H Q E h => ?_) (fun cdv A outer s H vs Q E hr h => ?_)
  · obtain ⟨a, n, U, one, rfl, _⟩ := h
    rfl
  · obtain ⟨a, n, U, one, rfl, hw, q⟩ := h
    obtain ⟨W, dx, at_, txs, h1, h2, h3⟩ := id hw
    have hle := W.le
    obtain ⟨tm, hmost⟩ := T.here
    refine ⟨_, pss_cons (ps_if (pt_cmpR op_gt (pe_fld (pv 0) rfl) (pe_glob (v := .int 8) rfl hmost ⟨_, rfl⟩) (nomark _)) pss_never pss_nil)
      (pss_cons (ps_set (i := 2) scFewest.nd rfl (.inl rfl) pe_int)
      (pss_cons (ps_while PassesOwn.never (pt_cmpR (op_eqD hr.units) (pe_go GL hr (by rfl) (pa_cons (pv 0) (pa_cons (pv 2) (pa_cons (pv 1) pa_nil)))) (pe_lst pa_nil) (nomark _))
        (pss_one (ps_aug (i := 2) scFewest.nd rfl (.inl rfl) pe_int ip_add)))
      (pss_one (ps_ret (pv 2))))), ?_⟩
    refine ⟨_, rfl, a, C, dx, _, _, rfl, h1, T.cl, T.nP, wf_places _ _, _, _, rfl, rfl, _, rfl, ?_⟩
    rw [decide_eq_false (show ¬ (n : Int) > 8 by omega)]
    refine iteF ?_
    refine ⟨fun m σ H' => ∃ g : Nat, σ = [some (.ref a), some (kd one), some (.int (g : Int))] ∧ m = n - g ∧ Same H H' ∧ 1 ≤ g ∧ g ≤ n ∧ ∀ k, 1 ≤ k → k < g → ∀ S, ¬ Lasts one n U k S,
      ⟨_, 1, rfl, rfl, Same.refl H, Nat.le_refl _, W.pos, fun k h1 h2 => by omega⟩, ?_⟩
    rintro m σ H1 ⟨g, rfl, rfl, s1, g1, gn, hno⟩
    refine ⟨_, rfl, _, rfl, _, rfl, a, n, g, U, one, rfl, hw.same s1, g1, gn, fun H2 l xs ss s2 hl hti hlen hm => ?_⟩
    refine ⟨Nat.zero_le _, fun e0 ne0 => ?_⟩
    have s3 : Same H2 (upd H2 e0 (.lst [])) := same_new ne0
    have s13 := (s1.trans s2).trans s3
    refine ⟨_, _, dp_list (s3 _ _ hl) (hti.tk (Tk.of s3)), dp_list (ss := []) upd_same .nil, tDs_shaped _, tDs_shaped [], _, rfl, ?_⟩
    rw [tDs_nil]
    by_cases e : ss = []
    · rw [decide_eq_true e]
      have hg := (none_lasts hm).mp e
      have hgn : g ≠ n := fun z => by
        rw [z] at hg
        exact hg _ (full_lasts (full_is n))
      refine iteT ⟨fun σ' H' => σ' = [some (.ref a), some (kd one), some (.int ((g + 1 : Nat) : Int))] ∧ Same H H', fun σ' H' h => ?_, ?_⟩
      · refine ⟨n - (g + 1), by omega, g + 1, h.1, rfl, h.2, by omega, by omega, fun k h1 h2 => ?_⟩
        rcases Nat.lt_succ_iff_lt_or_eq.mp h2 with z | z
        · exact hno k h1 z
        · rw [z]
          exact hg
      · exact ⟨_, rfl, _, _, rfl, rfl, rfl, s13⟩
    · rw [decide_eq_false e]
      refine iteF ⟨_, rfl, q _ g s13 g1 gn (some_lasts hm e) hno⟩
/-- first_unwatched: None where the set watches the web -/
def spFirstUnwatched (C : Addr) : Sp := fun vs H Q _ => ∃ (a sa : Addr) (n : Nat) (T : List (Int × Int)) (S : List Int), vs = [.ref a, .ref sa] ∧ WebAt C H a n T ∧ H sa = some (.tup (S.map V.int)) ∧ (∀ p, Inn n p → p ∉ S → ∃ x, x ∈ S ∧ Adj T p x) ∧ ∀ H' : Hp, Same H H' → Q .non H'
theorem ok_first_unwatched {f : Addr} {fd : FuncData} (F : Fun K "first_unwatched" "first_unwatched" sFirstUnwatched f fd) (T : Txt K mg C) (GN : Good P w K mg base 2 "near" ["web", "place"] (spNear C)) : FnOk P w K mg base CX0 3 f fd ["web", "some"] (spFirstUnwatched C) := by
  refine F.ok scFirstUnwatched (fun vs H Q E h => ?_) (fun cdv A outer s H vs Q E hr h => ?_)
  · obtain ⟨a, sa, n, U, S, rfl, _⟩ := h
    rfl
  · obtain ⟨a, sa, n, U, S, rfl, hw, hS, hwt, q⟩ := h
    obtain ⟨W, dx, at_, txs, h1, h2, h3⟩ := id hw
    have hle := W.le
    refine ⟨_, pss_cons (ps_for PassesOwn.never rfl (pi_range1 rfl T.range (pa_cons (pe_fld (pv 0) rfl) pa_nil)) (pg_name (i := 2) scFirstUnwatched.nd rfl (.inl rfl))
        (pss_one (ps_if (PW.pt (pw_and (pt_cmpR op_notIn_seq (pv 2) (pv 1) (by rfl)) (pw_and1 (pt_not (pt_val (pe_callB (cr_any rfl) (by rfl) T.any (by decide +kernel)
            (pa_cons (pe_lc (own := [("other", 3)]) (g := gName 3) (tt := tYes) rfl scFirstUnwatched.nd (pi_tup (pe_go GN hr (by rfl) (pa_cons (pv 0) (pa_cons (pv 2) pa_nil))))
              (blkOk_by (own := [("other", 3)]) (N := ["web", "some", "place", "other"]) (sc := defScope sFirstUnwatched) (by decide +kernel))
              (fun _ _ _ _ _ => pg_name (i := 3) scFirstUnwatched.nd rfl (.inl rfl)) (fun _ _ _ _ _ => pts_nil) (fun _ _ _ _ _ => pe_cmpR (op_in_seq : OpR _ _ (rIn K false)) (pv 3) (pv 1) (by rfl))) pa_nil)))))))
          (pss_one (ps_ret (pv 2))) pss_nil)))
      (pss_one (ps_ret pe_non)), ?_⟩
    refine ⟨_, rfl, a, C, dx, _, _, rfl, h1, T.cl, T.nP, wf_places _ _, _, rfl, by omega, by omega, for_range (lo := 0) (n := ((n : Nat) : Int).toNat)
      (fun i σ H' => ∃ y2 : Option V, σ = [some (.ref a), some (.ref sa), y2, none] ∧ Same H H') ⟨none, rfl, Same.refl H⟩ ?_ ?_⟩
    · rintro i σ H1 hi ⟨y2, rfl, s1⟩
      have hp : Inn n ((0 : Int) + ((i : Nat) : Int)) := ⟨by omega, by omega⟩
      refine ⟨_, rfl, _, rfl, sa, _, rfl, .inr (SqT.of (s1 _ _ hS)), rfl, flat_ints _, _, rfl, ?_⟩
      rw [inV_ints]
      show if (!decide ((0 : Int) + ((i : Nat) : Int) ∈ S)) = true then _ else _
      by_cases e : (0 : Int) + ((i : Nat) : Int) ∈ S
      · rw [decide_eq_true e]
        exact iteF (iteF ⟨_, rfl, s1⟩)
      · rw [decide_eq_false e]
        obtain ⟨x, hx, ha⟩ := hwt _ hp e
        refine iteT ⟨_, rfl, _, rfl, a, n, U, _, rfl, hw.same s1, hp, fun H2 t ns s2 ht hn5 hns => ?_⟩
        refine ⟨t, rfl, ⟨_, SqT.of ht⟩, fun D hD => lc_tup (K := K) (a := t) (xs := ns.map V.int) (fun j H' => Same H2 H' ∧ H' D = some (.lst (((ns.take j).map fun z => decide (z ∈ S)).map V.bl)))
          ⟨same_new hD, upd_same⟩ (fun j H' _ ⟨s3, _⟩ => SqT.of (s3 _ _ ht)) ?_ ?_⟩
        · rintro j y H3 hy ⟨s3, hl⟩
          obtain ⟨z, hz, rfl⟩ := map_int_at hy
          refine ⟨rfl, yesT ?_⟩
          refine ⟨_, rfl, _, rfl, sa, _, rfl, .inr (SqT.of (s3 _ _ (s2 _ _ (s1 _ _ hS)))), rfl, flat_ints _, _, hl, ?_, same_wr s3 hD, ?_⟩
          · have := (List.getElem?_eq_some_iff.mp hz).1
            rw [List.length_map, List.length_map, List.length_take]
            exact small1000 (by omega)
          · rw [upd_same, take_snoc hz, List.map_append, List.map_append, inV_ints]
            rfl
        · rintro H3 ⟨s3, hl⟩
          rw [List.length_map, List.take_length] at hl
          refine ⟨D, _, rfl, SqL.of hl, _, rfl, ?_⟩
          have ht : ((ns.map fun z => decide (z ∈ S)).any id) = true := List.any_eq_true.mpr ⟨true, List.mem_map.mpr ⟨x, (hns x).mpr ha, decide_eq_true hx⟩, rfl⟩
          rw [ht]
          exact iteF ⟨_, rfl, (s1.trans s2).trans s3⟩
    · rintro σ H1 ⟨y2, rfl, s1⟩
      exact q H1 s1
end
end GrD
namespace Gr
/-! ### the law's webs -/
def rowP (other j : Nat) : List (Int × Int) := (List.range j).map fun (one : Nat) => ((one : Int), (other : Int))
def allP (n : Nat) : List (Int × Int) := (List.range n).flatMap fun other => rowP other other
theorem rowP_succ (other j : Nat) : rowP other (j + 1) = rowP other j ++ [((j : Int), (other : Int))] := by
  unfold rowP
  rw [List.range_succ, List.map_append]
  rfl
theorem allP_succ (n : Nat) : allP (n + 1) = allP n ++ rowP n n := by
  unfold allP
  rw [List.range_succ, List.flatMap_append, List.flatMap_cons, List.flatMap_nil, List.append_nil]
theorem allP_facts : ∀ n, n ≤ 6 → (allP n).Nodup ∧ (allP n).all (fun t => decide (0 ≤ t.1) && decide (t.1 < t.2) && decide (t.2 < (n : Int))) = true := by decide +kernel
theorem allP_deg : ∀ n, n ≤ 6 → ∀ p, p < 6 → ((allP n).filter fun t => decide (t.1 = ((p : Nat) : Int)) || decide (t.2 = ((p : Nat) : Int))).length ≤ 5 := by decide +kernel
theorem allP_len : ∀ n, n ≤ 6 → (allP n).length ≤ 15 := by decide +kernel
theorem allP_mem {n : Nat} (hn : n ≤ 6) {a b : Int} (h : (a, b) ∈ allP n) : 0 ≤ a ∧ a < b ∧ b < (n : Int) := by
  have q := List.all_eq_true.mp (allP_facts n hn).2 _ h
  simp only [Bool.and_eq_true, decide_eq_true_eq] at q
  exact ⟨q.1.1, q.1.2, q.2⟩
theorem webOk_of {n : Nat} {T : List (Int × Int)} (h1 : 1 ≤ n) (h6 : n ≤ 6) (hs : T.Sublist (allP n)) : WebOk n T := by
  refine ⟨h1, h6, fun a b h => ?_, fun a b h => ?_, fun p => ?_⟩
  · have := allP_mem h6 (hs.subset h)
    exact ⟨⟨by omega, by omega⟩, by omega, by omega⟩
  · have := allP_mem h6 (hs.subset h)
    omega
  · refine Nat.le_trans (hs.filter _).length_le ?_
    by_cases hp : 0 ≤ p ∧ p < 6
    · have e : p = ((p.toNat : Nat) : Int) := by omega
      rw [e]
      exact allP_deg n h6 p.toNat (by omega)
    · have e0 : ((allP n).filter fun t => decide (t.1 = p) || decide (t.2 = p)) = [] := by
        rw [List.filter_eq_nil_iff]
        rintro ⟨a, b⟩ h
        have := allP_mem h6 h
        simp only [Bool.or_eq_true, decide_eq_true_eq]
        omega
      rw [e0]
      exact Nat.zero_le _
theorem WebOk.perm {n : Nat} {T T' : List (Int × Int)} (W : WebOk n T) (p : T'.Perm T) : WebOk n T' :=
  ⟨W.pos, W.le, fun a b h => W.inn a b (p.mem_iff.mp h), fun a b h => W.ne a b (p.mem_iff.mp h), fun x => by
    rw [(p.filter _).length_eq]
    exact W.deg x⟩
end Gr
namespace GrD
open PySem PySem.Spec PyProof.Rows L2 GrT GrR Gr
theorem paired_mapR {α β γ : Type} {F : α → γ → Prop} {f : β → γ} : ∀ {xs : List α} {ts : List β}, Paired F xs (ts.map f) → Paired (fun x t => F x (f t)) xs ts
  | [], [], _ => .nil
  | x :: xs, t :: ts, h => by
    cases h with
    | cons r q => exact .cons r (paired_mapR q)
  | [], _ :: _, h => by cases h
  | _ :: _, [], h => by cases h
theorem mapR_paired {α β γ : Type} {F : α → γ → Prop} {f : β → γ} : ∀ {xs : List α} {ts : List β}, Paired (fun x t => F x (f t)) xs ts → Paired F xs (ts.map f)
  | _, _, .nil => .nil
  | _, _, .cons r q => .cons r (mapR_paired q)
theorem room65 {k : Nat} {A : Around} (hr : Room k A) : A.units + 65 < cLine := by
  have := hr.un
  omega
theorem wf_eq (n : Nat) (a : Addr) : putF "ties" (.ref a) (putF "places" (.int (n : Int)) []) = wf n a := rfl
theorem pr_inj {a b : Int × Int} (h : pr a = pr b) : a = b := by
  obtain ⟨a1, a2⟩ := a
  obtain ⟨b1, b2⟩ := b
  have h' : [a1, a2] = [b1, b2] := h
  simp at h'
  rw [h'.1, h'.2]
section
variable {P : Program} {w : World} {K : PySem.W.Frag} {mg : Str → Option Value} {base : Heap} {C : Addr}
/-- Web.__init__ -/
def spInit (C : Addr) : Sp := fun vs H Q _ => ∃ (p dx tl : Addr) (n : Nat) (T : List (Int × Int)) (xs : List V), vs = [.ref p, .int (n : Int), .ref tl] ∧ H p = some (.ins C dx []) ∧ H tl = some (.lst xs) ∧ TIs H xs (T.map pr) ∧ 1 ≤ n ∧ n ≤ 6 ∧ T.Sublist (allP n) ∧
  ∀ (H' : Hp) (T' : List (Int × Int)), WebAt C H' p n T' → (∀ b o, H b = some o → b ≠ p → H' b = some o) → Q .non H'
theorem ok_init {f : Addr} {fd : FuncData} (F : Fun K "__init__" "Web.__init__" sInit f fd) (T : Txt K mg C) : FnOk P w K mg base CX0 1 f fd ["self", "places", "ties"] (spInit C) := by
  refine F.ok scInit (fun vs H Q E h => ?_) (fun cdv A outer s H vs Q E hr h => ?_)
  · obtain ⟨p, dx, tl, n, U, xs, rfl, _⟩ := h
    rfl
  · obtain ⟨p, dx, tl, n, U, xs, rfl, hp, htl, hti, n1, n6, hsub, q⟩ := h
    obtain ⟨tm, hmost⟩ := T.mp
    have W : WebOk n U := webOk_of n1 n6 hsub
    have ndU : U.Nodup := hsub.nodup (allP_facts n n6).1
    have hU15 : U.length ≤ 15 := Nat.le_trans hsub.length_le (allP_len n n6)
    refine ⟨_, pss_cons (ps_if (pt_not (pt_chain op_le op_le pe_int (pv 1) (pe_glob (v := .int 60) rfl hmost ⟨_, rfl⟩))) pss_never pss_nil)
      (pss_cons (ps_set (i := 3) scInit.nd rfl (.inl rfl) (pe_lst pa_nil))
      (pss_cons (ps_for PassesOwn.never rfl (pi_list (pv 2)) (pg_tup rfl (pgs_cons (pg_name (i := 4) scInit.nd rfl (.inl rfl)) (pgs_cons (pg_name (i := 5) scInit.nd rfl (.inl rfl)) pgs_nil)))
        (pss_cons (ps_set (i := 6) scInit.nd rfl (.inl rfl) (pe_tup (pa_cons (pe_callB (call_min2 rfl) (by rfl) T.min (by decide +kernel) (pa_cons (pv 4) (pa_cons (pv 5) pa_nil)))
            (pa_cons (pe_callB (call_max2 rfl) (by rfl) T.max (by decide +kernel) (pa_cons (pv 4) (pa_cons (pv 5) pa_nil))) pa_nil))))
        (pss_cons (ps_if (PW.pt (pw_or (pt_cmpR op_eq (pv 4) (pv 5) (nomark _)) (pw_or (pt_cmpR op_lt (pe_ix ix_tup (pv 6) pe_int (fun _ _ => rfl)) pe_int (nomark _))
            (pw_or (pt_cmpR op_ge (pe_ix ix_tup (pv 6) pe_int (fun _ _ => rfl)) (pv 1) (nomark _)) (pw_or1 (pt_cmpR (op_inD (room65 hr)) (pv 6) (pv 3) (by rfl))))))) pss_never pss_nil)
        (pss_one (ps_expr (pe_bm PySem.F.plainAttrs_list PySem.F.slot_list_append PySem.F.type_list_append mt_append (pv 3) (pa_cons (pv 6) pa_nil)))))))
      (pss_cons (ps_fld (pv 0) (pv 1) rfl)
      (pss_one (ps_fld (pv 0) (pe_callTy call_tuple_of (by rfl) T.tuple (by decide +kernel) (pa_cons (pe_callB cr_sortedP (by rfl) T.sorted (by decide +kernel) (pa_cons (pv 3) pa_nil)) pa_nil)) rfl))))), ?_⟩
    refine ⟨_, rfl, _, _, rfl, rfl, _, rfl, ?_⟩
    rw [decide_eq_true (show (1 : Int) ≤ (n : Int) by omega)]
    refine iteT ⟨_, _, rfl, rfl, _, rfl, iteNS (show (n : Int) ≤ 60 by omega) ?_⟩
    refine ⟨Nat.zero_le _, fun D hD => ?_⟩
    have s0 : Same H (upd H D (.lst [])) := same_new hD
    refine ⟨_, rfl, tl, rfl, ⟨_, SqL.of (s0 _ _ htl)⟩, for_list (K := K) (a := tl) (xs := xs)
      (fun i σ H' => ∃ (y4 y5 y6 : Option V) (zs : List V), σ = [some (.ref p), some (.int (n : Int)), some (.ref tl), some (.ref D), y4, y5, y6] ∧ Same H H' ∧ H' D = some (.lst zs) ∧ TIs H' zs ((U.take i).map pr))
      ⟨none, none, none, [], rfl, s0, upd_same, .nil⟩ (fun i σ H' _ ⟨_, _, _, _, _, s1, _⟩ => SqL.of (s1 _ _ htl)) ?_ ?_⟩
    · rintro i x σ H1 hx ⟨y4, y5, y6, zs, rfl, s1, hzs, hz⟩
      obtain ⟨ts, hts, t, rfl, ht⟩ := paired_at (hti.tk (Tk.of s1)) hx
      rw [List.getElem?_map] at hts
      obtain ⟨⟨c, d⟩, hcd, rfl⟩ := Option.map_eq_some_iff.mp hts
      obtain ⟨b0, b1, b2⟩ := allP_mem n6 (hsub.subset (List.mem_of_getElem? hcd))
      refine ⟨t, _, rfl, SqT.of ht, rfl, _, _, rfl, _, _, rfl, rfl, ?_⟩
      refine ⟨_, rfl, _, rfl, c, d, rfl, ?_⟩
      rw [if_neg (show ¬ d < c by omega)]
      refine ⟨_, rfl, _, rfl, c, d, rfl, ?_⟩
      rw [if_pos (show d > c by omega)]
      refine ⟨(by show 2 ≤ sizeLine; decide), fun tp ntp => ?_⟩
      have s2 : Same H1 (upd H1 tp (.tup [.int c, .int d])) := same_new ntp
      have htp : TI (upd H1 tp (.tup [.int c, .int d])) (.ref tp) (pr (c, d)) := ⟨tp, rfl, upd_same⟩
      refine ⟨_, rfl, _, rfl, rfl, _, rfl, ?_⟩
      rw [decide_eq_false (show ¬ V.int c = V.int d from fun z => by have := V.int.inj z; omega)]
      refine iteF ⟨_, rfl, tp, _, 0, .int c, rfl, rfl, SqT.of upd_same, atI_nat (j := 0) rfl, _, _, rfl, rfl, _, rfl, ?_⟩
      rw [decide_eq_false (show ¬ c < 0 by omega)]
      refine iteF ⟨_, rfl, tp, _, 1, .int d, rfl, rfl, SqT.of upd_same, atI_nat (j := 1) rfl, _, rfl, _, _, rfl, rfl, _, rfl, ?_⟩
      rw [decide_eq_false (show ¬ d ≥ (n : Int) by omega)]
      refine iteF ⟨_, rfl, _, rfl, tD (pr (c, d)), _, dp_ti htp, dp_list (s2 _ _ hzs) (hz.tk (Tk.of s2)), tD_shaped _, tDs_shaped _, _, rfl, ?_⟩
      rw [tDs_any]
      have hnew : ¬ pr (c, d) ∈ (U.take i).map pr := fun z => by
        obtain ⟨u, hu, e⟩ := List.mem_map.mp z
        rw [pr_inj e] at hu
        exact not_take ndU hcd hu
      rw [decide_eq_false hnew]
      have hz2 := s2 _ _ hzs
      refine iteF ⟨_, rfl, .inl ⟨rfl, _, SqL.of hz2⟩, _, rfl, D, _, _, rfl, rfl, hz2, ?_, ?_⟩
      · rw [Paired.length hz, List.length_map, List.length_take]
        exact small1000 (by omega)
      · refine ⟨_, _, _, _, rfl, same_wr (s1.trans s2) hD, upd_same, ?_⟩
        rw [take_snoc hcd, List.map_append]
        exact paired_snoc (hz.tk ((Tk.of s2).trans (Tk.wrL hz2))) (htp.tk (Tk.wrL hz2))
    · rintro σ H1 ⟨y4, y5, y6, zs, rfl, s1, hzs, hz⟩
      have hxl : xs.length = U.length := by
        rw [Paired.length hti, List.length_map]
      rw [hxl, List.take_length] at hz
      have hp1 := s1 _ _ hp
      refine ⟨_, rfl, _, rfl, p, C, dx, [], rfl, hp1, T.cl, T.nP, (by show 0 < 1000; decide), ?_⟩
      have nDp : D ≠ p := ne_of hzs hp1 fun z => by cases z
      have k1 : Tk H1 (upd H1 p (.ins C dx (putF "places" (.int (n : Int)) []))) := Tk.wr hp1 fun _ z => by cases z
      refine ⟨_, rfl, D, zs, rfl, SqL.of (by rw [upd_ne nDp]; exact hzs), fun x hx => ?_, fun ys r pm nr => ?_⟩
      · obtain ⟨i, hi⟩ := List.getElem?_of_mem hx
        obtain ⟨ts, hts, t, e, ht⟩ := paired_at (hz.tk k1) hi
        rw [List.getElem?_map] at hts
        obtain ⟨⟨c, d⟩, hcd, rfl⟩ := Option.map_eq_some_iff.mp hts
        exact ⟨t, c, d, e, ht⟩
      · obtain ⟨U', pU, hU'⟩ := paired_perm pm (paired_mapR (hz.tk k1))
        refine ⟨r, _, rfl, .inl ⟨SqL.of upd_same, fun u nu => ?_⟩⟩
        have npr : p ≠ r := ne_of_none upd_same nr
        have s3 : Same (upd H1 p (.ins C dx (putF "places" (.int (n : Int)) []))) (upd (upd (upd H1 p (.ins C dx (putF "places" (.int (n : Int)) []))) r (.lst ys)) u (.tup ys)) := (same_new nr).trans (same_new nu)
        have hp3 := s3 _ _ (upd_same : (upd H1 p (.ins C dx (putF "places" (.int (n : Int)) []))) p = _)
        have nup : u ≠ p := (ne_of_none (same_new nr _ _ upd_same) nu).symm
        refine ⟨_, rfl, p, C, dx, _, rfl, hp3, T.cl, T.nT, (by show 1 < 1000; decide), ?_⟩
        have k4 : Tk (upd H1 p (.ins C dx (putF "places" (.int (n : Int)) []))) (upd (upd (upd (upd H1 p (.ins C dx (putF "places" (.int (n : Int)) []))) r (.lst ys)) u (.tup ys)) p (.ins C dx (wf n u))) := (Tk.of s3).trans (Tk.wr hp3 fun _ z => by cases z)
        refine q _ U' ⟨W.perm pU, dx, u, ys, upd_same, by rw [upd_ne nup, upd_same], TIs.tk (mapR_paired hU') k4⟩ fun b o hb hbp => ?_
        rw [upd_ne hbp]
        refine s3 _ _ ?_
        rw [upd_ne hbp]
        exact s1 _ _ hb
end
end GrD
namespace GrD
open PySem PySem.Spec PyProof.Rows L2 GrT GrR Gr
section
variable {P : Program} {w : World} {K : PySem.W.Frag} {mg : Str → Option Value} {base : Heap} {C : Addr}
/-- _law_cell_at: some int -/
def spCell (K : PySem.W.Frag) : Sp := fun vs H Q _ => ∃ (a : Addr) (ns : List Int) (j : Nat), vs = [.ref a, .int (j : Int)] ∧ SqL K H a (ns.map V.int) ∧ ∀ z : Int, Q (.int z) H
theorem ok_cell {f : Addr} {fd : FuncData} (F : Fun K "_law_cell_at" "_law_cell_at" sLawCellAt f fd) (T : Txt K mg C) : FnOk P w K mg base CX0 1 f fd ["script", "k"] (spCell K) := by
  refine F.ok scLawCellAt (fun vs H Q E h => ?_) (fun cdv A outer s H vs Q E hr h => ?_)
  · obtain ⟨a, ns, j, rfl, _⟩ := h
    rfl
  · obtain ⟨a, ns, j, rfl, hS, q⟩ := h
    refine ⟨_, pss_cons (ps_if (pt_cmpR op_lt (pv 1) (pe_callB call_len_seq (by rfl) T.len PySem.boot_len (pa_cons (pv 0) pa_nil)) (nomark _)) (pss_one (ps_ret (pe_ix ix_list (pv 0) (pv 1) (fun _ _ => rfl)))) pss_nil) (pss_one (ps_ret pe_int)), ?_⟩
    refine ⟨_, rfl, _, rfl, a, _, rfl, .inl hS, _, _, rfl, rfl, _, rfl, ite2 (fun e => ?_) (fun e => ?_)⟩
    · have hj : j < ns.length := by
        have z := of_decide_eq_true e
        rw [List.length_map] at z
        omega
      refine ⟨_, rfl, _, rfl, a, _, _, .int ns[j], rfl, rfl, hS, atI_nat (j := j) ?_, q _⟩
      rw [List.getElem?_map, List.getElem?_eq_getElem hj]
      rfl
    · exact q 0
/-- _law_small_web: some web's places and ties -/
def spSmallWeb (K : PySem.W.Frag) : Sp := fun vs H Q _ => ∃ (a : Addr) (ns : List Int) (m : Nat), vs = [.ref a, .int (m : Int)] ∧ SqL K H a (ns.map V.int) ∧ 1 ≤ m ∧ m ≤ 6 ∧
  ∀ (H' : Hp) (t l : Addr) (n : Nat) (T : List (Int × Int)) (xs : List V), Same H H' → H' t = some (.tup [.int (n : Int), .ref l]) → H' l = some (.lst xs) → TIs H' xs (T.map pr) → 1 ≤ n → n ≤ 6 → T.Sublist (allP n) → Q (.ref t) H'
theorem ok_small_web {f : Addr} {fd : FuncData} (F : Fun K "_law_small_web" "_law_small_web" sLawSmallWeb f fd) (T : Txt K mg C) (GC : Good P w K mg base 1 "_law_cell_at" ["script", "k"] (spCell K)) : FnOk P w K mg base CX0 2 f fd ["script", "most"] (spSmallWeb K) := by
  refine F.ok scLawSmallWeb (fun vs H Q E h => ?_) (fun cdv A outer s H vs Q E hr h => ?_)
  · obtain ⟨a, ns, m, rfl, _⟩ := h
    rfl
  · obtain ⟨a, ns, m, rfl, hS, m1, m6, q⟩ := h
    refine ⟨_, pss_cons (ps_set (i := 2) scLawSmallWeb.nd rfl (.inl rfl) (pe_go GC hr (by rfl) (pa_cons (pv 0) (pa_cons pe_int pa_nil))))
      (pss_cons (ps_set (i := 3) scLawSmallWeb.nd rfl (.inl rfl) (pe_op op_add pe_int (pe_op op_modN (pv 2) (pv 1))))
      (pss_cons (ps_set (i := 4) scLawSmallWeb.nd rfl (.inl rfl) (pe_lst pa_nil))
      (pss_cons (ps_set (i := 5) scLawSmallWeb.nd rfl (.inl rfl) (pe_go GC hr (by rfl) (pa_cons (pv 0) (pa_cons pe_int pa_nil))))
      (pss_cons (ps_set (i := 6) scLawSmallWeb.nd rfl (.inl rfl) (pe_callB call_abs (by rfl) T.abs (by decide +kernel) (pa_cons (pv 5) pa_nil)))
      (pss_cons (ps_for PassesOwn.never rfl (pi_list (pe_slice sl_list (pv 0) (po_some pe_int) (po_some pe_int))) (pg_name (i := 7) scLawSmallWeb.nd rfl (.inl rfl))
        (pss_one (ps_set (i := 5) scLawSmallWeb.nd rfl (.inl rfl) (pe_op op_add (pe_op op_mul (pv 5) pe_int) (pe_op op_fdivN (pv 7) pe_int)))))
      (pss_cons (ps_set (i := 5) scLawSmallWeb.nd rfl (.inl rfl) (pe_op op_mod (pe_op op_mul (pe_op op_mod (pv 5) pe_int) pe_int) pe_int))
      (pss_cons (ps_set (i := 8) scLawSmallWeb.nd rfl (.inl rfl) (pe_op op_mod (pe_op op_fdivN (pv 2) (pv 1)) pe_int))
      (pss_cons (ps_for PassesOwn.never rfl (pi_range2 rfl T.range (pa_cons pe_int (pa_cons (pv 3) pa_nil))) (pg_name (i := 9) scLawSmallWeb.nd rfl (.inl rfl))
        (pss_one (ps_for PassesOwn.never rfl (pi_range1 rfl T.range (pa_cons (pv 9) pa_nil)) (pg_name (i := 10) scLawSmallWeb.nd rfl (.inl rfl))
          (pss_cons (ps_set (i := 5) scLawSmallWeb.nd rfl (.inl rfl) (pe_op op_add (pe_op op_add (pe_op op_add (pe_op op_mod (pe_op op_mul (pv 5) (pv 5)) pe_int) (pe_op op_mul pe_int (pv 9))) (pv 10)) pe_int))
          (pss_cons (ps_set (i := 11) scLawSmallWeb.nd rfl (.inl rfl) (pe_cmpR op_le (pe_op op_mod (pe_op op_fdivN (pv 5) pe_int) pe_int) (pv 8) (nomark _)))
          (pss_cons (ps_if (pt_cmpR op_eq (pe_op op_mod (pe_op op_fdivN (pe_op op_fdivN (pv 2) (pv 1)) pe_int) pe_int) pe_int (nomark _))
            (pss_cons (ps_set (i := 11) scLawSmallWeb.nd rfl (.inl rfl) (pe_cmpR op_eq (pe_op op_mod (pv 6) pe_int) pe_int (nomark _)))
            (pss_one (ps_set (i := 6) scLawSmallWeb.nd rfl (.inl rfl) (pe_op op_fdivN (pv 6) pe_int)))) pss_nil)
          (pss_one (ps_if (pt_val (pv 11)) (pss_one (ps_expr (pe_bm PySem.F.plainAttrs_list PySem.F.slot_list_append PySem.F.type_list_append mt_append (pv 4) (pa_cons (pe_tup (pa_cons (pv 10) (pa_cons (pv 9) pa_nil))) pa_nil)))) pss_nil))))))))
      (pss_one (ps_ret (pe_tup (pa_cons (pv 3) (pa_cons (pv 4) pa_nil))))))))))))), ?_⟩
    refine ⟨_, rfl, a, ns, 0, rfl, hS, fun head => ?_⟩
    obtain ⟨n, hn, n1, nm⟩ : ∃ n : Nat, 1 + head.fmod (m : Int) = (n : Int) ∧ 1 ≤ n ∧ n ≤ m := by
      have b1 : 0 ≤ head.fmod (m : Int) := Int.fmod_nonneg_of_pos _ (by omega)
      have b2 : head.fmod (m : Int) < (m : Int) := Int.fmod_lt_of_pos _ (by omega)
      exact ⟨(1 + head.fmod (m : Int)).toNat, by omega, by omega, by omega⟩
    refine ⟨_, rfl, _, rfl, _, _, rfl, rfl, (by omega : (m : Int) ≠ 0), _, _, rfl, rfl, ?_⟩
    dsimp only
    rw [hn]
    refine ⟨Nat.zero_le _, fun D hD => ?_⟩
    have s0 : Same H (upd H D (.lst [])) := same_new hD
    refine ⟨_, rfl, a, ns, 1, rfl, s0.seq hS, fun bits => ?_⟩
    refine ⟨_, rfl, _, rfl, ?_⟩
    refine ⟨_, rfl, 2, rfl, 12, rfl, a, _, rfl, s0.seq hS, fun c nc => ?_⟩
    have s1 : Same H (upd (upd H D (.lst [])) c (.lst (cutV (ns.map V.int) (some 2) (some 12)))) := s0.trans (same_new nc)
    have nDc : D ≠ c := ne_of_none upd_same nc
    refine ⟨c, rfl, ⟨_, SqL.of upd_same⟩, for_list (K := K) (a := c) (xs := cutV (ns.map V.int) (some 2) (some 12))
      (fun i σ H' => ∃ (b dg : Int) (y7 : Option V), σ = [some (.ref a), some (.int (m : Int)), some (.int head), some (.int (n : Int)), some (.ref D), some (.int b), some (.int dg), y7, none, none, none, none] ∧ H' = upd (upd H D (.lst [])) c (.lst (cutV (ns.map V.int) (some 2) (some 12))))
      ⟨_, _, _, rfl, rfl⟩ (fun i σ H' _ ⟨_, _, _, _, e⟩ => by rw [e]; exact SqL.of upd_same) ?_ ?_⟩
    · rintro i x σ H' hx ⟨b, dg, y7, rfl, rfl⟩
      have hm : x ∈ ns.map V.int := by
        have z := List.mem_of_getElem? hx
        unfold cutV at z
        exact List.mem_of_mem_drop (List.mem_of_mem_take z)
      obtain ⟨z, _, rfl⟩ := List.mem_map.mp hm
      refine ⟨_, rfl, _, _, rfl, rfl, .inr ⟨by decide, by decide⟩, ?_⟩
      refine ⟨_, rfl, _, _, rfl, rfl, ⟨by decide, by decide⟩, _, _, rfl, rfl, ?_⟩
      exact ⟨_, _, _, rfl, rfl⟩
    · rintro σ H' ⟨b, dg, y7, rfl, rfl⟩
      refine ⟨_, rfl, _, _, rfl, rfl, (by decide : (0 : Int) < 1000000007), _, _, rfl, rfl, .inr ⟨by decide, by decide⟩, _, _, rfl, rfl, (by decide : (0 : Int) < 998244353), ?_⟩
      obtain ⟨b2, hb2, l2, u2⟩ : ∃ b2 : Int, b % 1000000007 * 48271 % 998244353 = b2 ∧ 0 ≤ b2 ∧ b2 < 3000000000 := ⟨_, rfl, Int.emod_nonneg _ (by decide), Int.lt_trans (Int.emod_lt_of_pos _ (by decide)) (by decide)⟩
      dsimp only
      rw [hb2]
      refine ⟨_, rfl, _, rfl, _, _, rfl, rfl, ⟨by omega, by omega⟩, _, _, rfl, rfl, (by decide : (0 : Int) < 3), ?_⟩
      refine ⟨_, rfl, 1, (n : Int), rfl, ⟨by omega, by omega, by omega, by omega⟩, for_range (lo := 1) (n := ((n : Int) - 1).toNat)
        (fun i σ H' => ∃ (b dg dn : Int) (y7 y9 y10 y11 : Option V) (zs : List V) (U : List (Int × Int)), σ = [some (.ref a), some (.int (m : Int)), some (.int head), some (.int (n : Int)), some (.ref D), some (.int b), some (.int dg), y7, some (.int dn), y9, y10, y11] ∧
          (0 ≤ b ∧ b < 3000000000) ∧ Same H H' ∧ H' D = some (.lst zs) ∧ TIs H' zs (U.map pr) ∧ U.Sublist (allP (1 + i)))
        ⟨_, _, _, _, _, _, _, [], [], rfl, ⟨l2, u2⟩, s1, by rw [upd_ne nDc, upd_same], .nil, List.nil_sublist _⟩ ?_ ?_⟩
      · rintro i σ H' hi ⟨b, dg, dn, y7, y9, y10, y11, zs, U, rfl, ⟨lb, ub⟩, s2, hzs, hz, hU⟩
        refine ⟨_, rfl, _, rfl, by omega, by omega, for_range (lo := 0) (n := ((1 : Int) + ((i : Nat) : Int)).toNat)
          (fun j σ H' => ∃ (b dg dn : Int) (y10 y11 : Option V) (zs : List V) (U : List (Int × Int)), σ = [some (.ref a), some (.int (m : Int)), some (.int head), some (.int (n : Int)), some (.ref D), some (.int b), some (.int dg), y7, some (.int dn), some (.int ((1 : Int) + ((i : Nat) : Int))), y10, y11] ∧
            (0 ≤ b ∧ b < 3000000000) ∧ Same H H' ∧ H' D = some (.lst zs) ∧ TIs H' zs (U.map pr) ∧ U.Sublist (allP (1 + i) ++ rowP (1 + i) j))
          ⟨_, _, _, _, _, zs, U, rfl, ⟨lb, ub⟩, s2, hzs, hz, hU.trans (List.sublist_append_left _ _)⟩ ?_ ?_⟩
        · rintro j σ H3 hj ⟨b, dg, dn, y10, y11, zs, U, rfl, ⟨lb, ub⟩, s3, hzs, hz, hU⟩
          have hj1 : j < 1 + i := by omega
          have hin : 1 + i < n := by omega
          refine ⟨_, rfl, _, rfl, _, _, rfl, rfl, .inl ⟨by omega, by omega⟩, _, _, rfl, rfl, (by decide : (0 : Int) < 1000000007), ?_⟩
          refine ⟨_, rfl, _, _, rfl, rfl, .inl ⟨by decide, by decide⟩, _, _, rfl, rfl, _, rfl, _, _, rfl, rfl, _, _, rfl, rfl, ?_⟩
          obtain ⟨b3, hb3, l3, u3⟩ : ∃ b3 : Int, b * b % 1000000007 + 12 * ((1 : Int) + ((i : Nat) : Int)) + ((0 : Int) + ((j : Nat) : Int)) + 1 = b3 ∧ 0 ≤ b3 ∧ b3 < 3000000000 := by
            have e1 := Int.emod_nonneg (b * b) (show (1000000007 : Int) ≠ 0 by decide)
            have e2 := Int.emod_lt_of_pos (b * b) (show (0 : Int) < 1000000007 by decide)
            exact ⟨_, rfl, by omega, by omega⟩
          dsimp only
          rw [hb3]
          refine ⟨_, rfl, _, _, rfl, rfl, ⟨by decide, by decide⟩, _, _, rfl, rfl, (by decide : (0 : Int) < 4), _, rfl, _, _, rfl, rfl, ?_⟩
          have hUn : U.length ≤ 15 := by
            have z1 : (allP (1 + i) ++ rowP (1 + i) j).Sublist (allP (1 + i) ++ rowP (1 + i) (1 + i)) := by
              refine List.Sublist.append_left ?_ _
              unfold rowP
              exact (List.Sublist.map _ (List.range_sublist.mpr (by omega)))
            have z2 := (hU.trans z1).length_le
            rw [← allP_succ] at z2
            exact Nat.le_trans z2 (allP_len _ (by omega))
          have keepU : U.Sublist (allP (1 + i) ++ rowP (1 + i) (j + 1)) := by
            refine hU.trans ?_
            rw [rowP_succ, ← List.append_assoc]
            exact List.sublist_append_left _ _
          have moreU : (U ++ [((j : Int), ((1 + i : Nat) : Int))]).Sublist (allP (1 + i) ++ rowP (1 + i) (j + 1)) := by
            rw [rowP_succ, ← List.append_assoc]
            exact hU.append (List.Sublist.refl _)
          have eij : V.int ((1 : Int) + ((i : Nat) : Int)) = V.int ((1 + i : Nat) : Int) := congrArg V.int (by omega)
          have e0j : V.int ((0 : Int) + ((j : Nat) : Int)) = V.int (j : Int) := congrArg V.int (by omega)
          refine ⟨_, rfl, _, rfl, _, _, rfl, rfl, ⟨by omega, by omega⟩, _, _, rfl, rfl, ⟨by decide, by decide⟩, _, _, rfl, rfl, (by decide : (0 : Int) < 2), rfl, _, rfl, ite2 (fun _ => ?_) (fun _ => ?_)⟩
          · refine ⟨_, rfl, _, _, rfl, rfl, (by decide : (0 : Int) < 2), rfl, ?_⟩
            refine ⟨_, rfl, _, _, rfl, rfl, ⟨by decide, by decide⟩, ?_⟩
            refine ⟨_, rfl, _, rfl, ite2 (fun _ => ?_) (fun _ => ?_)⟩
            · refine ⟨_, rfl, .inl ⟨rfl, _, SqL.of hzs⟩, _, rfl, _, rfl, (by show 2 ≤ sizeLine; decide), fun tp ntp => ?_⟩
              have hz4 := same_new (o := .tup [V.int ((0 : Int) + ((j : Nat) : Int)), V.int ((1 : Int) + ((i : Nat) : Int))]) ntp _ _ hzs
              refine ⟨D, zs, _, rfl, rfl, hz4, ?_, ?_⟩
              · rw [Paired.length hz, List.length_map]
                exact small1000 (by omega)
              · refine ⟨_, _, _, _, _, _, _, rfl, ⟨l3, u3⟩, same_wr (s3.trans (same_new ntp)) hD, upd_same, ?_, moreU⟩
                rw [List.map_append]
                refine paired_snoc (hz.tk ((Tk.new ntp).trans (Tk.wrL hz4))) (TI.tk ⟨tp, rfl, ?_⟩ (Tk.wrL hz4))
                rw [upd_same, eij, e0j]
                rfl
            · exact ⟨_, _, _, _, _, _, _, rfl, ⟨l3, u3⟩, s3, hzs, hz, keepU⟩
          · refine ⟨_, rfl, _, rfl, ite2 (fun _ => ?_) (fun _ => ?_)⟩
            · refine ⟨_, rfl, .inl ⟨rfl, _, SqL.of hzs⟩, _, rfl, _, rfl, (by show 2 ≤ sizeLine; decide), fun tp ntp => ?_⟩
              have hz4 := same_new (o := .tup [V.int ((0 : Int) + ((j : Nat) : Int)), V.int ((1 : Int) + ((i : Nat) : Int))]) ntp _ _ hzs
              refine ⟨D, zs, _, rfl, rfl, hz4, ?_, ?_⟩
              · rw [Paired.length hz, List.length_map]
                exact small1000 (by omega)
              · refine ⟨_, _, _, _, _, _, _, rfl, ⟨l3, u3⟩, same_wr (s3.trans (same_new ntp)) hD, upd_same, ?_, moreU⟩
                rw [List.map_append]
                refine paired_snoc (hz.tk ((Tk.new ntp).trans (Tk.wrL hz4))) (TI.tk ⟨tp, rfl, ?_⟩ (Tk.wrL hz4))
                rw [upd_same, eij, e0j]
                rfl
            · exact ⟨_, _, _, _, _, _, _, rfl, ⟨l3, u3⟩, s3, hzs, hz, keepU⟩
        · rintro σ H3 ⟨b, dg, dn, y10, y11, zs, U, rfl, hb, s3, hzs, hz, hU⟩
          have e1 : ((1 : Int) + ((i : Nat) : Int)).toNat = 1 + i := by omega
          rw [e1, ← allP_succ] at hU
          exact ⟨b, dg, dn, y7, _, y10, y11, zs, U, rfl, hb, s3, hzs, hz, hU⟩
      · rintro σ H3 ⟨b, dg, dn, y7, y9, y10, y11, zs, U, rfl, hb, s3, hzs, hz, hU⟩
        have e1 : 1 + ((n : Int) - 1).toNat = n := by omega
        rw [e1] at hU
        refine ⟨_, rfl, _, rfl, (by show 2 ≤ sizeLine; decide), fun t nt => ?_⟩
        exact q _ t D n U zs (s3.trans (same_new nt)) upd_same (same_new nt _ _ hzs) (hz.tk (Tk.new nt)) n1 (by omega) hU
/-- _law_grown -/
def spGrown : Sp := fun vs H Q _ => ∃ (sa : Addr) (S : List Int) (p : Int), vs = [.ref sa, .int p] ∧ H sa = some (.tup (S.map V.int)) ∧ S.length ≤ 100 ∧ ∀ (H' : Hp) (t : Addr), Same H H' → H' t = some (.tup ((isort (S ++ [p])).map V.int)) → Q (.ref t) H'
theorem ok_grown {f : Addr} {fd : FuncData} (F : Fun K "_law_grown" "_law_grown" sLawGrown f fd) (T : Txt K mg C) : FnOk P w K mg base CX0 1 f fd ["standing", "place"] spGrown := by
  refine F.ok scLawGrown (fun vs H Q E h => ?_) (fun cdv A outer s H vs Q E hr h => ?_)
  · obtain ⟨sa, S, p, rfl, _⟩ := h
    rfl
  · obtain ⟨sa, S, p, rfl, hS, hl, q⟩ := h
    refine ⟨_, pss_one (ps_ret (pe_callTy call_tuple_of (by rfl) T.tuple (by decide +kernel) (pa_cons (pe_callB cr_sortedTup (by rfl) T.sorted (by decide +kernel) (pa_cons (pe_op op_catA (pv 0) (pe_tup (pa_cons (pv 1) pa_nil))) pa_nil)) pa_nil))), ?_⟩
    refine ⟨_, rfl, _, rfl, (by show 1 ≤ sizeLine; decide), fun t1 nt1 => ?_⟩
    refine catA_ti (ys := [p]) (same_new nt1 _ _ hS) upd_same (by show S.length + 1 ≤ 1000; omega) fun H2 t2 s2 ht2 => ?_
    refine ⟨t2, S ++ [p], rfl, ht2, fun ns r pm so nr => ?_⟩
    refine ⟨r, _, rfl, .inl ⟨SqL.of upd_same, fun u nu => ?_⟩⟩
    refine q _ u ((((same_new nt1).trans s2).trans (same_new nr)).trans (same_new nu)) ?_
    rw [upd_same, isort_unique pm so]
/-- _law_kept -/
def spKept : Sp := fun vs H Q _ => ∃ (n : Nat) (ol ml : Addr) (oxs mxs : List V) (os ms : List (List Int)), vs = [.int (n : Int), .ref ol, .ref ml] ∧ H ol = some (.lst oxs) ∧ TIs H oxs os ∧ H ml = some (.lst mxs) ∧ TIs H mxs ms ∧ n ≤ 6 ∧ (∀ S ∈ os, S.length ≤ 100) ∧
  (∀ S ∈ os, ∀ p, Inn n p → p ∉ S → isort (S ++ [p]) ∈ ms) ∧ ∀ H' : Hp, Same H H' → Q (.bl true) H'
theorem ok_kept {f : Addr} {fd : FuncData} (F : Fun K "_law_kept" "_law_kept" sLawKept f fd) (T : Txt K mg C) (GG : Good P w K mg base 1 "_law_grown" ["standing", "place"] spGrown) : FnOk P w K mg base CX0 2 f fd ["places", "ones", "more"] spKept := by
  refine F.ok scLawKept (fun vs H Q E h => ?_) (fun cdv A outer s H vs Q E hr h => ?_)
  · obtain ⟨n, ol, ml, oxs, mxs, os, ms, rfl, _⟩ := h
    rfl
  · obtain ⟨n, ol, ml, oxs, mxs, os, ms, rfl, hol, hos, hml, hms, n6, hlen, hall, q⟩ := h
    refine ⟨_, pss_cons (ps_for PassesOwn.never rfl (pi_list (pv 1)) (pg_name (i := 3) scLawKept.nd rfl (.inl rfl))
        (pss_one (ps_for PassesOwn.never rfl (pi_range1 rfl T.range (pa_cons (pv 0) pa_nil)) (pg_name (i := 4) scLawKept.nd rfl (.inl rfl))
          (pss_one (ps_if (PW.pt (pw_and (pt_cmpR op_notIn_seq (pv 4) (pv 3) (by rfl)) (pw_and1 (pt_cmpR (op_notInD (room65 hr)) (pe_go GG hr (by rfl) (pa_cons (pv 3) (pa_cons (pv 4) pa_nil))) (pv 2) (by rfl)))))
            (pss_one (ps_ret pe_bl)) pss_nil)))))
      (pss_one (ps_ret pe_bl)), ?_⟩
    refine ⟨_, rfl, ol, rfl, ⟨_, SqL.of hol⟩, for_list (K := K) (a := ol) (xs := oxs)
      (fun i σ H' => ∃ (y3 y4 : Option V), σ = [some (.int (n : Int)), some (.ref ol), some (.ref ml), y3, y4] ∧ Same H H')
      ⟨none, none, rfl, Same.refl H⟩ (fun i σ H' _ ⟨_, _, _, s1⟩ => SqL.of (s1 _ _ hol)) ?_ ?_⟩
    · rintro i x σ H1 hx ⟨y3, y4, rfl, s1⟩
      obtain ⟨S, hS, t, rfl, ht⟩ := paired_at (hos.tk (Tk.of s1)) hx
      have hSm := List.mem_of_getElem? hS
      refine ⟨_, rfl, _, rfl, by omega, by omega, for_range (lo := 0) (n := ((n : Nat) : Int).toNat)
        (fun j σ H' => ∃ y4 : Option V, σ = [some (.int (n : Int)), some (.ref ol), some (.ref ml), some (.ref t), y4] ∧ Same H1 H') ⟨y4, rfl, Same.refl H1⟩ ?_ ?_⟩
      · rintro j σ H2 hj ⟨z4, rfl, s2⟩
        have hp : Inn n ((0 : Int) + ((j : Nat) : Int)) := ⟨by omega, by omega⟩
        have ht2 := s2 _ _ ht
        refine ⟨_, rfl, _, rfl, t, _, rfl, .inr (SqT.of ht2), rfl, flat_ints _, _, rfl, ?_⟩
        rw [inV_ints]
        show if (!decide ((0 : Int) + ((j : Nat) : Int) ∈ S)) = true then _ else _
        by_cases e : (0 : Int) + ((j : Nat) : Int) ∈ S
        · rw [decide_eq_true e]
          exact iteF (iteF ⟨_, rfl, s2⟩)
        · rw [decide_eq_false e]
          refine iteT ⟨_, rfl, _, rfl, t, S, _, rfl, ht2, hlen S hSm, fun H3 u s3 hu => ?_⟩
          have s13 := (s1.trans s2).trans s3
          refine ⟨_, rfl, tD (isort (S ++ [(0 : Int) + ((j : Nat) : Int)])), _, dp_ti ⟨u, rfl, hu⟩, dp_list (s13 _ _ hml) (hms.tk (Tk.of s13)), tD_shaped _, tDs_shaped _, _, rfl, ?_⟩
          rw [tDs_any, decide_eq_true (hall S hSm _ hp e)]
          exact iteF ⟨_, rfl, s2.trans s3⟩
      · rintro σ H2 ⟨z4, rfl, s2⟩
        exact ⟨_, _, rfl, s1.trans s2⟩
    · rintro σ H1 ⟨y3, y4, rfl, s1⟩
      exact q H1 s1
end
end GrD
namespace GrD
open PySem PySem.Spec PyProof.Rows L2 GrT GrR Gr
theorem ne_dec {A B : Prop} [Decidable A] [Decidable B] (h : A ↔ B) : (!decide (V.bl (decide A) = V.bl (decide B))) = false := by
  have e : decide A = decide B := decide_eq_decide.mpr h
  rw [e, decide_eq_true rfl]
  rfl
section
variable {P : Program} {w : World} {K : PySem.W.Frag} {mg : Str → Option Value} {base : Heap} {C : Addr}
/-- _law_kind: True -/
def spKind (C : Addr) : Sp := fun vs H Q _ => ∃ (a : Addr) (n : Nat) (T : List (Int × Int)) (one : Bool), vs = [.ref a, kd one] ∧ WebAt C H a n T ∧ ∀ H' : Hp, Same H H' → Q (.bl true) H'
theorem ok_kind {f : Addr} {fd : FuncData} (F : Fun K "_law_kind" "_law_kind" sLawKind f fd) (T : Txt K mg C) (GL : Good P w K mg base 8 "lasting" ["web", "guards", "kind"] (spLasting C)) (GK : Good P w K mg base 2 "_law_kept" ["places", "ones", "more"] spKept)
    (GU : Good P w K mg base 3 "first_unwatched" ["web", "some"] (spFirstUnwatched C)) (GF : Good P w K mg base 9 "fewest" ["web", "kind"] (spFewest C)) (GP : Good P w K mg base 9 "guide_paper" ["web", "guards", "kind"] (spGuidePaper C))
    (GC : Good P w K mg base 9 "caller_paper" ["web", "guards", "kind"] (spCallerPaper C)) : FnOk P w K mg base CX0 10 f fd ["web", "kind"] (spKind C) := by
  refine F.ok scLawKind (fun vs H Q E h => ?_) (fun cdv A outer s H vs Q E hr h => ?_)
  · obtain ⟨a, n, U, one, rfl, _⟩ := h
    rfl
  · obtain ⟨a, n, U, one, rfl, hw, q⟩ := h
    obtain ⟨W, dx, at_, txs, h1, h2, h3⟩ := id hw
    have hle := W.le
    have hn1 := W.pos
    refine ⟨_, pss_cons (ps_set (i := 2) scLawKind.nd rfl (.inl rfl) (pe_lst pa_nil))
      (pss_cons (ps_for PassesOwn.never rfl (pi_range2 (by rfl) T.range (pa_cons pe_int (pa_cons (pe_op op_add (pe_fld (pv 0) rfl) pe_int) pa_nil))) (pg_name (i := 3) scLawKind.nd rfl (.inl rfl))
        (pss_cons (ps_set (i := 4) scLawKind.nd rfl (.inl rfl) (pe_go GL (hr.mono (by decide)) (by rfl) (pa_cons (pv 0) (pa_cons (pv 3) (pa_cons (pv 1) pa_nil)))))
        (pss_cons (ps_if (pt_not (pt_val (pe_go GK (hr.mono (by decide)) (by rfl) (pa_cons (pe_fld (pv 0) rfl) (pa_cons (pv 2) (pa_cons (pv 4) pa_nil)))))) (pss_one (ps_ret pe_bl)) pss_nil)
        (pss_cons (ps_if (pt_not (pt_val (pe_callB (cr_all rfl) (by rfl) T.all (by decide +kernel) (pa_cons (pe_lc (own := [("standing", 5)]) (g := gName 5) (tt := tYes) rfl scLawKind.nd (pi_list (pv 4))
            (blkOk_by (own := [("standing", 5)]) (N := ["web", "kind", "ones", "guards", "more", "standing"]) (sc := defScope sLawKind) (by decide +kernel))
            (fun _ _ _ _ _ => pg_name (i := 5) scLawKind.nd rfl (.inl rfl)) (fun _ _ _ _ _ => pts_nil) (fun _ _ _ _ _ => pe_cmp (pc_isN (pe_go GU (hr.mono (by decide)) (by rfl) (pa_cons (pv 0) (pa_cons (pv 5) pa_nil)))) rfl)) pa_nil)))) (pss_one (ps_ret pe_bl)) pss_nil)
        (pss_cons (ps_if (pt_cmpR op_ne (pe_cmpR op_lt (pv 3) (pe_go GF hr (by rfl) (pa_cons (pv 0) (pa_cons (pv 1) pa_nil))) (nomark _)) (pe_cmpR (op_eqD hr.units) (pv 4) (pe_lst pa_nil) (nomark _)) (nomark _)) (pss_one (ps_ret pe_bl)) pss_nil)
        (pss_cons (ps_if (pt_cmpR op_ne (pe_cmp (pc_isN (pe_go GP hr (by rfl) (pa_cons (pv 0) (pa_cons (pv 3) (pa_cons (pv 1) pa_nil))))) rfl) (pe_cmp (pc_notN (pe_go GC hr (by rfl) (pa_cons (pv 0) (pa_cons (pv 3) (pa_cons (pv 1) pa_nil))))) rfl) (nomark _)) (pss_one (ps_ret pe_bl)) pss_nil)
        (pss_one (ps_set (i := 2) scLawKind.nd rfl (.inl rfl) (pv 4)))))))))
      (pss_one (ps_ret (pe_cmpR op_eq (pe_callB call_len_seq (by rfl) T.len PySem.boot_len (pa_cons (pv 2) pa_nil)) pe_int (nomark _))))), ?_⟩
    refine ⟨Nat.zero_le _, fun ol0 nol => ?_⟩
    have s0 : Same H (upd H ol0 (.lst [])) := same_new nol
    refine ⟨_, rfl, a, C, dx, _, _, rfl, s0 _ _ h1, T.cl, T.nP, wf_places _ _, _, _, rfl, rfl, 1, (n : Int) + 1, rfl, ⟨by omega, by omega, by omega, by omega⟩, for_range (lo := 1) (n := ((n : Int) + 1 - 1).toNat)
      (fun i σ H' => ∃ (ol : Addr) (oxs : List V) (os : List (List Int)) (y3 y4 : Option V), σ = [some (.ref a), some (kd one), some (.ref ol), y3, y4, none] ∧ Same H H' ∧ H' ol = some (.lst oxs) ∧ TIs H' oxs os ∧ os.length ≤ many n i + (if i = 0 then 20 else 0) ∧ ∀ S, S ∈ os ↔ (1 ≤ i ∧ Lasts one n U i S))
      ⟨ol0, [], [], none, none, rfl, s0, upd_same, .nil, Nat.zero_le _, fun S => ⟨(fun z => by cases z), fun z => absurd z.1 (by decide)⟩⟩ ?_ ?_⟩
    · rintro i σ H1 hi ⟨ol, oxs, os, y3, y4, rfl, s1, hol, hos, holen, hom⟩
      have hin : i < n := by omega
      have eg : (1 : Int) + ((i : Nat) : Int) = ((1 + i : Nat) : Int) := by omega
      rw [eg]
      refine ⟨_, rfl, _, rfl, _, rfl, a, n, 1 + i, U, one, rfl, hw.same s1, by omega, by omega, fun H2 ml mxs ms s2 hml hms hmlen hmm => ?_⟩
      have s12 := s1.trans s2
      have hol2 := s2 _ _ hol
      have hos2 := hos.tk (Tk.of s2)
      refine ⟨_, rfl, a, C, dx, _, _, rfl, s12 _ _ h1, T.cl, T.nP, wf_places _ _, _, rfl, _, rfl, n, ol, ml, oxs, mxs, os, ms, rfl, hol2, hos2, hml, hms, hle, fun S hS => ?_, fun S hS p hp hpn => ?_, fun H3 s3 => ?_⟩
      · have := ((hom S).mp hS).2.st.1
        omega
      · have z := lasts_grown W ((hom S).mp hS).2 hp hpn
        rw [Nat.add_comm] at z
        exact (hmm _).mpr z
      refine ⟨_, rfl, iteF ?_⟩
      have hml3 := s3 _ _ hml
      have hms3 := hms.tk (Tk.of s3)
      have s13 := s12.trans s3
      refine ⟨_, rfl, ml, rfl, ⟨_, SqL.of hml3⟩, fun D hD => lc_list (K := K) (a := ml) (xs := mxs) (fun j H' => Same H3 H' ∧ H' D = some (.lst ((List.replicate j true).map V.bl))) ⟨same_new hD, upd_same⟩ (fun j H' _ ⟨s4, _⟩ => SqL.of (s4 _ _ hml3)) ?_ ?_⟩
      · rintro j x H4 hx ⟨s4, hzs⟩
        obtain ⟨S, hS, t, rfl, ht⟩ := paired_at (hms3.tk (Tk.of s4)) hx
        have hl := (hmm S).mp (List.mem_of_getElem? hS)
        have hj := (List.getElem?_eq_some_iff.mp hS).1
        have m20 := (many_small n (1 + i) hle (by omega)).2
        refine ⟨rfl, yesT ?_⟩
        refine ⟨_, rfl, _, rfl, a, t, n, U, S, rfl, hw.same (s13.trans s4), ht, fun p hp hpn => lasts_watch hl hp hpn, fun H5 s5 => ?_⟩
        dsimp only
        rw [decide_eq_true (rfl : V.non = V.non)]
        refine ⟨_, s5 _ _ hzs, ?_, same_wr (s4.trans s5) hD, ?_⟩
        · rw [List.length_map, List.length_replicate]
          exact small1000 (by omega)
        · rw [upd_same, List.replicate_succ', List.map_append]
          rfl
      · rintro H4 ⟨s4, hzs⟩
        refine ⟨D, _, rfl, SqL.of hzs, _, rfl, ?_⟩
        have ea : (List.replicate mxs.length true).all id = true := List.all_eq_true.mpr fun b hb => (List.mem_replicate.mp hb).2
        rw [ea]
        refine iteF ?_
        have s14 := s13.trans s4
        refine ⟨_, rfl, _, rfl, _, rfl, a, n, U, one, rfl, hw.same s14, fun H5 f s5 f1 fn hfl hfno => ?_⟩
        have s15 := s14.trans s5
        refine ⟨_, _, rfl, rfl, _, rfl, Nat.zero_le _, fun e0 ne0 => ?_⟩
        have s6 : Same H5 (upd H5 e0 (.lst [])) := same_new ne0
        have s36 := (s4.trans s5).trans s6
        refine ⟨_, _, dp_list (s36 _ _ hml3) (hms3.tk (Tk.of s36)), dp_list (ss := []) upd_same .nil, tDs_shaped _, tDs_shaped [], rfl, _, rfl, ?_⟩
        rw [tDs_nil]
        have hiff : (((1 + i : Nat) : Int) < (f : Int)) ↔ ms = [] := by
          constructor
          · intro hlt
            exact (none_lasts hmm).mpr (hfno (1 + i) (by omega) (by omega))
          · intro e
            refine Classical.byContradiction fun hge => ?_
            have hd : f + (1 + i - f) = 1 + i := by omega
            obtain ⟨S, hS⟩ := lasts_up W hfl (1 + i - f) (by omega)
            rw [hd] at hS
            exact (none_lasts hmm).mp e S hS
        rw [ne_dec hiff]
        refine iteF ?_
        have s16 := s15.trans s6
        refine ⟨_, rfl, _, rfl, _, rfl, a, n, 1 + i, U, one, rfl, hw.same s16, by omega, by omega, fun H7 v s7 hv => ?_⟩
        refine ⟨_, rfl, _, rfl, _, rfl, a, n, 1 + i, U, one, rfl, hw.same (s16.trans s7), by omega, by omega, fun H8 u s8 hu8 => ?_⟩
        have s18 := (s16.trans s7).trans s8
        have s38 := (s36.trans s7).trans s8
        have eb : (!decide (V.bl (decide (v = V.non)) = V.bl (!decide (u = V.non)))) = false := by
          rcases hv with ⟨rfl, hno⟩ | ⟨⟨p, rfl⟩, S, hS⟩
          · rcases hu8 with ⟨rfl, S, hS⟩ | ⟨⟨p', rfl⟩, _⟩
            · exact absurd hS (hno S)
            · rw [decide_eq_true (rfl : V.non = V.non), decide_eq_false (show ¬ V.ref p' = V.non from fun z => by cases z)]
              rfl
          · rcases hu8 with ⟨rfl, _⟩ | ⟨⟨p', rfl⟩, hno⟩
            · rw [decide_eq_true (rfl : V.non = V.non), decide_eq_false (show ¬ V.ref p = V.non from fun z => by cases z)]
              rfl
            · exact absurd hS (hno S)
        refine ⟨rfl, _, rfl, ?_⟩
        rw [eb]
        refine iteF ⟨_, rfl, ml, mxs, ms, _, _, rfl, s18, s38 _ _ hml3, hms3.tk (Tk.of s38), ?_, fun S => ?_⟩
        · rw [if_neg (Nat.succ_ne_zero i), Nat.add_zero, Nat.add_comm i 1]
          exact hmlen
        · rw [hmm S, Nat.add_comm i 1]
          exact ⟨fun z => ⟨by omega, z⟩, fun z => z.2⟩
    · rintro σ H1 ⟨ol, oxs, os, y3, y4, rfl, s1, hol, hos, holen, hom⟩
      have en : ((n : Int) + 1 - 1).toNat = n := by omega
      rw [en] at holen hom
      rw [if_neg (by omega), Nat.add_zero, full_one n hle hn1] at holen
      have hmem : rangeI n ∈ os := (hom _).mpr ⟨hn1, full_lasts (full_is n)⟩
      have h0 := List.length_pos_of_mem hmem
      refine ⟨_, rfl, ol, _, rfl, .inl (SqL.of hol), rfl, ?_⟩
      have el : oxs.length = 1 := by
        rw [Paired.length hos]
        omega
      rw [el, decide_eq_true (show V.int ((1 : Nat) : Int) = V.int 1 from rfl)]
      exact q H1 s1
end
end GrD
namespace GrD
open PySem PySem.Spec PyProof.Rows L2 GrT GrR Gr
section
variable {P : Program} {w : World} {K : PySem.W.Frag} {mg : Str → Option Value} {base : Heap} {C : Addr}
/-- law: True -/
def spLaw (K : PySem.W.Frag) : Sp := fun vs H Q _ => ∃ (a : Addr) (ns : List Int), vs = [.ref a] ∧ SqL K H a (ns.map V.int) ∧ ns.length ≤ 63 ∧ ∀ H', Q (.bl true) H'
theorem ok_law {f fI : Addr} {fd fdI : FuncData} (F : Fun K "law" "law" sLaw f fd) (T : Txt K mg C) (M : Mk K C fI) (GI : FnOk P w K mg base CX0 1 fI fdI ["self", "places", "ties"] (spInit C)) (bI : Binds K fdI ["self", "places", "ties"] [])
    (GW : Good P w K mg base 2 "_law_small_web" ["script", "most"] (spSmallWeb K)) (GC : Good P w K mg base 1 "_law_cell_at" ["script", "k"] (spCell K)) (GK : Good P w K mg base 10 "_law_kind" ["web", "kind"] (spKind C))
    (GL : Good P w K mg base 8 "lasting" ["web", "guards", "kind"] (spLasting C)) : FnOk P w K mg base CX0 11 f fd ["script"] (spLaw K) := by
  refine F.ok scLaw (fun vs H Q E h => ?_) (fun cdv A outer s H vs Q E hr h => ?_)
  · obtain ⟨a, ns, rfl, _⟩ := h
    rfl
  · obtain ⟨a, ns, rfl, hS, hlen, q⟩ := h
    refine ⟨_, pss_cons (ps_asg (pe_go GW (hr.mono (by decide)) (by rfl) (pa_cons (pv 0) (pa_cons (pe_op op_add pe_int (pe_callTy call_int1 (by rfl) T.int (by decide +kernel)
          (pa_cons (pe_cmpR op_eq (pe_op op_mod (pe_go GC (hr.mono (by decide)) (by rfl) (pa_cons (pv 0) (pa_cons pe_int pa_nil))) pe_int) pe_int (nomark _)) pa_nil))) pa_nil)))
        (pg_tup rfl (pgs_cons (pg_name (i := 1) scLaw.nd rfl (.inl rfl)) (pgs_cons (pg_name (i := 2) scLaw.nd rfl (.inl rfl)) pgs_nil))))
      (pss_cons (ps_set (i := 3) scLaw.nd rfl (.inl rfl) (pe_make M GI (hr.mono (by decide)) (by rfl) T.mgC bI .nil pass0 (pa_cons (pv 1) (pa_cons (pv 2) pa_nil))))
      (pss_cons (ps_if (PW.pt (pw_or (pt_not (pt_val (pe_go GK hr (by rfl) (pa_cons (pv 3) (pa_cons pe_str pa_nil))))) (pw_or1 (pt_not (pt_val (pe_go GK hr (by rfl) (pa_cons (pv 3) (pa_cons pe_str pa_nil)))))))) (pss_one (ps_ret pe_bl)) pss_nil)
      (pss_cons (ps_for PassesOwn.never rfl (pi_range2 (by rfl) T.range (pa_cons pe_int (pa_cons (pe_op op_add (pv 1) pe_int) pa_nil))) (pg_name (i := 4) scLaw.nd rfl (.inl rfl))
        (pss_cons (ps_set (i := 5) scLaw.nd rfl (.inr rfl) (pe_go GL (hr.mono (by decide)) (by rfl) (pa_cons (pv 3) (pa_cons (pv 4) (pa_cons pe_str pa_nil)))))
        (pss_one (ps_if (pt_not (pt_val (pe_callB (cr_all rfl) (by rfl) T.all (by decide +kernel) (pa_cons (pe_lc (own := [("standing", 6)]) (g := gName 6) (tt := tYes) rfl scLaw.nd (pi_list (pe_go GL (hr.mono (by decide)) (by rfl) (pa_cons (pv 3) (pa_cons (pv 4) (pa_cons pe_str pa_nil)))))
            (blkOk_by (own := [("standing", 6)]) (N := ["script", "places", "pairs", "web", "guards", "every", "standing"]) (sc := defScope sLaw) (by decide +kernel))
            (fun _ _ _ _ _ => pg_name (i := 6) scLaw.nd rfl (.inl rfl)) (fun _ _ _ _ _ => pts_nil) (fun _ _ _ _ _ => pe_cmpR (op_inD (room65 hr) : OpR _ _ (rInD K)) (pv 6) (pv 5) (by rfl))) pa_nil)))) (pss_one (ps_ret pe_bl)) pss_nil))))
      (pss_one (ps_ret pe_bl))))), ?_⟩
    refine ⟨_, rfl, _, rfl, a, ns, 2, rfl, hS, fun z => ?_⟩
    refine ⟨_, _, rfl, rfl, (by decide : (0 : Int) < 4), rfl, .inr ⟨_, rfl, _, _, rfl, rfl, ?_⟩⟩
    obtain ⟨m, hm, m1, m6⟩ : ∃ m : Nat, (5 : Int) + (if decide (V.int (z % 4) = V.int 1) = true then 1 else 0) = (m : Int) ∧ 1 ≤ m ∧ m ≤ 6 := by
      by_cases e : decide (V.int (z % 4) = V.int 1) = true
      · rw [if_pos e]
        exact ⟨6, rfl, by decide, by decide⟩
      · rw [if_neg e]
        exact ⟨5, rfl, by decide, by decide⟩
    refine ⟨a, ns, m, ?_, hS, m1, m6, fun H1 t l n U xs s1 ht hl hti n1 n6 hU => ?_⟩
    · show [V.ref a, V.int ((5 : Int) + (if decide (V.int (z % 4) = V.int 1) = true then 1 else 0))] = _
      rw [hm]
    refine ⟨t, _, rfl, SqT.of ht, rfl, _, _, rfl, _, _, rfl, rfl, ?_⟩
    refine ⟨_, rfl, _, rfl, ?_⟩
    intro x dx nx ndx nex
    have s2 : Same H1 (upd (upd H1 dx (.own x)) x (.ins C dx [])) := fun b o e => by
      rw [upd_ne (ne_of_none e nx), upd_ne (ne_of_none e ndx)]
      exact e
    refine ⟨x, dx, l, n, U, xs, rfl, upd_same, s2 _ _ hl, hti.tk (Tk.of s2), n1, n6, hU, fun H2 U' hw k2 => ⟨rfl, ?_⟩⟩
    refine ⟨_, rfl, x, n, U', true, rfl, hw, fun H3 s3 => ⟨_, rfl, iteF ?_⟩⟩
    refine ⟨_, rfl, x, n, U', false, rfl, hw.same s3, fun H4 s4 => ⟨_, rfl, iteF ?_⟩⟩
    have hw4 := hw.same (s3.trans s4)
    refine ⟨_, rfl, _, _, rfl, rfl, 1, (n : Int) + 1, rfl, ⟨by omega, by omega, by omega, by omega⟩, for_range (lo := 1) (n := ((n : Int) + 1 - 1).toNat)
      (fun i σ H' => ∃ (y4 y5 : Option V), σ = [some (.ref a), some (.int (n : Int)), some (.ref l), some (.ref x), y4, y5, none] ∧ Same H4 H') ⟨none, none, rfl, Same.refl H4⟩ ?_ ?_⟩
    · rintro i σ H5 hi ⟨y4, y5, rfl, s5⟩
      have hin : i < n := by omega
      have eg : (1 : Int) + ((i : Nat) : Int) = ((1 + i : Nat) : Int) := by omega
      rw [eg]
      refine ⟨_, rfl, _, rfl, x, n, 1 + i, U', false, rfl, hw4.same s5, by omega, by omega, fun H6 el exs es s6 hel hes helen hem => ?_⟩
      have s56 := s5.trans s6
      refine ⟨_, rfl, _, rfl, x, n, 1 + i, U', true, rfl, hw4.same s56, by omega, by omega, fun H7 ol oxs os s7 hol hos holen hom => ?_⟩
      have m20 := (many_small n (1 + i) n6 (by omega)).2
      refine ⟨ol, rfl, ⟨_, SqL.of hol⟩, fun D hD => lc_list (K := K) (a := ol) (xs := oxs) (fun j H' => Same H7 H' ∧ H' D = some (.lst ((List.replicate j true).map V.bl))) ⟨same_new hD, upd_same⟩ (fun j H' _ ⟨s8, _⟩ => SqL.of (s8 _ _ hol)) ?_ ?_⟩
      · rintro j y H8 hy ⟨s8, hzs⟩
        obtain ⟨S, hS', t', rfl, ht'⟩ := paired_at (hos.tk (Tk.of s8)) hy
        have hl1 := (hom S).mp (List.mem_of_getElem? hS')
        have hj := (List.getElem?_eq_some_iff.mp hS').1
        have hin2 : S ∈ es := (hem S).mpr (lasts_one_all hl1)
        refine ⟨rfl, yesT ?_⟩
        refine ⟨_, rfl, _, rfl, tD S, _, dp_ti ⟨t', rfl, ht'⟩, dp_list ((s7.trans s8) _ _ hel) (hes.tk (Tk.of (s7.trans s8))), tD_shaped _, tDs_shaped _, ?_⟩
        rw [tDs_any, decide_eq_true hin2]
        refine ⟨_, hzs, ?_, same_wr s8 hD, ?_⟩
        · rw [List.length_map, List.length_replicate]
          exact small1000 (by omega)
        · rw [upd_same, List.replicate_succ', List.map_append]
          rfl
      · rintro H8 ⟨s8, hzs⟩
        refine ⟨D, _, rfl, SqL.of hzs, _, rfl, ?_⟩
        have ea : (List.replicate oxs.length true).all id = true := List.all_eq_true.mpr fun b hb => (List.mem_replicate.mp hb).2
        rw [ea]
        exact iteF ⟨_, _, rfl, (s56.trans s7).trans s8⟩
    · rintro σ H5 ⟨y4, y5, rfl, s5⟩
      exact q H5
end
end GrD
namespace GrD
open PySem PySem.Spec PyProof.Rows L2 GrT GrR Gr
/-- a def as the top has left it -/
structure Stood (K : PySem.W.Frag) (x : Str) (st : Stmt) (f : Addr) : Prop where
  ex : ∃ (oc : Value) (od an : Option Addr) (kV dc pm cd ct : Value) (sl : Array (Option Value)), K.lookup f = some ⟨oc, od, .func (PySem.W.fnOf x x (defArgs st) (defBody st) (defScope st) .none kV dc pm an cd ct), sl⟩ ∧ PySem.W.codeIn K cd x = true
  kp : PySem.W.keepIn K (.ref f) = true
  ns : PySem.W.nsIn K mainGlobals x = some (some (.ref f))
theorem Stood.def {K : PySem.W.Frag} {mg : Str → Option Value} {h : Heap} {x : Str} {st : Stmt} {f : Addr} {ps : List Str} (S : Stood K x st f) (X : K.In h) (G : h.Ns mainGlobals mg)
    (hb : ∀ (kV doc pm : Value) (an : Option Addr) (cdv ct : Value) (us : List Value), us.length = ps.length → bindArgs (PySem.W.fnOf x x (defArgs st) (defBody st) (defScope st) .none kV doc pm an cdv ct) ⟨us, []⟩ = pure (ps.zip us)) : ∃ fd, Def K mg x st ps f fd := by
  obtain ⟨oc, od, an, kV, dc, pm, cd, ct, sl, l, c⟩ := S.ex
  have F := fun_mk (st := st) l c S.kp
  exact ⟨_, F, F.binds hb, PySem.W.mg_of X G S.ns⟩
theorem cst {K : PySem.W.Frag} {x : Str} {v : Int} {t : Tok} (h : PySem.W.nsIn K mainGlobals x = some (some (.int v t))) : ∃ t, PySem.W.nsIn K mainGlobals x = some (some (.int v t)) := ⟨t, h⟩
theorem stood {K : PySem.W.Frag} {x : Str} {st : Stmt} {f : Addr} {oc : Value} {od an : Option Addr} {kV dc pm cd ct : Value} {sl : Array (Option Value)}
    (a : PySem.W.nsIn K mainGlobals x = some (some (.ref f))) (l : K.lookup f = some ⟨oc, od, .func (PySem.W.fnOf x x (defArgs st) (defBody st) (defScope st) .none kV dc pm an cd ct), sl⟩) (c : PySem.W.codeIn K cd x = true) (k : PySem.W.keepIn K (.ref f) = true) : Stood K x st f :=
  ⟨⟨oc, od, an, kV, dc, pm, cd, ct, sl, l, c⟩, k, a⟩
/-- the constants and built-in names, the class -/
structure TopNames (K : PySem.W.Frag) (C fI : Addr) : Prop where
  aC : PySem.W.nsIn K mainGlobals "Web" = some (some (.ref C))
  pg : PySem.W.plainGet K C Str.empty = true
  hd : PySem.W.hasDictIn K C = true
  po : PySem.W.plainOver K C = true
  sa : PySem.W.findIn K (.ref C) "__setattr__" = some (some (.builtin "object.__setattr__"))
  mkC : PySem.W.makesIn K C = true
  kc : PySem.W.keepIn K (.ref C) = true
  nP : PySem.W.findIn K (.ref C) "places" = some none
  nT : PySem.W.findIn K (.ref C) "ties" = some none
  aI : PySem.W.findIn K (.ref C) "__init__" = some (some (.ref fI))
  iI : PySem.W.isFn K (.ref fI) = true
  z_len : PySem.W.nsIn K mainGlobals "len" = some none
  z_range : PySem.W.nsIn K mainGlobals "range" = some none
  z_sorted : PySem.W.nsIn K mainGlobals "sorted" = some none
  z_tuple : PySem.W.nsIn K mainGlobals "tuple" = some none
  z_set : PySem.W.nsIn K mainGlobals "set" = some none
  z_all : PySem.W.nsIn K mainGlobals "all" = some none
  z_any : PySem.W.nsIn K mainGlobals "any" = some none
  z_min : PySem.W.nsIn K mainGlobals "min" = some none
  z_max : PySem.W.nsIn K mainGlobals "max" = some none
  z_abs : PySem.W.nsIn K mainGlobals "abs" = some none
  z_int : PySem.W.nsIn K mainGlobals "int" = some none
  c_mp : ∃ t, PySem.W.nsIn K mainGlobals "MOST_PLACES" = some (some (.int 60 t))
  c_most : ∃ t, PySem.W.nsIn K mainGlobals "MOST" = some (some (.int 400 t))
  c_here : ∃ t, PySem.W.nsIn K mainGlobals "MOST_HERE" = some (some (.int 8 t))
theorem TopNames.txt {K : PySem.W.Frag} {mg : Str → Option Value} {h : Heap} {C fI : Addr} (N : TopNames K C fI) (X : K.In h) (G : h.Ns mainGlobals mg) : Txt K mg C :=
  ⟨⟨N.pg, N.hd, N.po, N.sa⟩, N.nP, N.nT, PySem.W.mg_of X G N.aC, PySem.W.mg_none_of X G N.z_len, PySem.W.mg_none_of X G N.z_range, PySem.W.mg_none_of X G N.z_sorted, PySem.W.mg_none_of X G N.z_tuple, PySem.W.mg_none_of X G N.z_set, PySem.W.mg_none_of X G N.z_all, PySem.W.mg_none_of X G N.z_any, PySem.W.mg_none_of X G N.z_min, PySem.W.mg_none_of X G N.z_max, PySem.W.mg_none_of X G N.z_abs, PySem.W.mg_none_of X G N.z_int, N.c_mp.elim fun t e => ⟨t, PySem.W.mg_of X G e⟩, N.c_most.elim fun t e => ⟨t, PySem.W.mg_of X G e⟩, N.c_here.elim fun t e => ⟨t, PySem.W.mg_of X G e⟩⟩
theorem all_mk {l : PySem.W.OpenLaw} {w : World} {K : PySem.W.Frag} {h : Heap} {mg : Str → Option Value} {fa C fI f0 f1 f2 f3 f4 f5 f6 f7 f8 f9 f10 f11 f12 f13 f14 f15 f16 f17 f18 f19 f20 f21 f22 f23 f24 f25 f26 f27 f28 : Addr} (X : K.In h) (G : h.Ns mainGlobals mg) (hfa : mg "law" = some (.ref fa)) (N : TopNames K C fI)
    {ocI kVI dcI pmI cdI ctI : Value} {odI anI : Option Addr} {slI : Array (Option Value)} (lI : K.lookup fI = some ⟨ocI, odI, .func (PySem.W.fnOf "__init__" "Web.__init__" (defArgs sInit) (defBody sInit) (defScope sInit) .none kVI dcI pmI anI cdI ctI), slI⟩) (cI : PySem.W.codeIn K cdI "Web.__init__" = true) (kI : PySem.W.keepIn K (.ref fI) = true)
    (S0 : Stood K "look_at_place" sLookAtPlace f0)
    (S1 : Stood K "near" sNear f1)
    (S2 : Stood K "look_at_call" sLookAtCall f2)
    (S3 : Stood K "steps_of" sStepsOf f3)
    (S4 : Stood K "moves" sMoves f4)
    (S5 : Stood K "answers_of_one" sAnswersOfOne f5)
    (S6 : Stood K "answers" sAnswers f6)
    (S7 : Stood K "choices" sChoices f7)
    (S8 : Stood K "look_at_guards" sLookAtGuards f8)
    (S9 : Stood K "how_many" sHowMany f9)
    (S10 : Stood K "standing_at" sStandingAt f10)
    (S11 : Stood K "standings" sStandings f11)
    (S12 : Stood K "calls_at" sCallsAt f12)
    (S13 : Stood K "led_to" sLedTo f13)
    (S14 : Stood K "falling_call" sFallingCall f14)
    (S15 : Stood K "rounds_of" sRoundsOf f15)
    (S16 : Stood K "lasting" sLasting f16)
    (S17 : Stood K "falls" sFalls f17)
    (S18 : Stood K "first_answer" sFirstAnswer f18)
    (S19 : Stood K "guide_paper" sGuidePaper f19)
    (S20 : Stood K "caller_paper" sCallerPaper f20)
    (S21 : Stood K "fewest" sFewest f21)
    (S22 : Stood K "first_unwatched" sFirstUnwatched f22)
    (S23 : Stood K "_law_cell_at" sLawCellAt f23)
    (S24 : Stood K "_law_small_web" sLawSmallWeb f24)
    (S25 : Stood K "_law_grown" sLawGrown f25)
    (S26 : Stood K "_law_kept" sLawKept f26)
    (S27 : Stood K "_law_kind" sLawKind f27)
    {oc kV dc pm cd ct : Value} {od an : Option Addr} {sl : Array (Option Value)} (aL : PySem.W.nsIn K mainGlobals "law" = some (some (.ref f28))) (lL : K.lookup f28 = some ⟨oc, od, .func (PySem.W.fnOf "law" "law" (defArgs sLaw) (defBody sLaw) (defScope sLaw) .none kV dc pm an cd ct), sl⟩) (cL : PySem.W.codeIn K cd "law" = true) (kL : PySem.W.keepIn K (.ref f28) = true) :
    ∃ fd : FuncData, (∀ (s : Shared) (v : Value), BindsTo s fd ⟨[v], []⟩ [("script", v)]) ∧ ∀ base : Heap, K.In base → base.Ns mainGlobals mg → FnOk l.prog w K mg base CX0 11 fa fd ["script"] (spLaw K) := by
  have e := hfa.symm.trans (PySem.W.mg_of X G aL)
  cases e
  have T : Txt K mg C := N.txt X G
  have FI := fun_mk (st := sInit) lI cI kI
  have bI := FI.binds (ps := ["self", "places", "ties"]) fun _ _ _ _ _ _ us hl => match us, hl with | [_, _, _], _ => rfl
  obtain ⟨g0, D0⟩ := S0.def (ps := ["web", "place"]) X G fun _ _ _ _ _ _ us hl => match us, hl with | [_, _], _ => rfl
  obtain ⟨g1, D1⟩ := S1.def (ps := ["web", "place"]) X G fun _ _ _ _ _ _ us hl => match us, hl with | [_, _], _ => rfl
  obtain ⟨g2, D2⟩ := S2.def (ps := ["web", "standing", "call"]) X G fun _ _ _ _ _ _ us hl => match us, hl with | [_, _, _], _ => rfl
  obtain ⟨g3, D3⟩ := S3.def (ps := ["web", "guard"]) X G fun _ _ _ _ _ _ us hl => match us, hl with | [_, _], _ => rfl
  obtain ⟨g4, D4⟩ := S4.def (ps := ["web", "standing", "among"]) X G fun _ _ _ _ _ _ us hl => match us, hl with | [_, _, _], _ => rfl
  obtain ⟨g5, D5⟩ := S5.def (ps := ["web", "standing", "call"]) X G fun _ _ _ _ _ _ us hl => match us, hl with | [_, _, _], _ => rfl
  obtain ⟨g6, D6⟩ := S6.def (ps := ["web", "standing", "call", "kind"]) X G fun _ _ _ _ _ _ us hl => match us, hl with | [_, _, _, _], _ => rfl
  obtain ⟨g7, D7⟩ := S7.def (ps := ["many", "some"]) X G fun _ _ _ _ _ _ us hl => match us, hl with | [_, _], _ => rfl
  obtain ⟨g8, D8⟩ := S8.def (ps := ["web", "guards"]) X G fun _ _ _ _ _ _ us hl => match us, hl with | [_, _], _ => rfl
  obtain ⟨g9, D9⟩ := S9.def (ps := ["web", "guards"]) X G fun _ _ _ _ _ _ us hl => match us, hl with | [_, _], _ => rfl
  obtain ⟨g10, D10⟩ := S10.def (ps := ["web", "guards", "number"]) X G fun _ _ _ _ _ _ us hl => match us, hl with | [_, _, _], _ => rfl
  obtain ⟨g11, D11⟩ := S11.def (ps := ["web", "guards"]) X G fun _ _ _ _ _ _ us hl => match us, hl with | [_, _], _ => rfl
  obtain ⟨g12, D12⟩ := S12.def (ps := ["web", "standing"]) X G fun _ _ _ _ _ _ us hl => match us, hl with | [_, _], _ => rfl
  obtain ⟨g13, D13⟩ := S13.def (ps := ["web", "standing", "kind"]) X G fun _ _ _ _ _ _ us hl => match us, hl with | [_, _, _], _ => rfl
  obtain ⟨g14, D14⟩ := S14.def (ps := ["rows", "fallen"]) X G fun _ _ _ _ _ _ us hl => match us, hl with | [_, _], _ => rfl
  obtain ⟨g15, D15⟩ := S15.def (ps := ["web", "guards", "kind"]) X G fun _ _ _ _ _ _ us hl => match us, hl with | [_, _, _], _ => rfl
  obtain ⟨g16, D16⟩ := S16.def (ps := ["web", "guards", "kind"]) X G fun _ _ _ _ _ _ us hl => match us, hl with | [_, _, _], _ => rfl
  obtain ⟨g17, D17⟩ := S17.def (ps := ["web", "guards", "kind"]) X G fun _ _ _ _ _ _ us hl => match us, hl with | [_, _, _], _ => rfl
  obtain ⟨g18, D18⟩ := S18.def (ps := ["web", "standing", "call", "kind", "listed"]) X G fun _ _ _ _ _ _ us hl => match us, hl with | [_, _, _, _, _], _ => rfl
  obtain ⟨g19, D19⟩ := S19.def (ps := ["web", "guards", "kind"]) X G fun _ _ _ _ _ _ us hl => match us, hl with | [_, _, _], _ => rfl
  obtain ⟨g20, D20⟩ := S20.def (ps := ["web", "guards", "kind"]) X G fun _ _ _ _ _ _ us hl => match us, hl with | [_, _, _], _ => rfl
  obtain ⟨g21, D21⟩ := S21.def (ps := ["web", "kind"]) X G fun _ _ _ _ _ _ us hl => match us, hl with | [_, _], _ => rfl
  obtain ⟨g22, D22⟩ := S22.def (ps := ["web", "some"]) X G fun _ _ _ _ _ _ us hl => match us, hl with | [_, _], _ => rfl
  obtain ⟨g23, D23⟩ := S23.def (ps := ["script", "k"]) X G fun _ _ _ _ _ _ us hl => match us, hl with | [_, _], _ => rfl
  obtain ⟨g24, D24⟩ := S24.def (ps := ["script", "most"]) X G fun _ _ _ _ _ _ us hl => match us, hl with | [_, _], _ => rfl
  obtain ⟨g25, D25⟩ := S25.def (ps := ["standing", "place"]) X G fun _ _ _ _ _ _ us hl => match us, hl with | [_, _], _ => rfl
  obtain ⟨g26, D26⟩ := S26.def (ps := ["places", "ones", "more"]) X G fun _ _ _ _ _ _ us hl => match us, hl with | [_, _, _], _ => rfl
  obtain ⟨g27, D27⟩ := S27.def (ps := ["web", "kind"]) X G fun _ _ _ _ _ _ us hl => match us, hl with | [_, _], _ => rfl
  refine ⟨PySem.W.fnOf "law" "law" (defArgs sLaw) (defBody sLaw) (defScope sLaw) .none kV dc pm an cd ct, fun s v => .of_eq rfl, fun base _ _ => ?_⟩
  have G0 : Good l.prog w K mg base 1 "look_at_place" ["web", "place"] (spLookAtPlace C) := D0.good (ok_look_at_place D0.F T)
  have G1 : Good l.prog w K mg base 2 "near" ["web", "place"] (spNear C) := D1.good (ok_near D1.F T G0)
  have G2 : Good l.prog w K mg base 1 "look_at_call" ["web", "standing", "call"] (spLookAtCall C) := D2.good (ok_look_at_call D2.F T)
  have G3 : Good l.prog w K mg base 3 "steps_of" ["web", "guard"] (spStepsOf C) := D3.good (ok_steps_of D3.F T G1)
  have G4 : Good l.prog w K mg base 4 "moves" ["web", "standing", "among"] (spMoves C) := D4.good (ok_moves D4.F T G3)
  have G5 : Good l.prog w K mg base 3 "answers_of_one" ["web", "standing", "call"] (spAnswersOfOne C) := D5.good (ok_answers_of_one D5.F T G1)
  have G6 : Good l.prog w K mg base 5 "answers" ["web", "standing", "call", "kind"] (spAnswers C) := D6.good (ok_answers D6.F T G2 G5 G4)
  have G7 : Good l.prog w K mg base 1 "choices" ["many", "some"] (spChoices) := D7.good (ok_choices D7.F T)
  have G8 : Good l.prog w K mg base 1 "look_at_guards" ["web", "guards"] (spLookAtGuards C) := D8.good (ok_look_at_guards D8.F T)
  have G9 : Good l.prog w K mg base 2 "how_many" ["web", "guards"] (spHowMany C) := D9.good (ok_how_many D9.F T G8 G7)
  have G10 : Good l.prog w K mg base 2 "standing_at" ["web", "guards", "number"] (spStandingAt C) := D10.good (ok_standing_at D10.F T G8 G7)
  have G11 : Good l.prog w K mg base 3 "standings" ["web", "guards"] (spStandings C) := D11.good (ok_standings D11.F T G9 G10)
  have G12 : Good l.prog w K mg base 1 "calls_at" ["web", "standing"] (spCallsAt C) := D12.good (ok_calls_at D12.F T)
  have G13 : Good l.prog w K mg base 6 "led_to" ["web", "standing", "kind"] (spLedTo C) := D13.good (ok_led_to D13.F T G12 G6)
  have G14 : Good l.prog w K mg base 1 "falling_call" ["rows", "fallen"] (spFallingCall) := D14.good (ok_falling_call D14.F T)
  have G15 : Good l.prog w K mg base 7 "rounds_of" ["web", "guards", "kind"] (spRoundsOf C) := D15.good (ok_rounds_of D15.F T G11 G13 G14)
  have G16 : Good l.prog w K mg base 8 "lasting" ["web", "guards", "kind"] (spLasting C) := D16.good (ok_lasting D16.F T G15 G11)
  have G17 : Good l.prog w K mg base 8 "falls" ["web", "guards", "kind"] (spFalls C) := D17.good (ok_falls D17.F T G15)
  have G18 : Good l.prog w K mg base 6 "first_answer" ["web", "standing", "call", "kind", "listed"] (spFirstAnswer C) := D18.good (ok_first_answer D18.F T G6)
  have G19 : Good l.prog w K mg base 9 "guide_paper" ["web", "guards", "kind"] (spGuidePaper C) := D19.good (ok_guide_paper D19.F T G16 G18 G12)
  have G20 : Good l.prog w K mg base 9 "caller_paper" ["web", "guards", "kind"] (spCallerPaper C) := D20.good (ok_caller_paper D20.F T G16 G17)
  have G21 : Good l.prog w K mg base 9 "fewest" ["web", "kind"] (spFewest C) := D21.good (ok_fewest D21.F T G16)
  have G22 : Good l.prog w K mg base 3 "first_unwatched" ["web", "some"] (spFirstUnwatched C) := D22.good (ok_first_unwatched D22.F T G1)
  have G23 : Good l.prog w K mg base 1 "_law_cell_at" ["script", "k"] (spCell K) := D23.good (ok_cell D23.F T)
  have G24 : Good l.prog w K mg base 2 "_law_small_web" ["script", "most"] (spSmallWeb K) := D24.good (ok_small_web D24.F T G23)
  have G25 : Good l.prog w K mg base 1 "_law_grown" ["standing", "place"] (spGrown) := D25.good (ok_grown D25.F T)
  have G26 : Good l.prog w K mg base 2 "_law_kept" ["places", "ones", "more"] (spKept) := D26.good (ok_kept D26.F T G25)
  have G27 : Good l.prog w K mg base 10 "_law_kind" ["web", "kind"] (spKind C) := D27.good (ok_kind D27.F T G16 G26 G22 G21 G19 G20)
  exact ok_law (fun_mk (st := sLaw) lL cL kL) T ⟨N.mkC, N.aI, N.iI, N.kc⟩ (ok_init FI T) bI G24 G23 G27 G16
end GrD
open PySem PySem.W PyProof.Rows
set_option maxRecDepth 100000 in
set_option maxHeartbeats 0 in
theorem PySem.Challenge.cw_guardround_k69_whole_more_guards_holds : PySem.Challenge.rw_guardround_k69_whole_more_guards.Holds := by
  w_on; o_law; k_head; (case hw => w_witness2)
  k_fill
  refine L2.walk_of (l := PySem.Challenge.rw_guardround_k69_whole_more_guards) (n := 63) (k := 11) (x := "script") (CX := fun _ => L2.CX0) (sp := fun w => GrD.spLaw _) rfl (by decide) rfl ⟨rfl, by decide, by decide⟩ (fun w h Y => PySem.W.kIn_of Y) ?F (fun _ _ a ns hl _ hS => ⟨a, ns, rfl, hS, hl, fun _ => rfl⟩) (fun _ _ _ _ _ h => h)
  case F =>
    intro w mg fa h KX G hmg
    refine' GrD.all_mk KX G hmg (GrD.TopNames.mk ?aC ?pg ?hd ?po ?sa ?mk ?kc ?nP ?nT ?aI ?iI ?z_len ?z_range ?z_sorted ?z_tuple ?z_set ?z_all ?z_any ?z_min ?z_max ?z_abs ?z_int (GrD.cst ?c1) (GrD.cst ?c2) (GrD.cst ?c3)) ?lI ?cI ?kI (GrD.stood ?a0 ?l0 ?c_0 ?k0) (GrD.stood ?a1 ?l1 ?c_1 ?k1) (GrD.stood ?a2 ?l2 ?c_2 ?k2) (GrD.stood ?a3 ?l3 ?c_3 ?k3) (GrD.stood ?a4 ?l4 ?c_4 ?k4) (GrD.stood ?a5 ?l5 ?c_5 ?k5) (GrD.stood ?a6 ?l6 ?c_6 ?k6) (GrD.stood ?a7 ?l7 ?c_7 ?k7) (GrD.stood ?a8 ?l8 ?c_8 ?k8) (GrD.stood ?a9 ?l9 ?c_9 ?k9) (GrD.stood ?a10 ?l10 ?c_10 ?k10) (GrD.stood ?a11 ?l11 ?c_11 ?k11) (GrD.stood ?a12 ?l12 ?c_12 ?k12) (GrD.stood ?a13 ?l13 ?c_13 ?k13) (GrD.stood ?a14 ?l14 ?c_14 ?k14) (GrD.stood ?a15 ?l15 ?c_15 ?k15) (GrD.stood ?a16 ?l16 ?c_16 ?k16) (GrD.stood ?a17 ?l17 ?c_17 ?k17) (GrD.stood ?a18 ?l18 ?c_18 ?k18) (GrD.stood ?a19 ?l19 ?c_19 ?k19) (GrD.stood ?a20 ?l20 ?c_20 ?k20) (GrD.stood ?a21 ?l21 ?c_21 ?k21) (GrD.stood ?a22 ?l22 ?c_22 ?k22) (GrD.stood ?a23 ?l23 ?c_23 ?k23) (GrD.stood ?a24 ?l24 ?c_24 ?k24) (GrD.stood ?a25 ?l25 ?c_25 ?k25) (GrD.stood ?a26 ?l26 ?c_26 ?k26) (GrD.stood ?a27 ?l27 ?c_27 ?k27) ?aL ?lL ?cL ?kL
    (case aC => k_is)
    (case aI => k_is)
    (case pg => k_is)
    (case hd => k_is)
    (case po => k_is)
    (case sa => k_is)
    (case mk => k_is)
    (case kc => k_is)
    (case nP => k_is)
    (case nT => k_is)
    (case iI => k_is)
    (case z_len => k_is)
    (case z_range => k_is)
    (case z_sorted => k_is)
    (case z_tuple => k_is)
    (case z_set => k_is)
    (case z_all => k_is)
    (case z_any => k_is)
    (case z_min => k_is)
    (case z_max => k_is)
    (case z_abs => k_is)
    (case z_int => k_is)
    (case c1 => k_is)
    (case c2 => k_is)
    (case c3 => k_is)
    (case lI => k_is)
    (case cI => k_is)
    (case kI => k_is)
    (case a0 => k_is)
    (case l0 => k_is)
    (case c_0 => k_is)
    (case k0 => k_is)
    (case a1 => k_is)
    (case l1 => k_is)
    (case c_1 => k_is)
    (case k1 => k_is)
    (case a2 => k_is)
    (case l2 => k_is)
    (case c_2 => k_is)
    (case k2 => k_is)
    (case a3 => k_is)
    (case l3 => k_is)
    (case c_3 => k_is)
    (case k3 => k_is)
    (case a4 => k_is)
    (case l4 => k_is)
    (case c_4 => k_is)
    (case k4 => k_is)
    (case a5 => k_is)
    (case l5 => k_is)
    (case c_5 => k_is)
    (case k5 => k_is)
    (case a6 => k_is)
    (case l6 => k_is)
    (case c_6 => k_is)
    (case k6 => k_is)
    (case a7 => k_is)
    (case l7 => k_is)
    (case c_7 => k_is)
    (case k7 => k_is)
    (case a8 => k_is)
    (case l8 => k_is)
    (case c_8 => k_is)
    (case k8 => k_is)
    (case a9 => k_is)
    (case l9 => k_is)
    (case c_9 => k_is)
    (case k9 => k_is)
    (case a10 => k_is)
    (case l10 => k_is)
    (case c_10 => k_is)
    (case k10 => k_is)
    (case a11 => k_is)
    (case l11 => k_is)
    (case c_11 => k_is)
    (case k11 => k_is)
    (case a12 => k_is)
    (case l12 => k_is)
    (case c_12 => k_is)
    (case k12 => k_is)
    (case a13 => k_is)
    (case l13 => k_is)
    (case c_13 => k_is)
    (case k13 => k_is)
    (case a14 => k_is)
    (case l14 => k_is)
    (case c_14 => k_is)
    (case k14 => k_is)
    (case a15 => k_is)
    (case l15 => k_is)
    (case c_15 => k_is)
    (case k15 => k_is)
    (case a16 => k_is)
    (case l16 => k_is)
    (case c_16 => k_is)
    (case k16 => k_is)
    (case a17 => k_is)
    (case l17 => k_is)
    (case c_17 => k_is)
    (case k17 => k_is)
    (case a18 => k_is)
    (case l18 => k_is)
    (case c_18 => k_is)
    (case k18 => k_is)
    (case a19 => k_is)
    (case l19 => k_is)
    (case c_19 => k_is)
    (case k19 => k_is)
    (case a20 => k_is)
    (case l20 => k_is)
    (case c_20 => k_is)
    (case k20 => k_is)
    (case a21 => k_is)
    (case l21 => k_is)
    (case c_21 => k_is)
    (case k21 => k_is)
    (case a22 => k_is)
    (case l22 => k_is)
    (case c_22 => k_is)
    (case k22 => k_is)
    (case a23 => k_is)
    (case l23 => k_is)
    (case c_23 => k_is)
    (case k23 => k_is)
    (case a24 => k_is)
    (case l24 => k_is)
    (case c_24 => k_is)
    (case k24 => k_is)
    (case a25 => k_is)
    (case l25 => k_is)
    (case c_25 => k_is)
    (case k25 => k_is)
    (case a26 => k_is)
    (case l26 => k_is)
    (case c_26 => k_is)
    (case k26 => k_is)
    (case a27 => k_is)
    (case l27 => k_is)
    (case c_27 => k_is)
    (case k27 => k_is)
    (case aL => k_is)
    (case lL => k_is)
    (case cL => k_is)
    (case kL => k_is)
