import PyProof.Rows.All
import Wide.All
import OpenK.AllK
import Wide.FinOn
import PySem.Challenge.RW_thirdletters_k28_whole_words_above
import HandS.ForMost
import HandS.IsInst
import HandS.Walk
import KE.GoesNew
import KE.GoesNewDict
import KE.KDictKeyed
import KE.KDictDisplayH
import KE.KStar
import HandS.Set
import HandS.SetFor
import HandS.More
import PyProof.Rows.SortShellAny
import HandS.DeepEq
import PyProof.Rows.SortStr
import PyProof.Rows.StrMeet
set_option linter.all false
/-! The mathematics: steps, puttings, pieces, the reading automaton, counting. No program here. -/
namespace K28

/-! ### lists of steps -/
def PM (w : List Int) : Prop := ∀ x ∈ w, x = 1 ∨ x = -1
theorem PM.nil : PM [] := fun _ h => nomatch h
theorem PM.tail {x : Int} {w : List Int} (h : PM (x :: w)) : PM w := fun y hy => h y (List.mem_cons_of_mem _ hy)
theorem PM.head {x : Int} {w : List Int} (h : PM (x :: w)) : x = 1 ∨ x = -1 := h x List.mem_cons_self
theorem PM.cons {x : Int} {w : List Int} (hx : x = 1 ∨ x = -1) (h : PM w) : PM (x :: w) := fun y hy => by
  rcases List.mem_cons.mp hy with e | e
  · rw [e]; exact hx
  · exact h y e
theorem PM.app {u v : List Int} (hu : PM u) (hv : PM v) : PM (u ++ v) := fun y hy => by
  rcases List.mem_append.mp hy with e | e
  · exact hu y e
  · exact hv y e
theorem PM.left {u v : List Int} (h : PM (u ++ v)) : PM u := fun y hy => h y (List.mem_append_left _ hy)
theorem PM.right {u v : List Int} (h : PM (u ++ v)) : PM v := fun y hy => h y (List.mem_append_right _ hy)
theorem pm_neg {x : Int} (h : x = 1 ∨ x = -1) : -x = 1 ∨ -x = -1 := by omega

/-- two neighbors alike -/
def Adj : List Int → Prop
  | x :: y :: r => x = y ∨ Adj (y :: r)
  | _ => False
theorem adj_cons {x : Int} {w : List Int} (h : Adj w) : Adj (x :: w) := by
  cases w with
  | nil => exact h.elim
  | cons y r => exact .inr h
theorem adj_app_right : ∀ {u v : List Int}, Adj v → Adj (u ++ v)
  | [], _, h => h
  | _ :: u, _, h => adj_cons (adj_app_right (u := u) h)
theorem adj_app_left : ∀ {u v : List Int}, Adj u → Adj (u ++ v)
  | [], _, h => h.elim
  | [_], _, h => h.elim
  | x :: y :: r, v, h => by
    rcases h with h | h
    · exact .inl h
    · exact .inr (adj_app_left (u := y :: r) (v := v) h)
theorem adj_snoc : ∀ (v : List Int) (x : Int), Adj (v ++ [x]) ↔ Adj v ∨ v.getLast? = some x
  | [], x => by simp [Adj]
  | [y], x => by simp [Adj]
  | y :: z :: r, x => by
    have ih := adj_snoc (z :: r) x
    rw [List.getLast?_cons_cons]
    show (y = z ∨ Adj ((z :: r) ++ [x])) ↔ (y = z ∨ Adj (z :: r)) ∨ _
    rw [ih, or_assoc]

/-- one putting in -/
def Up (w w' : List Int) : Prop := ∃ a x b, w = a ++ x :: b ∧ w' = a ++ -x :: -x :: b
theorem Up.len {w w' : List Int} (h : Up w w') : w'.length = w.length + 1 := by
  obtain ⟨a, x, b, rfl, rfl⟩ := h
  simp only [List.length_append, List.length_cons]
  omega
theorem Up.pm {w w' : List Int} (h : Up w w') (p : PM w) : PM w' := by
  obtain ⟨a, x, b, rfl, rfl⟩ := h
  have hx := pm_neg (p.right.head)
  exact p.left.app (.cons hx (.cons hx p.right.tail))
theorem Up.consUp {w w' : List Int} (x : Int) (h : Up w w') : Up (x :: w) (x :: w') := by
  obtain ⟨a, y, b, rfl, rfl⟩ := h
  exact ⟨x :: a, y, b, rfl, rfl⟩
theorem Up.appLeft {w w' : List Int} (u : List Int) (h : Up w w') : Up (u ++ w) (u ++ w') := by
  obtain ⟨a, y, b, rfl, rfl⟩ := h
  exact ⟨u ++ a, y, b, by simp, by simp⟩
theorem Up.appRight {w w' : List Int} (u : List Int) (h : Up w w') : Up (w ++ u) (w' ++ u) := by
  obtain ⟨a, y, b, rfl, rfl⟩ := h
  exact ⟨a, y, b ++ u, by simp, by simp⟩
/-- what comes from due by k puttings -/
def Rim (due : List Int) : Nat → List Int → Prop
  | 0, w => w = due
  | k + 1, w' => ∃ w, Rim due k w ∧ Up w w'

/-- a piece that comes down to the step d -/
def Good (d : Int) (p : List Int) : Prop := p = [d] ∨ (Adj p ∧ (p.sum - d) % 3 = 0)
theorem Good.ne {d : Int} {p : List Int} (h : Good d p) : p ≠ [] := by
  rcases h with h | h
  · rw [h]; simp
  · intro e; rw [e] at h; exact h.1.elim
theorem Good.sum {d : Int} {p : List Int} (h : Good d p) : (p.sum - d) % 3 = 0 := by
  rcases h with h | h
  · rw [h]; simp
  · exact h.2
theorem Good.up {d : Int} {a b : List Int} {x : Int} (h : Good d (a ++ x :: b)) : Good d (a ++ -x :: -x :: b) := by
  refine .inr ⟨adj_app_right (.inl rfl), ?_⟩
  have e := h.sum
  simp only [List.sum_append, List.sum_cons] at e ⊢
  omega
inductive Spl : List Int → List Int → Prop
  | nil : Spl [] []
  | cons {d : Int} {v ds w : List Int} : Good d v → Spl ds w → Spl (d :: ds) (v ++ w)
theorem Spl.self : ∀ ds : List Int, Spl ds ds
  | [] => .nil
  | d :: ds => .cons (v := [d]) (.inl rfl) (Spl.self ds)
theorem Spl.len {ds w : List Int} (h : Spl ds w) : ds.length ≤ w.length := by
  induction h with
  | nil => exact Nat.le_refl _
  | @cons d v ds w g _ ih =>
    have := List.length_pos_iff.mpr g.ne
    simp only [List.length_cons, List.length_append]
    omega
theorem Spl.eq {ds w : List Int} (h : Spl ds w) : w.length = ds.length → w = ds := by
  induction h with
  | nil => exact fun _ => rfl
  | @cons d v ds w g h ih =>
    intro e
    have hv := List.length_pos_iff.mpr g.ne
    have hl := h.len
    simp only [List.length_cons, List.length_append] at e
    have h1 : v.length = 1 := by omega
    have e2 := ih (by omega)
    rcases g with g | g
    · rw [g, e2]; rfl
    · exfalso
      match v, h1, g.1 with
      | [y], _, q => exact q
theorem Spl.sum {ds w : List Int} (h : Spl ds w) : (w.sum - ds.sum) % 3 = 0 := by
  induction h with
  | nil => rfl
  | @cons d v ds w g h ih =>
    have := g.sum
    simp only [List.sum_append, List.sum_cons]
    omega
theorem Spl.up {ds w w' : List Int} (h : Spl ds w) : Up w w' → Spl ds w' := by
  induction h generalizing w' with
  | nil =>
    rintro ⟨a, x, b, e, _⟩
    simp at e
  | @cons d v ds w g h ih =>
    rintro ⟨a, x, b, e, rfl⟩
    rcases List.append_eq_append_iff.mp e with ⟨c, rfl, e2⟩ | ⟨c, rfl, e2⟩
    · -- v ++ c = a, w = c ++ x :: b
      rw [List.append_assoc]
      exact .cons g (ih ⟨c, x, b, e2, rfl⟩)
    · cases c with
      | nil =>
        have e3 : w = x :: b := e2.symm
        rw [List.append_nil] at g
        exact .cons g (ih ⟨[], x, b, e3, rfl⟩)
      | cons y c =>
        rw [List.cons_append] at e2
        injection e2 with e3 e4
        subst e3 e4
        have q := Spl.cons g.up h
        simpa using q
theorem sp_snoc : ∀ {a w : List Int} {d : Int}, Spl (a ++ [d]) w ↔ ∃ u v, w = u ++ v ∧ Spl a u ∧ Good d v
  | [], w, d => by
    constructor
    · intro h
      cases h with
      | @cons _ v _ w' g h =>
        cases h
        exact ⟨[], v, by simp, .nil, g⟩
    · rintro ⟨u, v, rfl, h, g⟩
      cases h
      have q := Spl.cons g Spl.nil
      simpa using q
  | x :: a, w, d => by
    constructor
    · intro h
      rw [List.cons_append] at h
      cases h with
      | @cons _ v _ w' g h =>
        obtain ⟨u, v2, rfl, h2, g2⟩ := sp_snoc.mp h
        exact ⟨v ++ u, v2, by simp, .cons g h2, g2⟩
    · rintro ⟨u, v, rfl, h, g⟩
      cases h with
      | @cons _ v0 _ w' g0 h =>
        rw [List.cons_append, List.append_assoc]
        exact .cons g0 (sp_snoc.mpr ⟨w', v, rfl, h, g⟩)

/-- two alike steps go down to one, and two alike ones stay, but in a row of one step alone -/
theorem reduce : ∀ v : List Int, PM v → Adj v → (∃ v0, Up v0 v ∧ PM v0 ∧ Adj v0) ∨ ∃ y n, v = List.replicate (n + 2) y
  | [], _, h => h.elim
  | [_], _, h => h.elim
  | x :: y :: r, p, h => by
    have px := p.head
    have py := p.tail.head
    have pn : -y = 1 ∨ -y = -1 := pm_neg py
    by_cases e : x = y
    · subst e
      cases r with
      | nil => exact .inr ⟨x, 0, rfl⟩
      | cons z r =>
        by_cases e2 : x = z
        · subst e2
          rcases reduce (x :: x :: r) p.tail (.inl rfl) with ⟨v0, u, pv, a⟩ | ⟨y, n, e3⟩
          · exact .inl ⟨x :: v0, u.consUp x, .cons px pv, adj_cons a⟩
          · refine .inr ⟨y, n + 1, ?_⟩
            have e4 : x = y := by
              rw [List.replicate_succ] at e3
              exact (List.cons.inj e3).1
            rw [List.replicate_succ, ← e3, e4]
        · have pz := p.tail.tail.head
          have e3 : -x = z := by omega
          refine .inl ⟨-x :: z :: r, ⟨[], -x, z :: r, rfl, ?_⟩, .cons pn p.tail.tail, .inl e3⟩
          simp
    · have h2 : Adj (y :: r) := h.resolve_left e
      rcases reduce (y :: r) p.tail h2 with ⟨v0, u, pv, a⟩ | ⟨y', n, e3⟩
      · exact .inl ⟨x :: v0, u.consUp x, .cons px pv, adj_cons a⟩
      · rw [List.replicate_succ, List.replicate_succ] at e3
        injection e3 with e4 e5
        subst e4 e5
        have e6 : x = -y := by omega
        refine .inl ⟨x :: -y :: List.replicate n y, ⟨[x], -y, List.replicate n y, rfl, ?_⟩, .cons px (.cons pn p.tail.tail.tail), .inl e6⟩
        simp
theorem good_down {v : List Int} {d : Int} (p : PM v) (hd : d = 1 ∨ d = -1) (a : Adj v) (s : (v.sum - d) % 3 = 0) : ∃ v0, Up v0 v ∧ PM v0 ∧ Good d v0 := by
  rcases reduce v p a with ⟨v0, u, pv, a0⟩ | ⟨y, n, rfl⟩
  · refine ⟨v0, u, pv, .inr ⟨a0, ?_⟩⟩
    obtain ⟨c, x, b, rfl, rfl⟩ := u
    simp only [List.sum_append, List.sum_cons] at s ⊢
    omega
  · have py : y = 1 ∨ y = -1 := p y (by simp)
    match n with
    | 0 =>
      refine ⟨[-y], ⟨[], -y, [], rfl, by simp [List.replicate]⟩, .cons (pm_neg py) .nil, .inl ?_⟩
      simp [List.replicate] at s
      congr 1
      omega
    | 1 =>
      exfalso
      simp [List.replicate] at s
      omega
    | n + 2 =>
      have e : List.replicate (n + 2 + 2) y = y :: y :: y :: y :: List.replicate n y := rfl
      rw [e] at p s ⊢
      refine ⟨-y :: y :: y :: List.replicate n y, ⟨[], -y, y :: y :: List.replicate n y, rfl, by simp⟩, .cons (pm_neg py) p.tail.tail, .inr ⟨.inr (.inl rfl), ?_⟩⟩
      simp only [List.sum_cons] at s ⊢
      omega
theorem Spl.down {ds w : List Int} (h : Spl ds w) : PM ds → PM w → ds.length < w.length → ∃ w0, Up w0 w ∧ PM w0 ∧ Spl ds w0 := by
  induction h with
  | nil => intro _ _ h; simp at h
  | @cons d v ds w g h ih =>
    intro pd pw hl
    have one : ds.length < w.length → ∃ w0, Up w0 (v ++ w) ∧ PM w0 ∧ Spl (d :: ds) w0 := fun q => by
      obtain ⟨w0, u, p0, s0⟩ := ih pd.tail pw.right q
      exact ⟨v ++ w0, u.appLeft v, pw.left.app p0, .cons g s0⟩
    rcases id g with e | ⟨a, s⟩
    · refine one ?_
      rw [e] at hl
      simp only [List.length_cons, List.length_append, List.length_nil] at hl
      omega
    · obtain ⟨v0, u, p0, g0⟩ := good_down pw.left pd.head a s
      exact ⟨v0 ++ w, u.appRight w, p0.app pw.right, .cons g0 h⟩
/-- THE PLAIN LAW of puttings: what comes from due by k puttings falls into pieces for due's steps -/
theorem rim_iff {due : List Int} (pd : PM due) : ∀ (k : Nat) (w : List Int), Rim due k w ↔ Spl due w ∧ PM w ∧ w.length = due.length + k
  | 0, w => by
    constructor
    · intro e
      have e : w = due := e
      rw [e]
      exact ⟨.self due, pd, rfl⟩
    · rintro ⟨h, _, e⟩
      exact h.eq e
  | k + 1, w => by
    constructor
    · rintro ⟨w0, h, u⟩
      obtain ⟨s, p, l⟩ := (rim_iff pd k w0).mp h
      exact ⟨s.up u, u.pm p, by rw [u.len, l]; omega⟩
    · rintro ⟨s, p, l⟩
      obtain ⟨w0, u, p0, s0⟩ := s.down pd p (by omega)
      refine ⟨w0, (rim_iff pd k w0).mpr ⟨s0, p0, ?_⟩, u⟩
      have := u.len
      omega
end K28
set_option linter.all false
/-! The reading automaton and its states. -/
namespace K28
/-- a state: bits made, turns, alike; the last step; the sum by 3 -/
structure S5 where
  m : Nat
  t : Nat
  a : Nat
  l : Int
  w : Int
  deriving DecidableEq
def s0 : S5 := ⟨1, 0, 0, 0, 0⟩
/-- one round of the loop over the due steps: the first bit, then the second -/
def now1 (m now i : Nat) (x d : Int) : Nat := if m.testBit i = true ∧ d = x then now ||| 2 ^ (i + 1) else now
def now2 (a now i : Nat) (w tot d : Int) : Nat := if a.testBit i = true ∧ (w - tot - d) % 3 = 0 then now ||| 2 ^ (i + 1) else now
def nowL (x w : Int) (m a : Nat) : Nat → List Int → Nat → Int → Nat
  | _, [], now, _ => now
  | i, d :: r, now, tot => nowL x w m a (i + 1) r (now2 a (now1 m now i x d) i w tot d) (tot + d)
def alike' (s : S5) (x : Int) : Nat := if s.l = x then s.a ||| s.t else s.a
def turns' (s : S5) (x : Int) : Nat := if s.l = x then 0 else s.t
def rs (due : List Int) (s : S5) (x : Int) : S5 :=
  ⟨nowL x ((s.w + x) % 3) s.m (alike' s x) 0 due 0 0, turns' s x ||| s.m, alike' s x, x, (s.w + x) % 3⟩
def run (due : List Int) (u : List Int) : S5 := u.foldl (rs due) s0
def done (due : List Int) (s : S5) : Bool := s.m.testBit due.length

theorem testBit_pow (k j : Nat) : (2 ^ k).testBit j = decide (k = j) := by
  rw [Nat.testBit_two_pow]
theorem now1_bit (m now i : Nat) (x d : Int) (j : Nat) : (now1 m now i x d).testBit j = (now.testBit j || (decide (j = i + 1) && decide (m.testBit i = true ∧ d = x))) := by
  unfold now1
  by_cases h : m.testBit i = true ∧ d = x
  · rw [if_pos h, Nat.testBit_or, testBit_pow]
    by_cases e : j = i + 1
    · simp [e, h]
    · have e' : ¬ i + 1 = j := fun z => e z.symm
      simp [e, e']
  · rw [if_neg h]; simp [h]
theorem now2_bit (a now i : Nat) (w tot d : Int) (j : Nat) : (now2 a now i w tot d).testBit j = (now.testBit j || (decide (j = i + 1) && decide (a.testBit i = true ∧ (w - tot - d) % 3 = 0))) := by
  unfold now2
  by_cases h : a.testBit i = true ∧ (w - tot - d) % 3 = 0
  · rw [if_pos h, Nat.testBit_or, testBit_pow]
    by_cases e : j = i + 1
    · simp [e, h]
    · have e' : ¬ i + 1 = j := fun z => e z.symm
      simp [e, e']
  · rw [if_neg h]; simp [h]
/-- what the loop's bits are -/
theorem nowL_bit (x w : Int) (m a : Nat) : ∀ (r : List Int) (i now : Nat) (tot : Int) (j : Nat),
    (nowL x w m a i r now tot).testBit j = true ↔ now.testBit j = true ∨ ∃ k d, r[k]? = some d ∧ j = i + k + 1 ∧
      ((m.testBit (i + k) = true ∧ d = x) ∨ (a.testBit (i + k) = true ∧ (w - (tot + (r.take k).sum) - d) % 3 = 0))
  | [], i, now, tot, j => by simp [nowL]
  | d :: r, i, now, tot, j => by
    unfold nowL
    rw [nowL_bit x w m a r (i + 1), now2_bit, now1_bit]
    simp only [Bool.or_eq_true, Bool.and_eq_true, decide_eq_true_eq]
    constructor
    · rintro (((h | ⟨e, h⟩) | ⟨e, h⟩) | ⟨k, d', e1, e2, h⟩)
      · exact .inl h
      · exact .inr ⟨0, d, rfl, by omega, .inl h⟩
      · refine .inr ⟨0, d, rfl, by omega, .inr ⟨h.1, ?_⟩⟩
        simpa using h.2
      · refine .inr ⟨k + 1, d', by simpa using e1, by omega, ?_⟩
        have e3 : i + 1 + k = i + (k + 1) := by omega
        rw [e3] at h
        rcases h with h | ⟨h1, h2⟩
        · exact .inl h
        · refine .inr ⟨h1, ?_⟩
          rw [List.take_succ_cons, List.sum_cons]
          have e4 : tot + (d + (r.take k).sum) = tot + d + (r.take k).sum := by omega
          rw [e4]; exact h2
    · rintro (h | ⟨k, d', e1, e2, h⟩)
      · exact .inl (.inl (.inl h))
      · cases k with
        | zero =>
          have e3 : d = d' := by simpa using e1
          subst e3
          rcases h with h | h
          · exact .inl (.inl (.inr ⟨by omega, h⟩))
          · refine .inl (.inr ⟨by omega, h.1, ?_⟩)
            simpa using h.2
        | succ k =>
          refine .inr ⟨k, d', by simpa using e1, by omega, ?_⟩
          have e3 : i + 1 + k = i + (k + 1) := by omega
          rw [e3]
          rcases h with h | ⟨h1, h2⟩
          · exact .inl h
          · refine .inr ⟨h1, ?_⟩
            rw [List.take_succ_cons, List.sum_cons] at h2
            have e4 : tot + (d + (r.take k).sum) = tot + d + (r.take k).sum := by omega
            rw [e4] at h2; exact h2

/-- what a state knows of what was read -/
structure Knows (due : List Int) (s : S5) (u : List Int) : Prop where
  sum : s.w = u.sum % 3
  last : s.l = u.getLast?.getD 0
  made : ∀ i, s.m.testBit i = true ↔ i ≤ due.length ∧ Spl (due.take i) u
  alike : ∀ i, s.a.testBit i = true ↔ i ≤ due.length ∧ ∃ p v, u = p ++ v ∧ Spl (due.take i) p ∧ Adj v
  turns : ∀ i, s.t.testBit i = true ↔ i ≤ due.length ∧ ∃ p v, u = p ++ v ∧ v ≠ [] ∧ Spl (due.take i) p ∧ ¬ Adj v

theorem sp_nil_right {ds : List Int} (h : Spl ds []) : ds = [] := by
  have := h.len
  cases ds with
  | nil => rfl
  | cons d r => simp at this
theorem knows0 (due : List Int) : Knows due s0 [] where
  sum := rfl
  last := rfl
  made := fun i => by
    show Nat.testBit 1 i = true ↔ _
    have e : Nat.testBit 1 i = decide (0 = i) := testBit_pow 0 i
    rw [e, decide_eq_true_eq]
    constructor
    · intro h; subst h; exact ⟨Nat.zero_le _, by simpa using Spl.nil⟩
    · rintro ⟨h, s⟩
      have q := sp_nil_right s
      have q2 := congrArg List.length q
      rw [List.length_take, List.length_nil] at q2
      omega
  alike := fun i => by
    show Nat.testBit 0 i = true ↔ _
    constructor
    · intro h; simp at h
    · rintro ⟨_, p, v, e, _, h⟩
      have e2 : v = [] := (List.append_eq_nil_iff.mp e.symm).2
      rw [e2] at h; exact h.elim
  turns := fun i => by
    show Nat.testBit 0 i = true ↔ _
    constructor
    · intro h; simp at h
    · rintro ⟨_, p, v, e, h, _⟩
      exact absurd (List.append_eq_nil_iff.mp e.symm).2 h

/-- a split of u ++ [x] with something behind the cut -/
theorem snoc_cut {u p v : List Int} {x : Int} (e : u ++ [x] = p ++ v) (h : v ≠ []) : ∃ v0, v = v0 ++ [x] ∧ u = p ++ v0 := by
  have e1 : v = v.dropLast ++ [v.getLast h] := (List.dropLast_concat_getLast h).symm
  rw [e1, ← List.append_assoc] at e
  have e2 := List.append_inj' e rfl
  refine ⟨v.dropLast, ?_, e2.1⟩
  have e3 : x = v.getLast h := by
    have := e2.2
    simpa using this
  rw [e3]; exact e1
theorem last_app {p v : List Int} (h : v ≠ []) : (p ++ v).getLast? = v.getLast? := by
  rw [List.getLast?_append]
  cases q : v.getLast? with
  | none => exact absurd (List.getLast?_eq_none_iff.mp q) h
  | some y => rfl
theorem last_some {v : List Int} {x : Int} (h : v ≠ []) : v.getLast? = some x ↔ v.getLast?.getD 0 = x := by
  cases q : v.getLast? with
  | none => exact absurd (List.getLast?_eq_none_iff.mp q) h
  | some y => simp

theorem sum_emod (a b : Int) : (a % 3 + b) % 3 = (a + b) % 3 := by omega

theorem knows_step {due : List Int} {s : S5} {u : List Int} (k : Knows due s u) (x : Int) : Knows due (rs due s x) (u ++ [x]) := by
  -- alike
  have ha : ∀ i, (alike' s x).testBit i = true ↔ i ≤ due.length ∧ ∃ p v, u ++ [x] = p ++ v ∧ Spl (due.take i) p ∧ Adj v := fun i => by
    have key : (alike' s x).testBit i = true ↔ s.a.testBit i = true ∨ (s.l = x ∧ s.t.testBit i = true) := by
      unfold alike'
      by_cases e : s.l = x
      · rw [if_pos e, Nat.testBit_or]; simp [e]
      · rw [if_neg e]; simp [e]
    rw [key, k.alike, k.turns]
    constructor
    · rintro (⟨hi, p, v, e, sp, h⟩ | ⟨el, hi, p, v, e, hv, sp, h⟩)
      · exact ⟨hi, p, v ++ [x], by rw [e, List.append_assoc], sp, adj_app_left h⟩
      · refine ⟨hi, p, v ++ [x], by rw [e, List.append_assoc], sp, (adj_snoc v x).mpr (.inr ?_)⟩
        rw [last_some hv, ← el, k.last, e, last_app hv]
    · rintro ⟨hi, p, v, e, sp, h⟩
      have hv : v ≠ [] := fun z => by rw [z] at h; exact h.elim
      obtain ⟨v0, e1, e2⟩ := snoc_cut e hv
      rw [e1, adj_snoc] at h
      by_cases h0 : Adj v0
      · exact .inl ⟨hi, p, v0, e2, sp, h0⟩
      · have h3 := h.resolve_left h0
        have hv0 : v0 ≠ [] := fun z => by rw [z] at h3; simp at h3
        refine .inr ⟨?_, hi, p, v0, e2, hv0, sp, h0⟩
        rw [k.last, e2, last_app hv0, h3]; rfl
  have hw : (s.w + x) % 3 = (u ++ [x]).sum % 3 := by
    rw [k.sum, sum_emod, List.sum_append]
    simp
  refine ⟨hw, by simp [rs], fun i => ?_, ha, fun i => ?_⟩
  · -- made
    show (nowL x ((s.w + x) % 3) s.m (alike' s x) 0 due 0 0).testBit i = true ↔ _
    rw [nowL_bit]
    constructor
    · rintro (h | ⟨j, d, e1, e2, h⟩)
      · simp at h
      · obtain ⟨hj, e1'⟩ := List.getElem?_eq_some_iff.mp e1
        have e3 : i = j + 1 := by omega
        subst e3
        refine ⟨hj, ?_⟩
        have et : due.take (j + 1) = due.take j ++ [d] := by rw [List.take_add_one, e1]; rfl
        rw [et]
        refine sp_snoc.mpr ?_
        rw [Nat.zero_add] at h
        rcases h with ⟨h1, h2⟩ | ⟨h1, h2⟩
        · exact ⟨u, [x], rfl, ((k.made j).mp h1).2, .inl (by rw [h2])⟩
        · obtain ⟨_, p, v, e, sp, a⟩ := (ha j).mp h1
          refine ⟨p, v, e, sp, .inr ⟨a, ?_⟩⟩
          have hs := sp.sum
          have e4 : (u ++ [x]).sum = p.sum + v.sum := by rw [e, List.sum_append]
          rw [hw, e4] at h2
          omega
    · rintro ⟨hi, h⟩
      cases i with
      | zero =>
        exfalso
        rw [List.take_zero] at h
        have q : ∀ {ds w : List Int}, Spl ds w → ds = [] → w = [] := fun {ds w} h => by
          cases h with
          | nil => exact fun _ => rfl
          | cons _ _ => exact fun e => nomatch e
        have q2 := q h rfl
        simp at q2
      | succ j =>
        have hj : j < due.length := hi
        have e1 : due[j]? = some due[j] := List.getElem?_eq_getElem hj
        have et : due.take (j + 1) = due.take j ++ [due[j]] := by rw [List.take_add_one, e1]; rfl
        rw [et] at h
        obtain ⟨p, v, e, sp, g⟩ := sp_snoc.mp h
        refine .inr ⟨j, due[j], e1, by omega, ?_⟩
        rw [Nat.zero_add]
        rcases g with g | ⟨g, gs⟩
        · rw [g] at e
          have e2 := List.append_inj' e rfl
          refine .inl ⟨(k.made j).mpr ⟨Nat.le_of_lt hj, by rw [e2.1]; exact sp⟩, ?_⟩
          have := e2.2
          simpa using this.symm
        · refine .inr ⟨(ha j).mpr ⟨Nat.le_of_lt hj, p, v, e, sp, g⟩, ?_⟩
          have hs := sp.sum
          have e4 : (u ++ [x]).sum = p.sum + v.sum := by rw [e, List.sum_append]
          rw [hw, e4]
          omega
  · -- turns
    show (turns' s x ||| s.m).testBit i = true ↔ _
    rw [Nat.testBit_or, Bool.or_eq_true, k.made]
    have key : (turns' s x).testBit i = true ↔ s.l ≠ x ∧ s.t.testBit i = true := by
      unfold turns'
      by_cases e : s.l = x
      · rw [if_pos e]; simp [e]
      · rw [if_neg e]; simp [e]
    rw [key, k.turns]
    constructor
    · rintro (⟨el, hi, p, v, e, hv, sp, h⟩ | ⟨hi, sp⟩)
      · refine ⟨hi, p, v ++ [x], by rw [e, List.append_assoc], by simp, sp, fun z => ?_⟩
        rcases (adj_snoc v x).mp z with z | z
        · exact h z
        · refine el ?_
          rw [k.last, e, last_app hv, z]; rfl
      · exact ⟨hi, u, [x], rfl, by simp, sp, fun z => z⟩
    · rintro ⟨hi, p, v, e, hv, sp, h⟩
      obtain ⟨v0, e1, e2⟩ := snoc_cut e hv
      by_cases h0 : v0 = []
      · refine .inr ⟨hi, ?_⟩
        rw [h0, List.append_nil] at e2
        rw [e2]; exact sp
      · refine .inl ⟨fun z => h ?_, hi, p, v0, e2, h0, sp, fun z => h ?_⟩
        · rw [e1, adj_snoc]
          refine .inr ?_
          rw [last_some h0, ← z, k.last, e2, last_app h0]
        · rw [e1]; exact adj_app_left z
theorem knows_run (due : List Int) : ∀ (u : List Int), Knows due (run due u) u := by
  have all : ∀ (v p : List Int) (s : S5), Knows due s p → Knows due (v.foldl (rs due) s) (p ++ v) := by
    intro v
    induction v with
    | nil => intro p s k; rw [List.append_nil]; exact k
    | cons x v ih =>
      intro p s k
      have e : p ++ x :: v = (p ++ [x]) ++ v := by simp
      rw [e]
      exact ih (p ++ [x]) _ (knows_step k x)
  intro u
  exact all u [] s0 (knows0 due)
/-- THE AUTOMATON IS RIGHT -/
theorem done_iff (due u : List Int) : done due (run due u) = true ↔ Spl due u := by
  unfold done
  rw [(knows_run due u).made]
  constructor
  · rintro ⟨_, h⟩
    rw [List.take_length] at h
    exact h
  · intro h
    exact ⟨Nat.le_refl _, by rw [List.take_length]; exact h⟩
end K28
set_option linter.all false
/-! Counting what the automaton takes; the dict of states; the search word by word. -/
namespace K28
variable {due : List Int}
/-- rows of n steps, the first step first, 1 ahead of -1 -/
def seqs : Nat → List (List Int)
  | 0 => [[]]
  | n + 1 => (seqs n).flatMap fun u => [u ++ [1], u ++ [-1]]
theorem mem_seqs : ∀ {n : Nat} {w : List Int}, w ∈ seqs n ↔ PM w ∧ w.length = n
  | 0, w => by
    show w ∈ [[]] ↔ _
    rw [List.mem_singleton]
    constructor
    · intro e; subst e; exact ⟨.nil, rfl⟩
    · rintro ⟨_, h⟩; exact List.length_eq_zero_iff.mp h
  | n + 1, w => by
    show w ∈ (seqs n).flatMap (fun u => [u ++ [1], u ++ [-1]]) ↔ _
    rw [List.mem_flatMap]
    constructor
    · rintro ⟨u, hu, h⟩
      obtain ⟨p, l⟩ := mem_seqs.mp hu
      rcases List.mem_cons.mp h with e | h
      · subst e; exact ⟨p.app (.cons (.inl rfl) .nil), by simp [l]⟩
      · have e := List.mem_singleton.mp h
        subst e; exact ⟨p.app (.cons (.inr rfl) .nil), by simp [l]⟩
    · rintro ⟨p, l⟩
      have hne : w ≠ [] := fun z => by rw [z] at l; simp at l
      have e := List.dropLast_concat_getLast hne
      refine ⟨w.dropLast, mem_seqs.mpr ⟨fun x hx => p x (List.dropLast_subset _ hx), by rw [List.length_dropLast, l]; rfl⟩, ?_⟩
      rcases p (w.getLast hne) (List.getLast_mem hne) with h | h
      · rw [h] at e; simp [e]
      · rw [h] at e; simp [e]
theorem seqs_nodup : ∀ n, (seqs n).Nodup
  | 0 => by show ([[]] : List (List Int)).Nodup; simp
  | n + 1 => by
    have ih := seqs_nodup n
    show ((seqs n).flatMap (fun u => [u ++ [1], u ++ [-1]])).Nodup
    have all : ∀ l : List (List Int), l.Nodup → (l.flatMap (fun u => [u ++ [1], u ++ [-1]])).Nodup := by
      intro l
      induction l with
      | nil => intro _; simp
      | cons u l ih =>
        intro h
        obtain ⟨h1, h2⟩ := List.nodup_cons.mp h
        rw [List.flatMap_cons, List.nodup_append]
        refine ⟨by simp, ih h2, fun a ha b hb e => ?_⟩
        subst e
        obtain ⟨v, hv, q⟩ := List.mem_flatMap.mp hb
        have pre : ∀ (x y : Int), u ++ [x] = v ++ [y] → u = v := fun x y e => (List.append_inj' e rfl).1
        have huv : u = v := by
          rcases List.mem_cons.mp ha with e1 | e1
          · rcases List.mem_cons.mp q with e2 | e2
            · exact pre _ _ (e1.symm.trans e2)
            · exact pre _ _ (e1.symm.trans (List.mem_singleton.mp e2))
          · have e1 := List.mem_singleton.mp e1
            rcases List.mem_cons.mp q with e2 | e2
            · exact pre _ _ (e1.symm.trans e2)
            · exact pre _ _ (e1.symm.trans (List.mem_singleton.mp e2))
        rw [huv] at h1
        exact h1 hv
    exact all _ ih
/-- how many rows of n more steps behind a state are taken -/
def L (due : List Int) : S5 → Nat → Nat
  | s, 0 => if done due s = true then 1 else 0
  | s, n + 1 => L due (rs due s 1) n + L due (rs due s (-1)) n
theorem run_snoc (u : List Int) (x : Int) : run due (u ++ [x]) = rs due (run due u) x := by
  unfold run; rw [List.foldl_append]; rfl
def acc (due : List Int) (n : Nat) : List (List Int) := (seqs n).filter fun u => done due (run due u)
theorem acc_mem {n : Nat} {w : List Int} : w ∈ acc due n ↔ PM w ∧ w.length = n ∧ Spl due w := by
  unfold acc
  rw [List.mem_filter, mem_seqs]
  show (PM w ∧ w.length = n) ∧ done due (run due w) = true ↔ _
  rw [done_iff]
  exact ⟨fun ⟨⟨a, b⟩, c⟩ => ⟨a, b, c⟩, fun ⟨a, b, c⟩ => ⟨⟨a, b⟩, c⟩⟩
theorem acc_nodup (n : Nat) : (acc due n).Nodup := (seqs_nodup n).sublist List.filter_sublist
theorem sum_flat (f : List Int → Nat) : ∀ l : List (List Int), ((l.flatMap fun u => [u ++ [1], u ++ [-1]]).map f).sum = (l.map fun u => f (u ++ [1]) + f (u ++ [-1])).sum
  | [] => rfl
  | u :: l => by
    rw [List.flatMap_cons, List.map_append, List.sum_append, sum_flat f l, List.map_cons (l := l), List.sum_cons (l := List.map _ l)]
    simp
theorem L_sum (n : Nat) : ∀ t, t ≤ n → ((seqs t).map fun u => L due (run due u) (n - t)).sum = L due s0 n
  | 0, _ => by
    show ([[]].map fun u => L due (run due u) (n - 0)).sum = _
    simp [run]
  | t + 1, h => by
    rw [← L_sum n t (by omega)]
    show (((seqs t).flatMap fun u => [u ++ [1], u ++ [-1]]).map fun u => L due (run due u) (n - (t + 1))).sum = _
    rw [sum_flat]
    congr 1
    refine List.map_congr_left fun u _ => ?_
    have e : n - t = (n - (t + 1)) + 1 := by omega
    rw [e, run_snoc, run_snoc]
    rfl
theorem sum_ind (p : List Int → Bool) : ∀ l : List (List Int), (l.map fun u => if p u = true then 1 else 0).sum = (l.filter p).length
  | [] => rfl
  | u :: l => by
    rw [List.map_cons, List.sum_cons, sum_ind p l, List.filter_cons]
    by_cases h : p u = true
    · rw [if_pos h, if_pos h, List.length_cons]; omega
    · rw [if_neg h, if_neg h]; omega
theorem L_acc (n : Nat) : L due s0 n = (acc due n).length := by
  rw [← L_sum n n (Nat.le_refl _), Nat.sub_self]
  exact sum_ind (fun u => done due (run due u)) (seqs n)
theorem L_le (n : Nat) : ∀ s, L due s n ≤ 2 ^ n := by
  induction n with
  | zero => intro s; unfold L; split <;> simp
  | succ n ih =>
    intro s
    have h1 := ih (rs due s 1)
    have h2 := ih (rs due s (-1))
    show L due (rs due s 1) n + L due (rs due s (-1)) n ≤ 2 ^ (n + 1)
    rw [Nat.pow_succ]; omega

/-! ### the search, word by word -/
/-- the words of t + 1 steps that can still be ended in n -/
def front (due : List Int) (n : Nat) : Nat → List (List Int)
  | 0 => [[]]
  | t + 1 => ((front due n t).flatMap fun u => [u ++ [1], u ++ [-1]]).filter fun u => decide (0 < L due (run due u) (n - 1 - t))
theorem flat_filter (p q : List Int → Bool) (h : ∀ u x, q (u ++ [x]) = true → p u = true ∨ (x ≠ 1 ∧ x ≠ -1)) : ∀ l : List (List Int),
    (((l.filter p).flatMap fun u => [u ++ [1], u ++ [-1]]).filter q) = ((l.flatMap fun u => [u ++ [1], u ++ [-1]]).filter q)
  | [] => rfl
  | u :: l => by
    rw [List.filter_cons, List.flatMap_cons, List.filter_append]
    by_cases hp : p u = true
    · rw [if_pos hp, List.flatMap_cons, List.filter_append, flat_filter p q h l]
    · rw [if_neg hp, flat_filter p q h l]
      have h1 : q (u ++ [1]) = false := by
        cases e : q (u ++ [1]) with
        | false => rfl
        | true =>
          rcases h u 1 e with z | z
          · exact absurd z hp
          · exact absurd rfl z.1
      have h2 : q (u ++ [-1]) = false := by
        cases e : q (u ++ [-1]) with
        | false => rfl
        | true =>
          rcases h u (-1) e with z | z
          · exact absurd z hp
          · exact absurd rfl z.2
      simp [h1, h2]
theorem front_eq (n : Nat) : ∀ t, t + 1 ≤ n → front due n (t + 1) = (seqs (t + 1)).filter fun u => decide (0 < L due (run due u) (n - 1 - t))
  | 0, _ => rfl
  | t + 1, h => by
    show ((front due n (t + 1)).flatMap fun u => [u ++ [1], u ++ [-1]]).filter _ = _
    rw [front_eq n t (by omega)]
    refine flat_filter _ _ (fun u x hx => ?_) _
    have hx : 0 < L due (run due (u ++ [x])) (n - 1 - (t + 1)) := of_decide_eq_true hx
    by_cases e : x = 1 ∨ x = -1
    · refine .inl (decide_eq_true ?_)
      have en : n - 1 - t = (n - 1 - (t + 1)) + 1 := by omega
      rw [en]
      rw [run_snoc] at hx
      show 0 < L due (rs due (run due u) 1) _ + L due (rs due (run due u) (-1)) _
      rcases e with e | e
      · rw [e] at hx; omega
      · rw [e] at hx; omega
    · exact .inr ⟨fun z => e (.inl z), fun z => e (.inr z)⟩
theorem front_end (n : Nat) (h : 1 ≤ n) : front due n n = acc due n := by
  obtain ⟨t, rfl⟩ : ∃ t, n = t + 1 := ⟨n - 1, by omega⟩
  rw [front_eq (t + 1) t (Nat.le_refl _)]
  unfold acc
  refine congrArg (List.filter · _) (funext fun u => ?_)
  have e : t + 1 - 1 - t = 0 := by omega
  rw [e]
  have el : L due (run due u) 0 = if done due (run due u) = true then 1 else 0 := rfl
  by_cases h : done due (run due u) = true
  · rw [if_pos h] at el
    rw [el, h]; rfl
  · rw [if_neg h] at el
    rw [el, Bool.eq_false_iff.mpr h]; rfl
theorem front_len (n : Nat) : ∀ t, (front due n t).length ≤ 2 ^ t
  | 0 => by show 1 ≤ 1; omega
  | t + 1 => by
    have ih := front_len n t
    refine Nat.le_trans (List.length_filter_le _ _) ?_
    have e : ∀ l : List (List Int), (l.flatMap fun u => [u ++ [1], u ++ [-1]]).length = 2 * l.length := by
      intro l
      induction l with
      | nil => rfl
      | cons u l ih => rw [List.flatMap_cons, List.length_append, ih]; simp; omega
    rw [e, Nat.pow_succ]; omega
theorem front_mem (n : Nat) : ∀ t u, u ∈ front due n t → PM u ∧ u.length = t
  | 0, u, h => by
    have e : u = [] := List.mem_singleton.mp h
    subst e; exact ⟨.nil, rfl⟩
  | t + 1, u, h => by
    have h := (List.mem_filter.mp h).1
    obtain ⟨v, hv, q⟩ := List.mem_flatMap.mp h
    obtain ⟨p, l⟩ := front_mem n t v hv
    rcases List.mem_cons.mp q with e | e
    · subst e; exact ⟨p.app (.cons (.inl rfl) .nil), by simp [l]⟩
    · have e := List.mem_singleton.mp e
      subst e; exact ⟨p.app (.cons (.inr rfl) .nil), by simp [l]⟩
end K28
set_option linter.all false
/-! Words as codes; tables of states. -/
namespace K28
/-- the letter's number behind a row of steps from the letter f -/
def at3 (f : Int) (u : List Int) : Int := (f + u.sum) % 3
def code (i : Int) : Nat := 97 + i.toNat
/-- the word's codes: a is 97 -/
def codes (f : Int) : List Int → List Nat
  | [] => [code f]
  | x :: r => code f :: codes ((f + x) % 3) r
theorem codes_len : ∀ (w : List Int) (f : Int), (codes f w).length = w.length + 1
  | [], _ => rfl
  | x :: r, f => by show (codes _ r).length + 1 = _; rw [codes_len r]; rfl
theorem at3_nil {f : Int} (h0 : 0 ≤ f) (h3 : f < 3) : at3 f [] = f := by unfold at3; simp; omega
theorem at3_range (f : Int) (u : List Int) : 0 ≤ at3 f u ∧ at3 f u < 3 := by unfold at3; omega
theorem at3_cons (f x : Int) (u : List Int) : at3 ((f + x) % 3) u = at3 f (x :: u) := by
  unfold at3; rw [List.sum_cons]; omega
theorem at3_snoc (f x : Int) (u : List Int) : at3 f (u ++ [x]) = (at3 f u + x) % 3 := by
  unfold at3; rw [List.sum_append]; simp; omega
theorem at3_app (f : Int) (u v : List Int) : at3 f (u ++ v) = (at3 f u + v.sum) % 3 := by
  unfold at3; rw [List.sum_append]; omega
/-- the i-th letter -/
theorem codes_get : ∀ (w : List Int) (f : Int) (i : Nat), 0 ≤ f → f < 3 → i ≤ w.length → (codes f w)[i]? = some (code (at3 f (w.take i)))
  | [], f, 0, h0, h3, _ => by show some (code f) = _; rw [List.take_zero, at3_nil h0 h3]
  | [], f, i + 1, h0, h3, h => by simp at h
  | x :: r, f, 0, h0, h3, _ => by show some (code f) = _; rw [List.take_zero, at3_nil h0 h3]
  | x :: r, f, i + 1, h0, h3, h => by
    show (codes ((f + x) % 3) r)[i]? = _
    rw [codes_get r _ i (by omega) (by omega) (by simpa using h), at3_cons, List.take_succ_cons]
theorem codes_none {w : List Int} {f : Int} {i : Nat} (h : w.length < i) : (codes f w)[i]? = none := by
  rw [List.getElem?_eq_none_iff, codes_len]; omega
theorem codes_snoc (w : List Int) (f x : Int) (h0 : 0 ≤ f) (h3 : f < 3) : codes f (w ++ [x]) = codes f w ++ [code (at3 f (w ++ [x]))] := by
  apply List.ext_getElem?
  intro i
  by_cases h : i ≤ w.length
  · rw [codes_get _ _ _ h0 h3 (by simp; omega), List.getElem?_append_left (by rw [codes_len]; omega), codes_get _ _ _ h0 h3 h, List.take_append_of_le_length h]
  · by_cases h2 : i = w.length + 1
    · rw [codes_get _ _ _ h0 h3 (by simp; omega), List.getElem?_append_right (by rw [codes_len]; omega), codes_len, h2, Nat.sub_self, List.take_of_length_le (by simp)]
      rfl
    · rw [codes_none (by simp; omega), List.getElem?_eq_none_iff.mpr (by rw [List.length_append, codes_len]; simp; omega)]
theorem code_inj {i j : Int} (hi : 0 ≤ i) (hj : 0 ≤ j) (h : code i = code j) : i = j := by unfold code at h; omega
/-- the two letters of a step -/
theorem step_at {f : Int} {w : List Int} {i : Nat} {x : Int} (h : w[i]? = some x) : at3 f (w.take (i + 1)) = (at3 f (w.take i) + x) % 3 := by
  rw [List.take_add_one, h]
  exact at3_snoc f x _
theorem codes_inj {f : Int} (h0 : 0 ≤ f) (h3 : f < 3) {w w' : List Int} (p : PM w) (p' : PM w') (e : codes f w = codes f w') : w = w' := by
  have hl : w.length = w'.length := by
    have := congrArg List.length e
    rw [codes_len, codes_len] at this
    omega
  have key : ∀ i : Nat, i ≤ w.length → at3 f (w.take i) = at3 f (w'.take i) := fun i hi => by
    have q : (codes f w)[i]? = (codes f w')[i]? := by rw [e]
    rw [codes_get w f i h0 h3 hi, codes_get w' f i h0 h3 (by omega)] at q
    exact code_inj (at3_range _ _).1 (at3_range _ _).1 (Option.some.inj q)
  apply List.ext_getElem hl
  intro i h1 h2
  have e1 := step_at (f := f) (List.getElem?_eq_getElem h1)
  have e2 := step_at (f := f) (List.getElem?_eq_getElem h2)
  have k1 := key i (by omega)
  have k2 := key (i + 1) (by omega)
  have r := at3_range f (w.take i)
  rcases p _ (List.getElem_mem h1) with a | a <;> rcases p' _ (List.getElem_mem h2) with b | b <;> omega
/-- the letter put in -/
theorem codes_put (f : Int) (a b : List Int) (x : Int) (h0 : 0 ≤ f) (h3 : f < 3) (hx : x = 1 ∨ x = -1) :
    codes f (a ++ -x :: -x :: b) = (codes f (a ++ x :: b)).take (a.length + 1) ++ code ((at3 f a - x) % 3) :: (codes f (a ++ x :: b)).drop (a.length + 1) := by
  have l1 : (codes f (a ++ x :: b)).length = a.length + b.length + 2 := by rw [codes_len]; simp; omega
  have l2 : ((codes f (a ++ x :: b)).take (a.length + 1)).length = a.length + 1 := by rw [List.length_take, l1]; omega
  apply List.ext_getElem?
  intro i
  by_cases h : i ≤ a.length
  · rw [codes_get _ _ _ h0 h3 (by simp; omega), List.getElem?_append_left (by rw [l2]; omega), List.getElem?_take, if_pos (by omega), codes_get _ _ _ h0 h3 (by simp; omega),
      List.take_append_of_le_length h, List.take_append_of_le_length h]
  · by_cases h2 : i = a.length + 1
    · rw [codes_get _ _ _ h0 h3 (by simp; omega), List.getElem?_append_right (by rw [l2]; omega), l2, h2, Nat.sub_self]
      have e : (a ++ -x :: -x :: b).take (a.length + 1) = a ++ [-x] := by
        rw [List.take_append, Nat.add_sub_cancel_left, List.take_of_length_le (by omega)]; rfl
      rw [e, at3_snoc]
      rfl
    · rw [List.getElem?_append_right (by rw [l2]; omega), l2]
      obtain ⟨k, hk⟩ : ∃ k, i = a.length + 2 + k := ⟨i - (a.length + 2), by omega⟩
      subst hk
      have e1 : a.length + 2 + k - (a.length + 1) = k + 1 := by omega
      rw [e1, List.getElem?_cons_succ, List.getElem?_drop]
      by_cases h4 : k ≤ b.length
      · rw [codes_get _ _ _ h0 h3 (by simp; omega), codes_get _ _ _ h0 h3 (by simp; omega)]
        have e2 : (a ++ -x :: -x :: b).take (a.length + 2 + k) = a ++ -x :: -x :: b.take k := by
          rw [List.take_append, List.take_of_length_le (by omega)]
          have : a.length + 2 + k - a.length = k + 2 := by omega
          rw [this]; rfl
        have e3 : (a ++ x :: b).take (a.length + 1 + k) = a ++ x :: b.take k := by
          rw [List.take_append, List.take_of_length_le (by omega)]
          have : a.length + 1 + k - a.length = k + 1 := by omega
          rw [this]; rfl
        rw [e2, e3, at3_app, at3_app]
        simp only [List.sum_cons]
        congr 2
        omega
      · rw [codes_none (by simp; omega), codes_none (by simp; omega)]

/-! ### tables of numbers by states -/
def Tab := List (S5 × Nat)
def wsum (f : S5 → Nat) (T : List (S5 × Nat)) : Nat := (T.map fun p => p.2 * f p.1).sum
theorem wsum_cons (f : S5 → Nat) (p : S5 × Nat) (T : List (S5 × Nat)) : wsum f (p :: T) = p.2 * f p.1 + wsum f T := by
  unfold wsum; rw [List.map_cons, List.sum_cons]
theorem wsum_app (f : S5 → Nat) (T U : List (S5 × Nat)) : wsum f (T ++ U) = wsum f T + wsum f U := by
  unfold wsum; rw [List.map_append, List.sum_append]
def tget (T : List (S5 × Nat)) (s : S5) : Nat := ((T.find? fun p => decide (p.1 = s)).map (·.2)).getD 0
def tput (T : List (S5 × Nat)) (s : S5) (n : Nat) : List (S5 × Nat) :=
  if (T.any fun p => decide (p.1 = s)) = true then T.map (fun p => if p.1 = s then (p.1, n) else p) else T ++ [(s, n)]
def tadd (T : List (S5 × Nat)) (s : S5) (n : Nat) : List (S5 × Nat) := tput T s (tget T s + n)
theorem tput_len (T : List (S5 × Nat)) (s : S5) (n : Nat) : (tput T s n).length ≤ T.length + 1 := by
  unfold tput; split
  · rw [List.length_map]; omega
  · rw [List.length_append]; simp
theorem tput_nodup (T : List (S5 × Nat)) (s : S5) (n : Nat) (h : (T.map (·.1)).Nodup) : ((tput T s n).map (·.1)).Nodup := by
  unfold tput; split
  · have e : (T.map fun p => if p.1 = s then (p.1, n) else p).map (·.1) = T.map (·.1) := by
      rw [List.map_map]
      refine List.map_congr_left fun p _ => ?_
      show (if p.1 = s then (p.1, n) else p).1 = p.1
      split <;> rfl
    rw [e]; exact h
  · rename_i hn
    rw [List.map_append, List.nodup_append]
    refine ⟨h, by simp, fun a ha b hb e => hn ?_⟩
    have hb : b = s := by simpa using hb
    obtain ⟨p, hp, e2⟩ := List.mem_map.mp ha
    exact List.any_eq_true.mpr ⟨p, hp, decide_eq_true (by rw [e2, e, hb])⟩
theorem wsum_out (f : S5 → Nat) (s : S5) (n : Nat) : ∀ T : List (S5 × Nat), (∀ p ∈ T, p.1 ≠ s) → (T.map fun p => if p.1 = s then (p.1, n) else p) = T
  | [], _ => rfl
  | p :: T, h => by
    rw [List.map_cons, if_neg (h p List.mem_cons_self), wsum_out f s n T fun q hq => h q (List.mem_cons_of_mem _ hq)]
theorem wsum_add (f : S5 → Nat) (s : S5) (n : Nat) : ∀ T : List (S5 × Nat), (T.map (·.1)).Nodup → wsum f (tadd T s n) = wsum f T + n * f s
  | [], _ => by
    show wsum f [(s, (0 : Nat) + n)] = _
    simp [wsum]
  | p :: T, h => by
    obtain ⟨h1, h2⟩ := List.nodup_cons.mp h
    unfold tadd tput tget
    rw [List.any_cons, List.find?_cons]
    by_cases e : p.1 = s
    · have hne : ∀ q ∈ T, q.1 ≠ s := fun q hq z => h1 (List.mem_map.mpr ⟨q, hq, z.trans e.symm⟩)
      rw [if_pos (by simp [e])]
      simp only [decide_eq_true e, Option.map_some, Option.getD_some]
      rw [List.map_cons, if_pos e, wsum_out f s _ T hne, wsum_cons, wsum_cons, e, Nat.add_mul]
      omega
    · have ih := wsum_add f s n T h2
      unfold tadd tput tget at ih
      simp only [decide_eq_false e, Bool.false_or]
      rw [wsum_cons]
      by_cases c : (T.any fun p => decide (p.1 = s)) = true
      · rw [if_pos c] at ih ⊢
        rw [List.map_cons, if_neg e, wsum_cons, ih]; omega
      · rw [if_neg c] at ih ⊢
        rw [List.cons_append, wsum_cons, ih]; omega
variable {due : List Int}
def growR (due : List Int) (A : List (S5 × Nat)) (p : S5 × Nat) : List (S5 × Nat) := tadd (tadd A (rs due p.1 1) p.2) (rs due p.1 (-1)) p.2
def growT (due : List Int) (T : List (S5 × Nat)) : List (S5 × Nat) := T.foldl (growR due) []
theorem growR_ok {A : List (S5 × Nat)} (h : (A.map (·.1)).Nodup) (p : S5 × Nat) : ((growR due A p).map (·.1)).Nodup ∧ (growR due A p).length ≤ A.length + 2 ∧
    ∀ f, wsum f (growR due A p) = wsum f A + p.2 * (f (rs due p.1 1) + f (rs due p.1 (-1))) := by
  have n1 : ((tadd A (rs due p.1 1) p.2).map (·.1)).Nodup := tput_nodup _ _ _ h
  refine ⟨tput_nodup _ _ _ n1, ?_, fun f => ?_⟩
  · have a := tput_len A (rs due p.1 1) (tget A (rs due p.1 1) + p.2)
    have b := tput_len (tadd A (rs due p.1 1) p.2) (rs due p.1 (-1)) (tget (tadd A (rs due p.1 1) p.2) (rs due p.1 (-1)) + p.2)
    unfold growR tadd at *
    omega
  · unfold growR
    rw [wsum_add f _ _ _ n1, wsum_add f _ _ _ h, Nat.mul_add]; omega
theorem grow_fold : ∀ (T A : List (S5 × Nat)), (A.map (·.1)).Nodup → ((T.foldl (growR due) A).map (·.1)).Nodup ∧ (T.foldl (growR due) A).length ≤ A.length + 2 * T.length ∧
    ∀ f, wsum f (T.foldl (growR due) A) = wsum f A + wsum (fun s => f (rs due s 1) + f (rs due s (-1))) T
  | [], A, h => ⟨h, Nat.le_refl _, fun f => rfl⟩
  | p :: T, A, h => by
    obtain ⟨a, b, c⟩ := growR_ok (due := due) h p
    obtain ⟨a2, b2, c2⟩ := grow_fold T _ a
    refine ⟨a2, ?_, fun f => ?_⟩
    · show (T.foldl (growR due) (growR due A p)).length ≤ A.length + 2 * (T.length + 1)
      omega
    · show wsum f (T.foldl (growR due) (growR due A p)) = _
      rw [c2, c, wsum_cons]; omega
def tabs (due : List Int) : Nat → List (S5 × Nat)
  | 0 => [(s0, 1)]
  | t + 1 => growT due (tabs due t)
theorem tabs_ok : ∀ t, ((tabs due t).map (·.1)).Nodup ∧ (tabs due t).length ≤ 2 ^ t
  | 0 => ⟨by show [s0].Nodup; simp, by show 1 ≤ 1; omega⟩
  | t + 1 => by
    obtain ⟨_, b⟩ := tabs_ok t
    obtain ⟨a2, b2, _⟩ := grow_fold (due := due) (tabs due t) [] (by simp)
    refine ⟨a2, ?_⟩
    show (growT due (tabs due t)).length ≤ _
    unfold growT
    rw [Nat.pow_succ]
    simp only [List.length_nil] at b2
    omega
theorem tabs_sum (n : Nat) : ∀ t, t ≤ n → wsum (fun s => L due s (n - t)) (tabs due t) = L due s0 n
  | 0, _ => by show wsum _ [(s0, 1)] = _; simp [wsum]
  | t + 1, h => by
    rw [← tabs_sum n t (by omega)]
    obtain ⟨_, _, c⟩ := grow_fold (due := due) (tabs due t) [] (by simp)
    show wsum _ (growT due (tabs due t)) = _
    unfold growT
    rw [c]
    have e : n - t = (n - (t + 1)) + 1 := by omega
    rw [e]
    show 0 + _ = _
    rw [Nat.zero_add]
    rfl
/-- the numbers of the states that are done -/
def dones (due : List Int) (T : List (S5 × Nat)) : List Nat := (T.filter fun p => done due p.1).map (·.2)
theorem dones_sum : ∀ T : List (S5 × Nat), (dones due T).sum = wsum (fun s => L due s 0) T
  | [] => rfl
  | p :: T => by
    have ih := dones_sum T
    unfold dones at ih ⊢
    rw [List.filter_cons, wsum_cons]
    have el : L due p.1 0 = if done due p.1 = true then 1 else 0 := rfl
    by_cases h : done due p.1 = true
    · rw [if_pos h, List.map_cons, List.sum_cons, ih, el, if_pos h]; omega
    · rw [if_neg h, ih, el, if_neg h]; omega
/-- THE NUMBER -/
theorem number (n : Nat) : (dones due (tabs due n)).sum = (acc due n).length := by
  have e := tabs_sum (due := due) n n (Nat.le_refl _)
  rw [Nat.sub_self] at e
  rw [dones_sum, e, L_acc]
end K28
set_option Elab.async false
set_option linter.all false
set_option maxRecDepth 100000
/-! The text: each def by its place at the top, its names by slot. -/
namespace K28
open PySem PySem.Spec PyProof.Rows L2
def topS (i : Nat) : Stmt := PySem.Challenge.pw_thirdletters_k28_whole_words_above.main.body.getD i (.Pass ⟨0, 0, 0, 0⟩)
abbrev dIsInt : Stmt := topS 9
abbrev dIsIn : Stmt := topS 10
abbrev dNeedNumber : Stmt := topS 11
abbrev dNeedWord : Stmt := topS 12
abbrev dNeedShort : Stmt := topS 13
abbrev dNeedLimited : Stmt := topS 14
abbrev dStepsOf : Stmt := topS 15
abbrev dWordOf : Stmt := topS 16
abbrev dBeginState : Stmt := topS 21
abbrev dReadStep : Stmt := topS 22
abbrev dIsDone : Stmt := topS 23
abbrev dGrow : Stmt := topS 24
abbrev dNeedBase : Stmt := topS 25
abbrev dNumberAbove : Stmt := topS 26
abbrev dCountAbove : Stmt := topS 27
abbrev dWordsAbove : Stmt := topS 28
abbrev dLeftOf : Stmt := topS 29
abbrev dTaken : Stmt := topS 31
abbrev dPick : Stmt := topS 32
abbrev dAlike : Stmt := topS 33
abbrev dLawWord : Stmt := topS 34
abbrev dAny : Stmt := topS 35
abbrev dPut : Stmt := topS 36
abbrev dUps : Stmt := topS 37
abbrev dLaw : Stmt := topS 38
theorem scIsInt : FnScope ["value"] ["value"] (defScope dIsInt) := ⟨rfl, rfl, rfl, by decide +kernel, rfl, by decide +kernel, by decide +kernel⟩
theorem scIsIn : FnScope ["value", "least", "most"] ["value", "least", "most"] (defScope dIsIn) := ⟨rfl, rfl, rfl, by decide +kernel, rfl, by decide +kernel, by decide +kernel⟩
theorem scNeedNumber : FnScope ["value", "least", "most"] ["value", "least", "most"] (defScope dNeedNumber) := ⟨rfl, rfl, rfl, by decide +kernel, rfl, by decide +kernel, by decide +kernel⟩
theorem scNeedWord : FnScope ["value", "place", "sign"] ["value"] (defScope dNeedWord) := ⟨rfl, rfl, rfl, by decide +kernel, rfl, by decide +kernel, by decide +kernel⟩
theorem scNeedShort : FnScope ["words", "most", "word"] ["words", "most"] (defScope dNeedShort) := ⟨rfl, rfl, rfl, by decide +kernel, rfl, by decide +kernel, by decide +kernel⟩
theorem scNeedLimited : FnScope ["word", "most"] ["word", "most"] (defScope dNeedLimited) := ⟨rfl, rfl, rfl, by decide +kernel, rfl, by decide +kernel, by decide +kernel⟩
theorem scStepsOf : FnScope ["word", "one", "other"] ["word"] (defScope dStepsOf) := ⟨rfl, rfl, rfl, by decide +kernel, rfl, by decide +kernel, by decide +kernel⟩
theorem scWordOf : FnScope ["first", "steps", "at", "found", "step"] ["first", "steps"] (defScope dWordOf) := ⟨rfl, rfl, rfl, by decide +kernel, rfl, by decide +kernel, by decide +kernel⟩
theorem scBeginState : FnScope ([] : List Str) ([] : List Str) (defScope dBeginState) := ⟨rfl, rfl, rfl, by decide +kernel, rfl, by decide +kernel, by decide +kernel⟩
theorem scReadStep : FnScope ["due", "state", "step", "made", "turns", "alike", "last", "whole", "fresh", "now", "total", "at", "due_step", "bit"] ["due", "state", "step"] (defScope dReadStep) := ⟨rfl, rfl, rfl, by decide +kernel, rfl, by decide +kernel, by decide +kernel⟩
theorem scIsDone : FnScope ["due", "state"] ["due", "state"] (defScope dIsDone) := ⟨rfl, rfl, rfl, by decide +kernel, rfl, by decide +kernel, by decide +kernel⟩
theorem scGrow : FnScope ["due", "states", "later", "state", "many", "step", "there"] ["due", "states"] (defScope dGrow) := ⟨rfl, rfl, rfl, by decide +kernel, rfl, by decide +kernel, by decide +kernel⟩
theorem scNeedBase : FnScope ["word", "size"] ["word", "size"] (defScope dNeedBase) := ⟨rfl, rfl, rfl, by decide +kernel, rfl, by decide +kernel, by decide +kernel⟩
theorem scNumberAbove : FnScope ["due", "many", "states", "turn", "state", "times"] ["due", "many"] (defScope dNumberAbove) := ⟨rfl, rfl, rfl, by decide +kernel, rfl, by decide +kernel, by decide +kernel⟩
theorem scCountAbove : FnScope ["word", "size"] ["word", "size"] (defScope dCountAbove) := ⟨rfl, rfl, rfl, by decide +kernel, rfl, by decide +kernel, by decide +kernel⟩
theorem scWordsAbove : FnScope ["word", "size", "due", "known", "found", "turn", "longer", "told", "state", "step", "there"] ["word", "size"] (defScope dWordsAbove) := ⟨rfl, rfl, rfl, by decide +kernel, rfl, by decide +kernel, by decide +kernel⟩
theorem scLeftOf : FnScope ["known", "due", "state", "many", "key", "step"] ["known", "due", "state", "many"] (defScope dLeftOf) := ⟨rfl, rfl, rfl, by decide +kernel, rfl, by decide +kernel, by decide +kernel⟩
theorem scTaken : FnScope ["_law_row", "_law_many", "_law_found", "_law_cell"] ["_law_row", "_law_many"] (defScope dTaken) := ⟨rfl, rfl, rfl, by decide +kernel, rfl, by decide +kernel, by decide +kernel⟩
theorem scPick : FnScope ["_law_row", "_law_things"] ["_law_row", "_law_things"] (defScope dPick) := ⟨rfl, rfl, rfl, by decide +kernel, rfl, by decide +kernel, by decide +kernel⟩
theorem scAlike : FnScope ["_law_found", "_law_due", "_law_k"] ["_law_found", "_law_due"] (defScope dAlike) := ⟨rfl, rfl, rfl, by decide +kernel, rfl, by decide +kernel, by decide +kernel⟩
theorem scLawWord : FnScope ["_law_first", "_law_line", "_law_at", "_law_found", "_law_step"] ["_law_first", "_law_line"] (defScope dLawWord) := ⟨rfl, rfl, rfl, by decide +kernel, rfl, by decide +kernel, by decide +kernel⟩
theorem scAny : FnScope ["_law_row", "_law_most", "_law_many", "_law_turn"] ["_law_row", "_law_most"] (defScope dAny) := ⟨rfl, rfl, rfl, by decide +kernel, rfl, by decide +kernel, by decide +kernel⟩
theorem scPut : FnScope ["_law_word_here", "_law_place", "_law_third", "_law_sign"] ["_law_word_here", "_law_place"] (defScope dPut) := ⟨rfl, rfl, rfl, by decide +kernel, rfl, by decide +kernel, by decide +kernel⟩
theorem scUps : FnScope ["_law_word_here", "_law_place"] ["_law_word_here"] (defScope dUps) := ⟨rfl, rfl, rfl, by decide +kernel, rfl, by decide +kernel, by decide +kernel⟩
theorem scLaw : FnScope ["_law_script", "_law_row", "_law_word_here", "_law_size", "_law_rim", "_law_turn", "_law_later", "_law_here", "_law_there"] ["_law_script"] (defScope dLaw) := ⟨rfl, rfl, rfl, by decide +kernel, rfl, by decide +kernel, by decide +kernel⟩
end K28
set_option Elab.async false
set_option linter.all false
set_option maxRecDepth 100000
set_option maxHeartbeats 4000000
/-! is_int, is_in, need_number. -/
namespace K28
open PySem PySem.Spec PyProof.Rows L2
/-- what the module's names hold -/
structure Gb (mg : Str → Option Value) (t1 t2 t3 t4 t5 : Tok) : Prop where
  isin : mg "isinstance" = none
  int_ : mg "int" = none
  bool_ : mg "bool" = none
  str_ : mg "str" = none
  len_ : mg "len" = none
  enum_ : mg "enumerate" = none
  zip_ : mg "zip" = none
  max_ : mg "max" = none
  sum_ : mg "sum" = none
  range_ : mg "range" = none
  sorted_ : mg "sorted" = none
  set_ : mg "set" = none
  tuple_ : mg "tuple" = none
  list_ : mg "list" = none
  LET : mg "LETTERS" = some (.str "abc" t1)
  MLET : mg "MOST_LETTERS" = some (.int 200 t2)
  MBASE : mg "MOST_BASE" = some (.int 12 t3)
  MGROWN : mg "MOST_GROWN" = some (.int 60 t4)
  MLIST : mg "MOST_LISTED" = some (.int 500 t5)
section
variable {P : Program} {w : World} {K : PySem.W.Frag} {mg : Str → Option Value} {base : Heap} {t1 t2 t3 t4 t5 : Tok}
/-- is_int of an int -/
def spIsInt : Sp := fun vs H Q _ => ∃ n : Int, vs = [.int n] ∧ Q (.bl true) H
theorem ok_isInt {f : Addr} {fd : FuncData} {k : Nat} (F : Fun K "is_int" "is_int" dIsInt f fd) (G : Gb mg t1 t2 t3 t4 t5) : FnOk P w K mg base CX0 (k + 1) f fd ["value"] spIsInt := by
  refine F.ok scIsInt (fun vs H Q E h => ?_) (fun cdv A outer s H vs Q E hr h => ?_)
  · obtain ⟨n, rfl, _⟩ := h; rfl
  · obtain ⟨n, rfl, q⟩ := h
    refine ⟨_, pss_one (ps_ret (pe_and (pe_callB call_isi (by rfl) G.isin (by decide +kernel) (pa_cons (pv 0) (pa_cons (pe_bltn (v := .ty "int") (by rfl) G.int_ (by decide +kernel) rfl) pa_nil)))
      (pe_one (pe_not (pe_callB call_isi (by rfl) G.isin (by decide +kernel) (pa_cons (pv 0) (pa_cons (pe_bltn (v := .ty "bool") (by rfl) G.bool_ (by decide +kernel) rfl) pa_nil))))))), ?_⟩
    refine ⟨.int n, rfl, .int n, .ty "int", .type "int", .type "int", true, rfl, .ty "int", .base (.int n), kit_ty (by decide +kernel), true, rfl, iteT ?_⟩
    exact ⟨.int n, rfl, .int n, .ty "bool", .type "int", .type "bool", false, rfl, .ty "bool", .base (.int n), kit_ty (by decide +kernel), false, rfl, q⟩
/-- is_in of three ints, the first between the others -/
def spIsIn : Sp := fun vs H Q _ => ∃ n a b : Int, vs = [.int n, .int a, .int b] ∧ a ≤ n ∧ n ≤ b ∧ Q (.bl true) H
theorem ok_isIn {f g : Addr} {fd gd : FuncData} {k : Nat} (F : Fun K "is_in" "is_in" dIsIn f fd) (G1 : FnOk P w K mg base CX0 k g gd ["value"] spIsInt) (kp : PySem.W.keepIn K (.ref g) = true) (b1 : Binds K gd ["value"] []) (m1 : mg "is_int" = some (.ref g)) :
    FnOk P w K mg base CX0 (k + 1) f fd ["value", "least", "most"] spIsIn := by
  refine F.ok scIsIn (fun vs H Q E h => ?_) (fun cdv A outer s H vs Q E hr h => ?_)
  · obtain ⟨n, a, b, rfl, _⟩ := h; rfl
  · obtain ⟨n, a, b, rfl, h1, h2, q⟩ := h
    refine ⟨_, pss_one (ps_ret (pe_and (pe_call G1 hr (by rfl) m1 kp b1 .nil pass0 (pa_cons (pv 0) pa_nil)) (pe_one (pe_chain op_le op_le (pv 1) (pv 0) (pv 2))))), ?_⟩
    refine ⟨.int n, rfl, n, rfl, true, rfl, iteT ?_⟩
    refine ⟨.int a, rfl, .int n, rfl, _, _, rfl, rfl, decide (a ≤ n), rfl, ?_⟩
    rw [decide_eq_true h1]
    refine iteT ⟨.int b, rfl, _, _, rfl, rfl, ?_⟩
    show Q (.bl (decide (n ≤ b))) H
    rw [decide_eq_true h2]
    exact q
/-- need_number: within -/
def spNeedNumber : Sp := fun vs H Q _ => ∃ n a b : Int, vs = [.int n, .int a, .int b] ∧ a ≤ n ∧ n ≤ b ∧ Q .non H
theorem ok_needNumber {f g : Addr} {fd gd : FuncData} {k : Nat} (F : Fun K "need_number" "need_number" dNeedNumber f fd) (G1 : FnOk P w K mg base CX0 k g gd ["value", "least", "most"] spIsIn) (kp : PySem.W.keepIn K (.ref g) = true)
    (b1 : Binds K gd ["value", "least", "most"] []) (m1 : mg "is_in" = some (.ref g)) : FnOk P w K mg base CX0 (k + 1) f fd ["value", "least", "most"] spNeedNumber := by
  refine F.ok scNeedNumber (fun vs H Q E h => ?_) (fun cdv A outer s H vs Q E hr h => ?_)
  · obtain ⟨n, a, b, rfl, _⟩ := h; rfl
  · obtain ⟨n, a, b, rfl, h1, h2, q⟩ := h
    refine ⟨_, pss_one (ps_if (pt_not (pt_val (pe_call G1 hr (by rfl) m1 kp b1 .nil pass0 (pa_cons (pv 0) (pa_cons (pv 1) (pa_cons (pv 2) pa_nil)))))) pss_never pss_nil), ?_⟩
    exact ⟨.int n, rfl, .int a, rfl, .int b, rfl, n, a, b, rfl, h1, h2, true, rfl, iteF q⟩
end
end K28
set_option Elab.async false
set_option linter.all false
set_option maxRecDepth 100000
set_option maxHeartbeats 4000000
/-! Walks that the hand layer lacks: enumerate(text), zip(text, text), items() of a dict with tuple keys. Each over the library's GoesN. -/
namespace K28
open PySem PySem.Spec PyProof.Rows L2
section
variable {X : Cx} {pins : List (Addr × Obj)} {σ : L2.St} {H : Hp} {s : Shared}
/-- our records have turned and one new pair is tracked -/
theorem pair_laid {h' : Heap} {tk : Nat} {ch : List Addr} {T : Addr} {x y : V} {u v : Value} (I : Inv X pins σ H s) (k : ∀ b o, b ∉ ch → s.heap.get? b = some o → h'.get? b = some o) (hf : ∀ b ∈ ch, FpOk X pins H b)
    (hT : s.heap.objs.size ≤ T) (it : h'.IsTuple T #[u, v]) (rx : RelV x u) (ry : RelV y v) : Inv X pins σ (upd H T (.tup [x, y])) { s with heap := h', toks := tk } := by
  refine I.turnedNew k hf hT ⟨show 2 ≤ sizeLine by decide, [u, v], .cons rx (.cons ry .nil), ?_⟩
  obtain ⟨o, a, b, n, d⟩ := it
  exact ⟨o, a, b, n, d⟩
end
/-- n pairs, each a new tuple; of the i-th pair Yd tells; G tells what must stand -/
def ItP (n : Nat) (G : Hp → Prop) (Yd : Nat → Hp → V → V → Prop) : It :=
  ⟨fun i H => i < n ∧ G H, fun i H v H' => ∃ T x y, v = .ref T ∧ H T = none ∧ H' = upd H T (.tup [x, y]) ∧ Yd i H x y, fun i H => i = n ∧ G H⟩
theorem turn_pairs {P : Program} {w : World} {K : PySem.W.Frag} {elts : List Expr} {kk : Nat} {tpos : Pos} {n : Nat} {G : Hp → Prop} {Yd : Nat → Hp → V → V → Prop} {fp wr fpG : List Addr} {it : Addr}
    {tn : Nat → Heap → Prop} {side : Heap → Prop} {Y : Nat → Heap → Value → Heap → Prop} (hm : it ∈ fp) (hw : ∀ b ∈ wr, b ∈ fp)
    (obj : ∀ i h, tn i h → ∀ b ∈ fp, ∃ o, h.get? b = some o ∧ ∀ v, o.data ≠ .cell v)
    (keep : ∀ i h h', tn i h → (∀ b ∈ fp, ∀ o, h.get? b = some o → h'.get? b = some o) → tn i h')
    (goes : ∀ A : Around, A.handled = none → GoesN P w A (.Tuple elts kk tpos) it fpG wr n Y (fun i h => tn i h ∧ side h))
    (self : ∀ (A : Around) (i : Nat) (s : Shared) (Q : Value → Shared → Prop) (E : Value → Shared → Prop), tn i s.heap → Q (.ref it) s → wpAny (model P w) A (pyIter (.ref it)) Q E s)
    (hG : ∀ X : Cx, X.prog = P → X.w = w → ∀ (pins : List (Addr × Obj)) (σ : L2.St) (H : Hp) (s : Shared), Inv X pins σ H s → G H → side s.heap ∧ ∀ (i : Nat) (v : Value) (h' : Heap), i < n → Y i s.heap v h' →
      ∃ T x y u1 u2, v = .ref T ∧ s.heap.objs.size ≤ T ∧ h'.IsTuple T #[u1, u2] ∧ RelV x u1 ∧ RelV y u2 ∧ Yd i H x y) :
    Turn P w K (.Tuple elts kk tpos) (ItP n G Yd) fp it tn where
  mem := hm
  obj := obj
  keep := keep
  item := by
    intro X hP hw' hK hc i pins s σ H E I hf st hg
    obtain ⟨hi, g⟩ := hg
    obtain ⟨sd, hy⟩ := hG X hP hw' pins σ H s I g
    subst hP hw' hK
    refine wpAny_mono ((goes X.A (I.ok.hd hc)).goes i s (fun u s2 => ∃ y H', Inv X pins σ H' s2 ∧ RelV y u ∧ (ItP n G Yd).yld i H y H' ∧ tn (i + 1) s2.heap ∧ ∀ b ∈ fp, H' b = none) E hi ⟨st, sd⟩
      fun v h' tk hY st' hk _ => ?_) (fun r s1 q => q) fun _ _ z => z
    obtain ⟨T, x, y, u1, u2, rfl, hT, hI, rx, ry, yd⟩ := hy i v h' hi hY
    refine ⟨.ref T, _, pair_laid I hk (fun b hb => hf b (hw b hb)) hT hI rx ry, rfl, ⟨T, x, y, rfl, I.hok.fresh hT, rfl, yd⟩, st'.1, fun b hb => ?_⟩
    obtain ⟨o, ho, _⟩ := obj i s.heap st b hb
    rw [upd_ne (Nat.ne_of_lt (Nat.lt_of_lt_of_le (Heap.lt_size ho) hT))]
    exact (hf b hb).1
  done := by
    intro X hP hw' hK hc i pins s σ H E I hf st hg
    obtain ⟨hi, g⟩ := hg
    obtain ⟨sd, _⟩ := hG X hP hw' pins σ H s I g
    subst hP hw' hK
    subst hi
    exact (goes X.A (I.ok.hd hc)).stops s (fun s1 => Inv X pins σ H s1) E ⟨st, sd⟩ fun h' tk hk _ => I.turnedL hk fun b hb => hf b (hw b hb)
  self := self
/-- a walk over such pairs, for for_it and lc_it -/
theorem walk_P {n : Nat} {G : Hp → Prop} {Yd : Nat → Hp → V → V → Prop} : Walk (ItP n G Yd) n G (fun i H v H' => ∃ T x y, v = .ref T ∧ H T = none ∧ H' = upd H T (.tup [x, y]) ∧ Yd i H x y) :=
  ⟨fun i H hi g => ⟨hi, g⟩, fun H g => ⟨rfl, g⟩, fun i H x H' hi g y => y⟩

/-! ### enumerate(text) -/
def YdEs (x : Str) (i : Nat) (_ : Hp) (a b : V) : Prop := a = .int (i : Nat) ∧ ∃ c, x.cps[i]? = some c ∧ b = .str ⟨#[c]⟩
abbrev ItEs (x : Str) : It := ItP x.cps.size (fun _ => True) (YdEs x)
theorem turn_Es {P : Program} {w : World} {K : PySem.W.Frag} {elts : List Expr} {kk : Nat} {tpos : Pos} (x : Str) (t : Tok) (e it : Addr) (hne : e ≠ it) :
    Turn P w K (.Tuple elts kk tpos) (ItEs x) [e, it] e (fun i h => (∃ old, IsEnum h e it (0 + (i : Int)) old) ∧ h.IsStrIter it (strIterType x) x t i) := by
  refine turn_pairs (wr := [e, it]) (fpG := [e, it]) (side := fun _ => True) (Y := fun i h₀ v h => ∃ T tt y, v = .ref T ∧ h₀.objs.size ≤ T ∧ (∃ c u, x.cps[i]? = some c ∧ y = .str ⟨#[c]⟩ u) ∧ h.IsTuple T #[.int (0 + (i : Int)) tt, y])
    (by simp) (fun b hb => hb) (fun i h st b hb => ?_) (fun i h h' st k => ?_) (fun A hh => ?_) (fun A i s Q E st h => let ⟨⟨_, he⟩, _⟩ := st; wpAny_pyIter_enum he h) (fun X hP hw pins σ H s I g => ⟨trivial, fun i v h' hi y => ?_⟩)
  · obtain ⟨⟨old, he⟩, ⟨o, ho, hc, hd⟩⟩ := st
    rcases List.mem_cons.mp hb with z | z
    · rw [z]; exact ⟨_, he, fun v q => nomatch q⟩
    · rw [List.mem_singleton.mp z]; exact ⟨o, ho, fun v q => by rw [hd] at q; cases q⟩
  · obtain ⟨⟨old, he⟩, ⟨o, ho, r⟩⟩ := st
    exact ⟨⟨old, k e (by simp) _ he⟩, ⟨o, k it (by simp) _ ho, r⟩⟩
  · have W := GoesN.enumFrom (prog := P) (w := w) (A := A) (elts := elts) (x1 := kk) (pos := tpos) 0 (Draws.text (prog := P) (w := w) (A := A.in1) (by simpa using hh) it x t) e hne (by simpa using hne) (by simp)
    exact ⟨W.sub, fun i h h' st k => ⟨W.frame i h h' st.1 k, trivial⟩, fun i s Q E hi st q => W.goes i s Q E hi st.1 fun v h' tk a b => q v h' tk a ⟨b, trivial⟩, fun s Q E st q => W.stops s Q E st.1 q, fun i s Q E st q => W.self i s Q E st.1 q⟩
  · obtain ⟨T, tt, y, rfl, hT, ⟨c, u, hc, rfl⟩, hI⟩ := y
    rw [Int.zero_add] at hI
    exact ⟨T, .int (i : Nat), .str ⟨#[c]⟩, _, _, rfl, hT, hI, ⟨tt, rfl⟩, ⟨u, rfl⟩, rfl, c, hc, rfl⟩
def iEnumS (ta : TA) : TI := fun σ H R => ta σ H fun vs H1 => ∃ x, vs = [.str x] ∧ R (ItEs x) H1
theorem pi_enumS {X : Cx} {e : Expr} {ta : TA} {p pos tpos : Pos} {elts : List Expr} {kk : Nat} (hg : Gl X "enumerate") (hm : X.mg "enumerate" = none) (ha : PA X [e] ta) (hs : starEach [e] X.env = [(false, eval e X.env)] := by rfl) :
    PI X (.Tuple elts kk tpos) (.Call (.Name "enumerate" p) [e] [] pos) (iEnumS ta) := by
  refine ⟨fun pins s σ H R I h => ?_⟩
  refine Call_ (ld_blt I hg hm boot_enumerate (PyProof.Rows.callWith_type1 (thn (ha.run pos pins s σ H _ I h) fun us s1 ⟨vs, H1, I1, r1, x, ex, q⟩ => ?_) hs rfl))
  subst ex
  cases r1 with
  | cons r rr =>
    cases rr
    obtain ⟨t, rfl⟩ := r
    refine call_enumerate_str fun h' he hit hsz hk => wpAny_pyIter_enum he ?_
    refine ⟨s1.heap.objs.size + 1, [s1.heap.objs.size + 1, s1.heap.objs.size], _, _, H1, rfl, I1.kept (t' := s1.toks) hk, turn_Es x t _ _ (Nat.succ_ne_self _), ⟨⟨.none, he⟩, hit⟩, fun b hb => ?_, q⟩
    have hle : s1.heap.objs.size ≤ b := by
      rcases List.mem_cons.mp hb with z | z
      · rw [z]; exact Nat.le_succ _
      · rw [List.mem_singleton.mp z]; exact Nat.le_refl _
    exact I1.fpOk hle (I1.hok.fresh hle)

/-! ### zip(text, text) -/
def YdZs (x y : Str) (i : Nat) (_ : Hp) (a b : V) : Prop := (∃ c, x.cps[i]? = some c ∧ a = .str ⟨#[c]⟩) ∧ ∃ c, y.cps[i]? = some c ∧ b = .str ⟨#[c]⟩
abbrev ItZs (x y : Str) : It := ItP (min x.cps.size y.cps.size) (fun _ => True) (YdZs x y)
theorem turn_Zs {P : Program} {w : World} {K : PySem.W.Frag} {elts : List Expr} {kk : Nat} {tpos : Pos} (x y : Str) (t1 t2 : Tok) (N : Nat) :
    Turn P w K (.Tuple elts kk tpos) (ItZs x y) [N + 4, N + 2, N + 3, N, N + 1] (N + 4) (fun i h => IsZip h (N + 4) (N + 2) (N + 3) .none ∧ IsTupOf2 h (N + 2) (.ref N) (.ref (N + 1)) ∧ (∃ a1 a2, IsTupOf2 h (N + 3) a1 a2) ∧
      h.IsStrIter N (strIterType x) x t1 i ∧ h.IsStrIter (N + 1) (strIterType y) y t2 i) := by
  refine turn_pairs (wr := [N + 4, N + 3, N, N + 1]) (fpG := [N + 4, N + 2, N + 3, N, N + 1]) (side := fun _ => True)
    (Y := fun i h₀ v h => ∃ T a b, v = .ref T ∧ h₀.objs.size ≤ T ∧ (∃ c u, x.cps[i]? = some c ∧ a = .str ⟨#[c]⟩ u) ∧ (∃ c u, y.cps[i]? = some c ∧ b = .str ⟨#[c]⟩ u) ∧ h.IsTuple T #[a, b])
    (by simp) (fun b hb => by
      rcases List.mem_cons.mp hb with z | hb
      · rw [z]; simp
      rcases List.mem_cons.mp hb with z | hb
      · rw [z]; simp
      rcases List.mem_cons.mp hb with z | hb
      · rw [z]; simp
      · rw [List.mem_singleton.mp hb]; simp) (fun i h st b hb => ?_) (fun i h h' st k => ?_) (fun A hh => ?_) (fun A i s Q E st h => wpAny_pyIter_zip st.1 h) (fun X hP hw pins σ H s I g => ⟨trivial, fun i v h' hi y => ?_⟩)
  · obtain ⟨hz, hTI, ⟨a1, a2, hTO⟩, ⟨o1, e1, _, d1⟩, ⟨o2, e2, _, d2⟩⟩ := st
    have e' : b = N + 4 ∨ b = N + 2 ∨ b = N + 3 ∨ b = N ∨ b = N + 1 := by simpa using hb
    rcases e' with q | q | q | q | q
    · rw [q]; exact ⟨_, hz, fun v q => nomatch q⟩
    · rw [q]; exact ⟨_, hTI, fun v q => nomatch q⟩
    · rw [q]; exact ⟨_, hTO, fun v q => nomatch q⟩
    · rw [q]; exact ⟨o1, e1, fun v q => by rw [d1] at q; cases q⟩
    · rw [q]; exact ⟨o2, e2, fun v q => by rw [d2] at q; cases q⟩
  · obtain ⟨hz, hTI, ⟨a1, a2, hTO⟩, ⟨o1, e1, r1⟩, ⟨o2, e2, r2⟩⟩ := st
    exact ⟨k _ (by simp) _ hz, k _ (by simp) _ hTI, ⟨a1, a2, k _ (by simp) _ hTO⟩, ⟨o1, k _ (by simp) _ e1, r1⟩, ⟨o2, k _ (by simp) _ e2, r2⟩⟩
  · have W := GoesN.zip2 (prog := P) (w := w) (A := A) (elts := elts) (x1 := kk) (pos := tpos) (zip_sep2 (N := N) (fp1 := []) (fp2 := []) (fun _ h => nomatch h) (fun _ h => nomatch h)) (Draws.text (prog := P) (w := w) (A := A.in1) (by simpa using hh) N x t1) (Draws.text (prog := P) (w := w) (A := A.in1) (by simpa using hh) (N + 1) y t2)
    exact ⟨W.sub, fun i h h' st k => ⟨W.frame i h h' st.1 k, trivial⟩, fun i s Q E hi st q => W.goes i s Q E hi st.1 fun v h' tk a b => q v h' tk a ⟨b, trivial⟩, fun s Q E st q => W.stops s Q E st.1 q, fun i s Q E st q => W.self i s Q E st.1 q⟩
  · obtain ⟨T, a, b, rfl, hT, ⟨c, u, hc, rfl⟩, ⟨c2, u2, hc2, rfl⟩, hI⟩ := y
    exact ⟨T, .str ⟨#[c]⟩, .str ⟨#[c2]⟩, _, _, rfl, hT, hI, ⟨u, rfl⟩, ⟨u2, rfl⟩, ⟨c, hc, rfl⟩, c2, hc2, rfl⟩
def iZipS (ta : TA) : TI := fun σ H R => ta σ H fun vs H1 => ∃ x y, vs = [.str x, .str y] ∧ R (ItZs x y) H1
theorem pi_zipS {X : Cx} {e e2 : Expr} {ta : TA} {p pos tpos : Pos} {elts : List Expr} {kk : Nat} (hg : Gl X "zip") (hm : X.mg "zip" = none) (ha : PA X [e, e2] ta)
    (hs : starEach [e, e2] X.env = (false, eval e X.env) :: starEach [e2] X.env := by rfl) (hpl : (backTo pos (starEach [e2] X.env)).any (·.1) = false := by rfl) :
    PI X (.Tuple elts kk tpos) (.Call (.Name "zip" p) [e, e2] [] pos) (iZipS ta) := by
  refine ⟨fun pins s σ H R I h => ?_⟩
  refine Call_ (ld_blt I hg hm PyProof.Rows.boot_zip (PyProof.Rows.callWith_type1 (thn (ha.run pos pins s σ H _ I h) fun us s1 ⟨vs, H1, I1, r1, x, y, ex, q⟩ => ?_) hs hpl))
  subst ex
  cases r1 with
  | cons r rr =>
    cases rr with
    | cons r' rr =>
      cases rr
      obtain ⟨t1, rfl⟩ := r
      obtain ⟨t2, rfl⟩ := r'
      refine zip_begins2 (begins_text x t1) (begins_text y t2) trivial trivial fun h' hz hTI hTO h1 h2 hsz hk => wpAny_pyIter_zip hz ?_
      refine ⟨s1.heap.objs.size + 4, [s1.heap.objs.size + 4, s1.heap.objs.size + 2, s1.heap.objs.size + 3, s1.heap.objs.size, s1.heap.objs.size + 1], _, _, H1, rfl, I1.kept (t' := s1.toks) hk, turn_Zs x y t1 t2 s1.heap.objs.size,
        ⟨hz, hTI, ⟨_, _, hTO⟩, ⟨_, h1, rfl, rfl⟩, ⟨_, h2, rfl, rfl⟩⟩, fun b hb => ?_, q⟩
      have hle : s1.heap.objs.size ≤ b := by
        have e' : b = s1.heap.objs.size + 4 ∨ b = s1.heap.objs.size + 2 ∨ b = s1.heap.objs.size + 3 ∨ b = s1.heap.objs.size ∨ b = s1.heap.objs.size + 1 := by simpa using hb
        rcases e' with z | z | z | z | z
        · rw [z]; exact Nat.le_add_right _ _
        · rw [z]; exact Nat.le_add_right _ _
        · rw [z]; exact Nat.le_add_right _ _
        · rw [z]; exact Nat.le_refl _
        · rw [z]; exact Nat.le_add_right _ _
      exact I1.fpOk hle (I1.hok.fresh hle)

/-! ### items() of a locked dict with tuple keys -/
def YdIt (kvs : List (List Key × V)) (i : Nat) (H : Hp) (a b : V) : Prop := ∃ k q, kvs[i]? = some (k, b) ∧ a = .ref q ∧ H q = some (.tup (k.map kV))
abbrev ItIt (d : Addr) (o : Obj) (kvs : List (List Key × V)) : It := ItP kvs.length (fun H => H d = some (.frz o (.dT kvs))) (YdIt kvs)
theorem frz_items {X : Cx} {pins : List (Addr × Obj)} {σ : L2.St} {H : Hp} {s : Shared} {d : Addr} {o : Obj} {kvs : List (List Key × V)} {es : Array DictEntry} {ep : Nat} (I : Inv X pins σ H s) (h : H d = some (.frz o (.dT kvs))) (hd : o.data = .dict es ep) :
    s.heap.DictRaw d es ep ∧ (d == sysModules) = false ∧ es.size = kvs.length ∧ ∀ (i : Nat) (hi : i < es.size), ∃ k v q, kvs[i]? = some (k, v) ∧ es[i].key = .ref q ∧ H q = some (.tup (k.map kV)) ∧ RelV v es[i].val := by
  obtain ⟨hg, z, hs, xs, pr, o', es', ep', ho, hx, hdt, he, _⟩ := I.hok d _ h
  rw [hg] at ho
  cases ho
  obtain ⟨rfl, rfl⟩ := dict_ep hd hdt
  have l1 : es'.size = xs.length := size_of_entries he
  have l2 : kvs.length = xs.length := Paired.length pr
  refine ⟨⟨_, hg, hx, hdt⟩, hs, by omega, fun i hi => ?_⟩
  have hik : i < kvs.length := by omega
  obtain ⟨b, hb, e1, e2, e3⟩ := paired_get pr (List.getElem?_eq_getElem hik)
  have q := entry_at he i
  rw [hb, Array.getElem?_eq_getElem hi] at q
  have q2 : es'[i] = entryOfKey _ b := Option.some.inj q
  refine ⟨kvs[i].1, kvs[i].2, b.2.1, List.getElem?_eq_getElem hik, ?_, e2, ?_⟩
  · rw [q2]; rfl
  · rw [q2]; exact e3
theorem turn_It {P : Program} {w : World} {K : PySem.W.Frag} {elts : List Expr} {kk : Nat} {tpos : Pos} {d : Addr} {o : Obj} {kvs : List (List Key × V)} {es : Array DictEntry} {ep : Nat} (it : Addr) (hne : d ≠ it) (hd : o.data = .dict es ep) (hn : es.size = kvs.length) :
    Turn P w K (.Tuple elts kk tpos) (ItIt d o kvs) [it] it (fun i h => ∃ ok ov, IsItemIter h it d i es.size ep ok ov) := by
  refine turn_pairs (wr := [it]) (fpG := [it, d]) (side := fun h => h.DictRaw d es ep) (Y := fun i h₀ v h => ∃ T, ∃ hi : i < es.size, v = .ref T ∧ h₀.objs.size ≤ T ∧ h.IsTuple T #[es[i].key, es[i].val])
    (by simp) (fun b hb => hb) (fun i h st b hb => ?_) (fun i h h' st k => ?_) (fun A hh => ?_) (fun A i s Q E st h => let ⟨_, _, e⟩ := st; PySem.W.kcp_self e h) (fun X hP hw pins σ H s I g => ?_)
  · obtain ⟨ok, ov, e⟩ := st
    rw [List.mem_singleton.mp hb]
    exact ⟨_, e, fun v q => nomatch q⟩
  · obtain ⟨ok, ov, e⟩ := st
    exact ⟨ok, ov, k it (by simp) _ e⟩
  · rw [← hn]
    exact GoesN.rawItems hh it d hne es ep
  · obtain ⟨raw, _, _, ent⟩ := frz_items I g hd
    refine ⟨raw, fun i v h' hi y => ?_⟩
    obtain ⟨T, hi', rfl, hT, hI⟩ := y
    obtain ⟨k, b, q, e1, e2, e3, e4⟩ := ent i hi'
    exact ⟨T, .ref q, b, _, _, rfl, hT, hI, by rw [e2]; rfl, e4, k, q, e1, rfl, e3⟩
def iItemsT (td : TE) : TI := fun σ H R => td σ H fun x H1 => ∃ d o kvs, x = .ref d ∧ H1 d = some (.frz o (.dT kvs)) ∧ R (ItIt d o kvs) H1
theorem pi_itemsT {X : Cx} {e : Expr} {td : TE} {apos cpos : Pos} {elts : List Expr} {kk : Nat} {tpos : Pos} (he : PE X e td) (hbase : attributeBase e "items" X.env (eval e X.env) = eval e X.env := by rfl) (hline : (apos.endLine == cpos.line) = true := by rfl) :
    PI X (.Tuple elts kk tpos) (.Call (.Attribute e "items" apos) [] [] cpos) (iItemsT td) := by
  refine ⟨fun pins s σ H R I h => ?_⟩
  refine wpAny_Call_method (T := "dict") (id := "dict.items") hbase rfl hline F.plainAttrs_dict F.slot_dict_items F.type_dict_items (thn (he.run pins s σ H _ I h) fun u s1 ⟨x, H1, I1, rx, d, o, kvs, ex, hd, q⟩ => ?_)
  subst ex
  obtain rfl : u = Value.ref d := rx
  obtain ⟨hs, hgd, hx, es, ep, hdt, hsz, _⟩ := I1.frzT hd
  have raw : s1.heap.DictRaw d es ep := ⟨o, hgd, hx, hdt⟩
  refine ⟨raw.typeIs, fun a e => (by cases e; exact ⟨o, hgd, hx.2.1⟩), ?_⟩
  have hlt : d < s1.heap.objs.size := Heap.lt_size hgd
  have I2 : Inv X pins σ H1 { s1 with heap := s1.heap.push { cls := .type "dict_items", data := .fields #[.ref d] } } := I1.kept (t' := s1.toks) fun b ob q => Heap.get?_push_of_some _ q
  have fin : wpAny (model X.prog X.w) X.A (pyIter (.ref s1.heap.objs.size)) (PIE X pins σ (.Tuple elts kk tpos) R) X.xe { s1 with heap := s1.heap.push { cls := .type "dict_items", data := .fields #[.ref d] } } := by
    refine wpAny_pyIter_items_raw (d := d) ⟨_, Heap.get?_push_size _ rfl, rfl, rfl⟩ (raw.at fun o e => Heap.get?_push_of_some _ e) (pi_one (tk := s1.toks) I2 _ (turn_It _ ?_ hdt hsz) ⟨.none, .none, ?_⟩ q)
    · rw [Heap.size_push]; exact Nat.ne_of_lt (Nat.lt_succ_of_lt hlt)
    · exact Heap.get?_push_size _ rfl
  show wpAny _ _ (callWith cpos (.builtin "dict.items") [.ref d] [] []) _ X.xe s1
  exact method_meetsIn F.slot_dict_items F.entry_dict_items rfl (PySem.evalArgs_none ⟨rfl, raw.typeIs, F.args_dict_items_1 _, _, meets_dict_items_raw d hs, ⟨es, ep, raw⟩, fin⟩)
end K28
set_option Elab.async false
set_option linter.all false
set_option maxRecDepth 100000
set_option maxHeartbeats 4000000
/-! Words as texts of the model. -/
namespace K28
open PySem PySem.Spec PyProof.Rows L2
def W (f : Int) (w : List Int) : Str := ⟨(codes f w).toArray⟩
abbrev sign (c : Nat) : Str := ⟨#[c]⟩
theorem W_list (f : Int) (w : List Int) : (W f w).cps.toList = codes f w := rfl
theorem W_size (f : Int) (w : List Int) : (W f w).cps.size = w.length + 1 := by
  show (codes f w).toArray.size = _
  rw [List.size_toArray, codes_len]
theorem W_len (f : Int) (w : List Int) : (W f w).length = w.length + 1 := W_size f w
theorem W_get {f : Int} {w : List Int} {i : Nat} (h0 : 0 ≤ f) (h3 : f < 3) (hi : i ≤ w.length) : (W f w).cps[i]? = some (code (at3 f (w.take i))) := by
  rw [← Array.getElem?_toList, W_list, codes_get w f i h0 h3 hi]
theorem W_inj {f : Int} (h0 : 0 ≤ f) (h3 : f < 3) {w w' : List Int} (p : PM w) (p' : PM w') (e : W f w = W f w') : w = w' := by
  have e2 : (W f w).cps.toList = (W f w').cps.toList := by rw [e]
  exact codes_inj h0 h3 p p' e2
theorem abc_list : ("abc" : Str).cps.toList = [97, 98, 99] := by decide +kernel
theorem code_abc {i : Int} (h0 : 0 ≤ i) (h3 : i < 3) : code i ∈ ("abc" : Str).cps.toList := by
  rw [abc_list]
  have e : i = 0 ∨ i = 1 ∨ i = 2 := by omega
  rcases e with e | e | e <;> subst e <;> decide
theorem sign_inj {c d : Nat} (e : sign c = sign d) : c = d := by
  have e2 : (sign c).cps.toList = (sign d).cps.toList := by rw [e]
  have e3 : [c] = [d] := e2
  exact (List.cons.inj e3).1
theorem small200 {n : Nat} (h : n ≤ 1000) : n ≤ sizeLine := Nat.le_of_lt (small1000 h)
theorem same_upd {H : Hp} {p : Addr} {o : HO} (h : H p = none) : Same H (upd H p o) := fun b x e => by
  rw [upd_ne (ne_of_none e h)]; exact e
end K28
set_option Elab.async false
set_option linter.all false
set_option maxRecDepth 100000
set_option maxHeartbeats 8000000
/-! need_word, need_short, need_limited. -/
namespace K28
open PySem PySem.Spec PyProof.Rows L2
/-- a new pair goes to two names -/
theorem g_pair {K : PySem.W.Frag} {H : Hp} {T : Addr} {x y : V} {σ : L2.St} {i j : Nat} {Q : L2.St → Hp → Prop} (h : Q ((σ.set i (some x)).set j (some y)) (upd H T (.tup [x, y]))) :
    gTup K 2 (gCons (gName i) (gCons (gName j) gNil)) (.ref T) σ (upd H T (.tup [x, y])) Q := ⟨T, [x, y], rfl, .inl (.inl upd_same), rfl, x, [y], rfl, y, [], rfl, rfl, h⟩
section
variable {P : Program} {w : World} {K : PySem.W.Frag} {mg : Str → Option Value} {base : Heap} {t1 t2 t3 t4 t5 : Tok}
/-- need_word of a word -/
def spNeedWord : Sp := fun vs H Q _ => ∃ (f : Int) (u : List Int), vs = [.str (W f u)] ∧ 0 ≤ f ∧ f < 3 ∧ PM u ∧ 1 ≤ u.length ∧ u.length ≤ 199 ∧ ∀ H', Same H H' → Q .non H'
theorem ok_needWord {f : Addr} {fd : FuncData} {k : Nat} (F : Fun K "need_word" "need_word" dNeedWord f fd) (G : Gb mg t1 t2 t3 t4 t5) : FnOk P w K mg base CX0 (k + 1) f fd ["value"] spNeedWord := by
  refine F.ok scNeedWord (fun vs H Q E h => ?_) (fun cdv A outer s H vs Q E hr h => ?_)
  · obtain ⟨f, u, rfl, _⟩ := h; rfl
  · obtain ⟨a, u, rfl, h0, h3, pm, hl1, hl2, q⟩ := h
    refine ⟨_, pss_cons (ps_if (PW.pt (pw_or (pt_not (pt_val (pe_callB call_isi (by rfl) G.isin (by decide +kernel) (pa_cons (pv 0) (pa_cons (pe_bltn (v := .ty "str") (by rfl) G.str_ (by decide +kernel) rfl) pa_nil)))))
        (pw_or1 (pt_not (pt_chain op_le op_le pe_int (pe_callB call_len_str (by rfl) G.len_ PySem.boot_len (pa_cons (pv 0) pa_nil)) (pe_glob (v := .int 200) (by rfl) G.MLET ⟨_, rfl⟩)))))) pss_never pss_nil)
      (pss_one (ps_for PassesOwn.never rfl (pi_enumS (by rfl) G.enum_ (pa_cons (pv 0) pa_nil)) (pg_tup rfl (pgs_cons (pg_name (i := 1) scNeedWord.nd rfl (.inl rfl)) (pgs_cons (pg_name (i := 2) scNeedWord.nd rfl (.inl rfl)) pgs_nil)))
        (pss_one (ps_if (PW.pt (pw_or (pt_cmpR op_notIn_sign (pv 2) (pe_glob (v := .str "abc") (by rfl) G.LET ⟨_, rfl⟩) (by rfl))
          (pw_or1 (PW.pt (pw_and (pt_cmpR op_gt (pv 1) pe_int (nomark _)) (pw_and1 (pt_cmpR op_eq (pv 2) (pe_ix ix_str (pv 0) (pe_op op_sub (pv 1) pe_int) (fun _ _ => rfl)) (nomark _)))))))) pss_never pss_nil)))), ?_⟩
    -- isinstance
    refine ⟨.str (W a u), rfl, .str (W a u), .ty "str", .type "str", .type "str", true, rfl, .ty "str", .base (.str _), kit_ty (by decide +kernel), true, rfl, iteF ?_⟩
    -- 2 <= len(value) <= 200
    refine ⟨.str (W a u), rfl, _, rfl, by rw [W_len]; exact small200 (by omega), _, _, rfl, rfl, decide ((2 : Int) ≤ ((W a u).length : Int)), rfl, ?_⟩
    rw [decide_eq_true (show (2 : Int) ≤ ((W a u).length : Int) by rw [W_len]; omega)]
    refine iteT ⟨_, _, rfl, rfl, decide (((W a u).length : Int) ≤ 200), rfl, ?_⟩
    rw [decide_eq_true (show ((W a u).length : Int) ≤ 200 by rw [W_len]; omega)]
    refine iteF ?_
    -- the loop
    refine ⟨.str (W a u), rfl, W a u, rfl, for_it walk_P (fun i σ H' => ∃ y1 y2, σ = [some (.str (W a u)), y1, y2] ∧ Same H H') ⟨none, none, rfl, Same.refl H⟩ (fun _ _ _ _ _ => trivial) (fun i x σ H1 H2 hi hP hY => ?_) (fun σ H1 hP => ?_)⟩
    · obtain ⟨y1, y2, rfl, sm⟩ := hP
      obtain ⟨T, x1, x2, rfl, nT, rfl, rfl, c, hc, rfl⟩ := hY
      have hi' : i ≤ u.length := by rw [W_size] at hi; omega
      rw [W_get h0 h3 hi'] at hc
      have ec := Option.some.inj hc
      have rg := at3_range a (u.take i)
      refine g_pair ?_
      refine ⟨_, rfl, c, _, rfl, rfl, _, rfl, ?_⟩
      have hin : c ∈ ("abc" : Str).cps.toList := by rw [← ec]; exact code_abc rg.1 rg.2
      rw [decide_eq_true hin]
      refine iteF ⟨_, rfl, _, _, rfl, rfl, _, rfl, ?_⟩
      have fin : Same H (upd H1 T (.tup [.int (i : Nat), .str (sign c)])) := sm.trans (same_upd nT)
      by_cases hz : i = 0
      · subst hz
        exact iteF (iteF ⟨_, _, rfl, fin⟩)
      · obtain ⟨j, rfl⟩ : ∃ j, i = j + 1 := ⟨i - 1, by omega⟩
        have hj : j < u.length := by omega
        have ej := List.getElem?_eq_getElem hj
        rw [decide_eq_true (show (0 : Int) < ((j + 1 : Nat) : Int) by omega)]
        refine iteT ⟨_, rfl, _, rfl, _, rfl, _, _, rfl, rfl, W a u, ((j : Nat) : Int), code (at3 a (u.take j)), rfl, (by show V.int (((j + 1 : Nat) : Int) - 1) = V.int (j : Int); rw [show ((j + 1 : Nat) : Int) - 1 = (j : Int) by omega]), by rw [W_len]; exact small200 (by omega), ?_, rfl, _, rfl, ?_⟩
        · refine atI_nat ?_
          rw [W_list]
          exact codes_get u a j h0 h3 (by omega)
        · have ne : ¬ (V.str (sign c) = V.str (sign (code (at3 a (u.take j))))) := fun e => by
            have e2 := sign_inj (V.str.inj e)
            rw [← ec] at e2
            have e3 := code_inj rg.1 (at3_range a (u.take j)).1 e2
            rw [step_at ej] at e3
            have r2 := at3_range a (u.take j)
            rcases pm _ (List.getElem_mem hj) with z | z <;> omega
          rw [decide_eq_false ne]
          exact iteF ⟨_, _, rfl, fin⟩
    · obtain ⟨y1, y2, rfl, sm⟩ := hP
      exact q H1 sm
end
end K28
set_option Elab.async false
set_option linter.all false
set_option maxRecDepth 100000
set_option maxHeartbeats 8000000
/-! need_short, need_limited, need_base, begin_state, is_done. -/
namespace K28
open PySem PySem.Spec PyProof.Rows L2
section
variable {P : Program} {w : World} {K : PySem.W.Frag} {mg : Str → Option Value} {base : Heap} {t1 t2 t3 t4 t5 : Tok}
def spNeedShort : Sp := fun vs H Q _ => ∃ (a : Addr) (z : Str) (m : Int), vs = [.ref a, .int m] ∧ H a = some (.tup [.str z]) ∧ z.length ≤ 1000 ∧ (z.length : Int) ≤ m ∧ ∀ H', Same H H' → Q .non H'
theorem ok_needShort {f : Addr} {fd : FuncData} {k : Nat} (F : Fun K "need_short" "need_short" dNeedShort f fd) (G : Gb mg t1 t2 t3 t4 t5) : FnOk P w K mg base CX0 (k + 1) f fd ["words", "most"] spNeedShort := by
  refine F.ok scNeedShort (fun vs H Q E h => ?_) (fun cdv A outer s H vs Q E hr h => ?_)
  · obtain ⟨a, z, m, rfl, _⟩ := h; rfl
  · obtain ⟨a, z, m, rfl, ha, hz, hm, q⟩ := h
    refine ⟨_, pss_one (ps_if (pt_cmpR op_gt (pe_callB (cr_max rfl) (by rfl) G.max_ (by decide +kernel) (pa_cons
      (pe_lc (own := [("word", 2)]) (g := gName 2) (tt := tYes) rfl scNeedShort.nd (pi_tup (pv 0)) (blkOk_by (N := ["words", "most", "word"]) (sc := defScope dNeedShort) (by decide +kernel))
        (fun _ _ _ _ _ => pg_name (i := 2) scNeedShort.nd rfl (Or.inl rfl)) (fun _ _ _ _ _ => pts_nil) (fun _ _ _ _ _ => pe_callB call_len_str (by rfl) G.len_ PySem.boot_len (pa_cons (pv 2) pa_nil))) pa_nil)) (pv 1) (nomark _)) pss_never pss_nil), ?_⟩
    refine ⟨.ref a, rfl, a, rfl, ⟨_, SqT.of ha⟩, fun D nD => lc_tup (xs := [.str z]) (fun i H' => H' = upd H D (.lst (([V.int (z.length : Int)]).take i))) rfl (fun i H' _ e => ?_) (fun i x H' hx e => ?_) (fun H' e => ?_)⟩
    · rw [e]
      exact SqT.of (by rw [upd_ne (ne_of_none ha nD)]; exact ha)
    · match i, hx with
      | 0, hx =>
        have ex : V.str z = x := Option.some.inj hx
        subst ex
        refine ⟨rfl, .str z, rfl, z, rfl, small200 hz, [], by rw [e]; exact upd_same, by decide, ?_⟩
        rw [e, upd_upd]
        rfl
      | i + 1, hx => simp at hx
    · subst e
      refine ⟨D, [(z.length : Int)], rfl, SqL.of upd_same, Nat.one_pos, fun mm hmm _ => ?_⟩
      have em : mm = (z.length : Int) := by simpa using hmm
      subst em
      refine ⟨.int m, rfl, _, _, rfl, rfl, _, rfl, ?_⟩
      rw [decide_eq_false (show ¬ (m < (z.length : Int)) by omega)]
      exact iteF (q _ (same_upd nD))
def spNeedLimited : Sp := fun vs H Q _ => ∃ (f : Int) (u : List Int) (m : Int), vs = [.str (W f u), .int m] ∧ 0 ≤ f ∧ f < 3 ∧ PM u ∧ 1 ≤ u.length ∧ u.length ≤ 199 ∧ (u.length : Int) + 1 ≤ m ∧ ∀ H', Same H H' → Q .non H'
theorem ok_needLimited {f f1 f2 : Addr} {fd d1 d2 : FuncData} {k : Nat} (F : Fun K "need_limited" "need_limited" dNeedLimited f fd)
    (G1 : FnOk P w K mg base CX0 k f1 d1 ["value"] spNeedWord) (k1 : PySem.W.keepIn K (.ref f1) = true) (b1 : Binds K d1 ["value"] []) (m1 : mg "need_word" = some (.ref f1))
    (G2 : FnOk P w K mg base CX0 k f2 d2 ["words", "most"] spNeedShort) (k2 : PySem.W.keepIn K (.ref f2) = true) (b2 : Binds K d2 ["words", "most"] []) (m2 : mg "need_short" = some (.ref f2)) :
    FnOk P w K mg base CX0 (k + 1) f fd ["word", "most"] spNeedLimited := by
  refine F.ok scNeedLimited (fun vs H Q E h => ?_) (fun cdv A outer s H vs Q E hr h => ?_)
  · obtain ⟨a, u, m, rfl, _⟩ := h; rfl
  · obtain ⟨a, u, m, rfl, h0, h3, pm, hl1, hl2, hm, q⟩ := h
    refine ⟨_, pss_cons (ps_expr (pe_call G1 hr (by rfl) m1 k1 b1 .nil pass0 (pa_cons (pv 0) pa_nil)))
      (pss_one (ps_expr (pe_call G2 hr (by rfl) m2 k2 b2 .nil pass0 (pa_cons (pe_tup (pa_cons (pv 0) pa_nil)) (pa_cons (pv 1) pa_nil))))), ?_⟩
    refine ⟨_, rfl, a, u, rfl, h0, h3, pm, hl1, hl2, fun H1 s1 => ?_⟩
    refine ⟨_, rfl, (by show 1 ≤ sizeLine; decide), fun p np => ?_⟩
    refine ⟨_, rfl, p, W a u, m, rfl, upd_same, by rw [W_len]; omega, by rw [W_len]; omega, fun H2 s2 => ?_⟩
    exact q H2 (s1.trans ((same_upd np).trans s2))
def spNeedBase : Sp := fun vs H Q _ => ∃ (f : Int) (u : List Int) (n : Int), vs = [.str (W f u), .int n] ∧ 0 ≤ f ∧ f < 3 ∧ PM u ∧ 1 ≤ u.length ∧ u.length ≤ 11 ∧ 2 ≤ n ∧ n ≤ 60 ∧ ∀ H', Same H H' → Q .non H'
theorem ok_needBase {f f1 f2 : Addr} {fd d1 d2 : FuncData} {k : Nat} (F : Fun K "need_base" "need_base" dNeedBase f fd) (G : Gb mg t1 t2 t3 t4 t5)
    (G1 : FnOk P w K mg base CX0 k f1 d1 ["word", "most"] spNeedLimited) (k1 : PySem.W.keepIn K (.ref f1) = true) (b1 : Binds K d1 ["word", "most"] []) (m1 : mg "need_limited" = some (.ref f1))
    (G2 : FnOk P w K mg base CX0 k f2 d2 ["value", "least", "most"] spNeedNumber) (k2 : PySem.W.keepIn K (.ref f2) = true) (b2 : Binds K d2 ["value", "least", "most"] []) (m2 : mg "need_number" = some (.ref f2)) :
    FnOk P w K mg base CX0 (k + 1) f fd ["word", "size"] spNeedBase := by
  refine F.ok scNeedBase (fun vs H Q E h => ?_) (fun cdv A outer s H vs Q E hr h => ?_)
  · obtain ⟨a, u, m, rfl, _⟩ := h; rfl
  · obtain ⟨a, u, n, rfl, h0, h3, pm, hl1, hl2, hn1, hn2, q⟩ := h
    refine ⟨_, pss_cons (ps_expr (pe_call G1 hr (by rfl) m1 k1 b1 .nil pass0 (pa_cons (pv 0) (pa_cons (pe_glob (v := .int 12) (by rfl) G.MBASE ⟨_, rfl⟩) pa_nil))))
      (pss_one (ps_expr (pe_call G2 hr (by rfl) m2 k2 b2 .nil pass0 (pa_cons (pv 1) (pa_cons pe_int (pa_cons (pe_glob (v := .int 60) (by rfl) G.MGROWN ⟨_, rfl⟩) pa_nil)))))), ?_⟩
    refine ⟨_, rfl, a, u, 12, rfl, h0, h3, pm, hl1, by omega, by omega, fun H1 s1 => ?_⟩
    exact ⟨_, rfl, n, 2, 60, rfl, hn1, hn2, q H1 s1⟩
/-- a state as a tuple -/
def s5V (s : S5) : List V := [.int (s.m : Int), .int (s.t : Int), .int (s.a : Int), .int s.l, .int s.w]
def spBegin : Sp := fun vs H Q _ => vs = [] ∧ ∀ p, H p = none → Q (.ref p) (upd H p (.tup (s5V s0)))
theorem ok_begin {f : Addr} {fd : FuncData} {k : Nat} (F : Fun K "begin_state" "begin_state" dBeginState f fd) : FnOk P w K mg base CX0 (k + 1) f fd [] spBegin := by
  refine F.ok scBeginState (fun vs H Q E h => ?_) (fun cdv A outer s H vs Q E hr h => ?_)
  · obtain ⟨rfl, _⟩ := h; rfl
  · obtain ⟨rfl, q⟩ := h
    refine ⟨_, pss_one (ps_ret (pe_tup (pa_cons pe_int (pa_cons pe_int (pa_cons pe_int (pa_cons pe_int (pa_cons pe_int pa_nil))))))), ?_⟩
    exact ⟨(by show 5 ≤ sizeLine; decide), fun p np => q p np⟩
/-- is_done -/
def spDone (K : PySem.W.Frag) : Sp := fun vs H Q _ => ∃ (a b : Addr) (due : List Int) (s : S5), vs = [.ref a, .ref b] ∧ SqL K H a (due.map V.int) ∧ SqT K H b (s5V s) ∧ Q (.bl (done due s)) H
theorem bit_at_nat (m n : Nat) : Builtin.bitAnd ((m : Int) / 2 ^ n) 1 = if m.testBit n = true then 1 else 0 := by
  have h1 : ((m : Int) / 2 ^ n) = ((m / 2 ^ n : Nat) : Int) := by simp
  rw [h1]
  have h2 := Bits.bitAnd_mask (x := ((m / 2 ^ n : Nat) : Int)) 1 (Int.natCast_nonneg _)
  have e1 : ((2 : Int) ^ 1 - 1) = 1 := by decide
  rw [e1] at h2
  rw [h2]
  have h3 : m.testBit n = decide ((m / 2 ^ n) % 2 = 1) := by
    rw [Nat.testBit_eq_decide_div_mod_eq]
  rw [h3]
  have h4 : ((m / 2 ^ n : Nat) : Int) % 2 ^ 1 = (((m / 2 ^ n) % 2 : Nat) : Int) := by simp
  rw [h4]
  rcases Nat.mod_two_eq_zero_or_one (m / 2 ^ n) with e | e <;> simp [e]
theorem ok_done {f : Addr} {fd : FuncData} {k : Nat} (F : Fun K "is_done" "is_done" dIsDone f fd) (G : Gb mg t1 t2 t3 t4 t5) : FnOk P w K mg base CX0 (k + 1) f fd ["due", "state"] (spDone K) := by
  refine F.ok scIsDone (fun vs H Q E h => ?_) (fun cdv A outer s H vs Q E hr h => ?_)
  · obtain ⟨a, b, due, s, rfl, _⟩ := h; rfl
  · obtain ⟨a, b, due, st, rfl, ha, hb, q⟩ := h
    refine ⟨_, pss_one (ps_ret (pe_cmpR op_eq (pe_op op_and (pe_op op_shr (pe_ix ix_tup (pv 1) pe_int (fun _ _ => rfl)) (pe_callB call_len_seq (by rfl) G.len_ PySem.boot_len (pa_cons (pv 0) pa_nil))) pe_int) pe_int (nomark _))), ?_⟩
    refine ⟨.ref b, rfl, b, _, 0, .int (st.m : Int), rfl, rfl, hb, atI_nat (j := 0) rfl, .ref a, rfl, a, _, rfl, .inl ha, _, _, rfl, rfl, Int.natCast_nonneg _, _, _, rfl, rfl, rfl, ?_⟩
    rw [List.length_map, Int.toNat_natCast]
    show Q (.bl (decide (V.int (Builtin.bitAnd ((st.m : Int) / 2 ^ due.length) 1) = V.int 1))) H
    rw [bit_at_nat]
    unfold done at q
    cases hbit : st.m.testBit due.length with
    | true =>
      rw [hbit] at q
      rw [if_pos rfl, decide_eq_true rfl]; exact q
    | false =>
      rw [hbit] at q
      rw [if_neg (by simp), decide_eq_false (by simp)]; exact q
end
end K28
set_option Elab.async false
set_option linter.all false
set_option maxRecDepth 100000
set_option maxHeartbeats 8000000
/-! steps_of, word_of. -/
namespace K28
open PySem PySem.Spec PyProof.Rows L2
theorem dT {p : Prop} [Decidable p] {A B : Prop} (hp : p) (h : A) : if decide p = true then A else B := by rw [decide_eq_true hp]; exact h
theorem dF {p : Prop} [Decidable p] {A B : Prop} (hp : ¬ p) (h : B) : if decide p = true then A else B := by rw [decide_eq_false hp]; exact h
/-! ### slices of texts; the place of a letter -/
theorem cut_from (z : Str) (k : Nat) (h : k ≤ z.length) : cutS z (some (k : Int)) none = ⟨(z.cps.toList.drop k).toArray⟩ := by
  unfold cutS
  rw [HT.sIx_nat, HT.sIx_none, Nat.min_eq_left h]
  congr 2
  exact List.take_of_length_le (by rw [List.length_drop]; exact Nat.le_refl _)
theorem cut_to (z : Str) (k : Nat) (h : k ≤ z.length) : cutS z none (some (k : Int)) = ⟨(z.cps.toList.take k).toArray⟩ := by
  unfold cutS
  rw [HT.sIx_nat, HT.sIx_none, Nat.min_eq_left h]
  rfl
theorem cut_mid (z : Str) (i j : Nat) (h : j ≤ z.length) (hi : i ≤ j) : cutS z (some (i : Int)) (some (j : Int)) = ⟨((z.cps.toList.drop i).take (j - i)).toArray⟩ := by
  unfold cutS
  rw [HT.sIx_nat, HT.sIx_nat, Nat.min_eq_left h, Nat.min_eq_left (Nat.le_trans hi h)]
section
variable {X : Cx}
theorem occ0 : Builtin.Str.occurrences ("abc" : Str) (sign 97) 0 ("abc" : Str).length 1 = [0] := by decide +kernel
theorem occ1 : Builtin.Str.occurrences ("abc" : Str) (sign 98) 0 ("abc" : Str).length 1 = [1] := by decide +kernel
theorem occ2 : Builtin.Str.occurrences ("abc" : Str) (sign 99) 0 ("abc" : Str).length 1 = [2] := by decide +kernel
/-- 'abc'.index(a letter) -/
def rIdx : V → List V → Hp → VK → Prop := fun x xs H Q => ∃ i : Int, x = .str "abc" ∧ xs = [.str (sign (code i))] ∧ 0 ≤ i ∧ i < 3 ∧ Q (.int i) H
theorem mt_idx : MtR X "str.index" rIdx := by
  intro pins s σ H x xs v us Q I rx rs h
  obtain ⟨i, rfl, rfl, h0, h3, q⟩ := h
  obtain ⟨t, rfl⟩ := rx
  cases rs with
  | cons r1 rs =>
    cases rs
    obtain ⟨u, rfl⟩ := r1
    have e : i = 0 ∨ i = 1 ∨ i = 2 := by omega
    rcases e with e | e | e
    · subst e; exact PySem.SC.index occ0 ⟨.int 0, H, I.tok _, ⟨_, rfl⟩, q⟩
    · subst e; exact PySem.SC.index occ1 ⟨.int 1, H, I.tok _, ⟨_, rfl⟩, q⟩
    · subst e; exact PySem.SC.index occ2 ⟨.int 2, H, I.tok _, ⟨_, rfl⟩, q⟩
theorem pe_idx {K0 : PySem.W.Frag} {o e : Expr} {es : List Expr} {apos cpos : Pos} {to : TE} {t : TA} (hK : X.K = K0) (ho : PE X o to) (ha : PA X (e :: es) t)
    (hbase : attributeBase o "index" X.env (eval o X.env) = eval o X.env := by rfl)
    (hfew : ((backTo cpos (starEach (e :: es) X.env)).all (fun x => !x.1) && (backToKw cpos (keywordEach [] X.env)).all (fun x => x.1.isSome)
      && decide ((e :: es).length + ([] : List Keyword).length + (if ([] : List Keyword).isEmpty then 0 else 1) < 30)) = true := by rfl)
    (hline : (apos.endLine == cpos.line) = true := by rfl) (hs : starEach (e :: es) X.env = (false, eval e X.env) :: starEach es X.env := by rfl) (hplain : (backTo cpos (starEach es X.env)).any (·.1) = false := by rfl) :
    PE X (.Call (.Attribute o "index" apos) (e :: es) [] cpos) (tBM K0 "str" rIdx to t) := by
  subst hK
  exact pe_bm PySem.F.plainAttrs_str PySem.F.slot_str_index PySem.F.type_str_index mt_idx ho ha hbase hfew hline hs hplain
end
section
variable {P : Program} {w : World} {K : PySem.W.Frag} {mg : Str → Option Value} {base : Heap} {t1 t2 t3 t4 t5 : Tok}
def spStepsOf : Sp := fun vs H Q _ => ∃ (f : Int) (u : List Int), vs = [.str (W f u)] ∧ 0 ≤ f ∧ f < 3 ∧ PM u ∧ u.length ≤ 199 ∧ ∀ H' p, Same H H' → H p = none → H' p = some (.lst (u.map V.int)) → Q (.ref p) H'
theorem ok_stepsOf {f : Addr} {fd : FuncData} {k : Nat} (F : Fun K "steps_of" "steps_of" dStepsOf f fd) (G : Gb mg t1 t2 t3 t4 t5) : FnOk P w K mg base CX0 (k + 1) f fd ["word"] spStepsOf := by
  refine F.ok scStepsOf (fun vs H Q E h => ?_) (fun cdv A outer s H vs Q E hr h => ?_)
  · obtain ⟨a, u, rfl, _⟩ := h; rfl
  · obtain ⟨a, u, rfl, h0, h3, pm, hl, q⟩ := h
    refine ⟨_, pss_one (ps_ret (pe_lc (own := [("one", 1), ("other", 2)]) (g := gTup K 2 (gCons (gName 1) (gCons (gName 2) gNil))) (tt := tYes) rfl scStepsOf.nd
      (pi_zipS (by rfl) G.zip_ (pa_cons (pv 0) (pa_cons (pe_slice sl_str (pv 0) (po_some pe_int) po_none) pa_nil)))
      (blkOk_by (N := ["word", "one", "other"]) (sc := defScope dStepsOf) (by decide +kernel))
      (fun _ _ _ _ _ => pg_tup rfl (pgs_cons (pg_name (i := 1) scStepsOf.nd rfl (.inl rfl)) (pgs_cons (pg_name (i := 2) scStepsOf.nd rfl (.inl rfl)) pgs_nil))) (fun _ _ _ _ _ => pts_nil)
      (fun _ _ _ _ _ => pe_ifExp (pt_cmpR op_eq (pe_op op_mod (pe_op op_sub (pe_idx (K0 := K) rfl (pe_glob (v := .str "abc") (by rfl) G.LET ⟨_, rfl⟩) (pa_cons (pv 2) pa_nil))
        (pe_idx (K0 := K) rfl (pe_glob (v := .str "abc") (by rfl) G.LET ⟨_, rfl⟩) (pa_cons (pv 1) pa_nil))) pe_int) pe_int (nomark _)) pe_int (pe_un un_neg pe_int)))), ?_⟩
    have ecut : cutS (W a u) (some (1 : Int)) none = ⟨((codes a u).drop 1).toArray⟩ := cut_from (W a u) 1 (by rw [W_len]; omega)
    have esz : min (W a u).cps.size (cutS (W a u) (some (1 : Int)) none).cps.size = u.length := by
      rw [W_size, ecut]
      show min (u.length + 1) ((codes a u).drop 1).toArray.size = _
      rw [List.size_toArray, List.length_drop, codes_len]
      omega
    refine ⟨_, rfl, _, rfl, _, rfl, W a u, rfl, by rw [W_len]; exact small200 (by omega), W a u, _, rfl, fun D nD => lc_it walk_P (fun i H' => Same H H' ∧ H' D = some (.lst ((u.map V.int).take i)))
      ⟨same_upd nD, upd_same⟩ (fun _ _ _ _ => trivial) (fun i x H1 H2 hi hP hY => ?_) (fun H1 hP => ?_)⟩
    · obtain ⟨sm, hD⟩ := hP
      obtain ⟨T, x1, x2, rfl, nT, rfl, ⟨c, hc, rfl⟩, c2, hc2, rfl⟩ := hY
      rw [esz] at hi
      rw [W_get h0 h3 (Nat.le_of_lt hi)] at hc
      have ec := Option.some.inj hc
      have hc2' : (codes a u)[i + 1]? = some c2 := by
        rw [ecut] at hc2
        have e : ((codes a u).drop 1).toArray[i]? = some c2 := hc2
        rw [List.getElem?_toArray, List.getElem?_drop, Nat.add_comm] at e
        exact e
      rw [codes_get u a (i + 1) h0 h3 hi] at hc2'
      have ec2 := Option.some.inj hc2'
      have r1 := at3_range a (u.take i)
      have r2 := at3_range a (u.take (i + 1))
      subst ec ec2
      have ej := List.getElem?_eq_getElem hi
      have st := step_at (f := a) ej
      have nTD : D ≠ T := ne_of_none hD nT
      have sm2 : Same H (upd H1 T (.tup [.str (sign (code (at3 a (u.take i)))), .str (sign (code (at3 a (u.take (i + 1)))))])) := sm.trans (same_upd nT)
      have hD2 : (upd H1 T (.tup [.str (sign (code (at3 a (u.take i)))), .str (sign (code (at3 a (u.take (i + 1)))))])) D = some (.lst ((u.map V.int).take i)) := by rw [upd_ne nTD]; exact hD
      refine g_pair ⟨rfl, ?_⟩
      refine ⟨rfl, _, rfl, at3 a (u.take (i + 1)), rfl, rfl, r2.1, r2.2, rfl, _, rfl, at3 a (u.take i), rfl, rfl, r1.1, r1.2, _, _, rfl, rfl, _, _, rfl, rfl, (by show (0 : Int) < 3; decide), rfl, _, rfl, ?_⟩
      have fin : ∀ y : Int, y = u[i] → ∃ acc, (upd H1 T (.tup [.str (sign (code (at3 a (u.take i)))), .str (sign (code (at3 a (u.take (i + 1)))))])) D = some (.lst acc) ∧ acc.length < sizeLine ∧
          Same H (upd (upd H1 T (.tup [.str (sign (code (at3 a (u.take i)))), .str (sign (code (at3 a (u.take (i + 1)))))])) D (.lst (acc ++ [V.int y]))) ∧
          (upd (upd H1 T (.tup [.str (sign (code (at3 a (u.take i)))), .str (sign (code (at3 a (u.take (i + 1)))))])) D (.lst (acc ++ [V.int y]))) D = some (.lst ((u.map V.int).take (i + 1))) := fun y ey => by
        refine ⟨_, hD2, ?_, fun b o e => ?_, ?_⟩
        · rw [List.length_take, List.length_map]; exact small1000 (by omega)
        · have nb : b ≠ D := ne_of_none e nD
          rw [upd_ne nb]
          exact sm2 b o e
        · rw [upd_same, List.take_add_one, List.getElem?_map, ej, ey]
          rfl
      rcases pm _ (List.getElem_mem hi) with z | z
      · have e1 : (at3 a (u.take (i + 1)) - at3 a (u.take i)) % 3 = 1 := by rw [st, z]; omega
        refine dT (congrArg V.int e1) ?_
        exact fin 1 z.symm
      · have e1 : (at3 a (u.take (i + 1)) - at3 a (u.take i)) % 3 = 2 := by rw [st, z]; omega
        refine dF (fun e => ?_) ?_
        · have e2 := V.int.inj e
          rw [show (at3 a (u.take (i + 1)) - at3 a (u.take i)) % 3 = 2 from e1] at e2
          exact absurd e2 (by decide)
        · exact ⟨_, rfl, fin (-1) z.symm⟩
    · obtain ⟨sm, hD⟩ := hP
      rw [esz, List.take_of_length_le (by rw [List.length_map]; exact Nat.le_refl _)] at hD
      exact q H1 D sm nD hD
end
end K28
set_option Elab.async false
set_option linter.all false
set_option maxRecDepth 100000
set_option maxHeartbeats 8000000
/-! word_of. -/
namespace K28
open PySem PySem.Spec PyProof.Rows L2
theorem joinL_sings : ∀ l : List Nat, TL.joinL [] (l.map fun c => [c]) = l
  | [] => rfl
  | [_] => rfl
  | c :: d :: r => by
    show [c] ++ ([] ++ TL.joinL [] ((d :: r).map fun c => [c])) = _
    rw [joinL_sings (d :: r)]
    rfl
theorem join_signs (l : List Nat) : Txt.join "" (l.map sign) = ⟨l.toArray⟩ := by
  refine TL.ext_tl ?_
  rw [TL.join_eq, TL.tl_join, List.map_map]
  have e : (TL.tl ∘ sign) = fun c => [c] := rfl
  have e2 : TL.tl (Str.ofString "") = [] := by decide +kernel
  rw [e, e2, joinL_sings]
theorem letter_at {i : Int} (h0 : 0 ≤ i) (h3 : i < 3) : ("abc" : Str).cps.toList[i.toNat]? = some (code i) := by
  have e : i = 0 ∨ i = 1 ∨ i = 2 := by omega
  rcases e with rfl | rfl | rfl <;> decide +kernel
theorem SqT_same {K : PySem.W.Frag} {H H' : Hp} {a : Addr} {xs : List V} (h : SqT K H a xs) (e : Same H H') : SqT K H' a xs :=
  h.elim (fun h => .inl (h.elim (fun h => .inl (e _ _ h)) fun ⟨o, h⟩ => .inr ⟨o, e _ _ h⟩)) fun h => .inr h
theorem SqL_same {K : PySem.W.Frag} {H H' : Hp} {a : Addr} {xs : List V} (h : SqL K H a xs) (e : Same H H') : SqL K H' a xs :=
  h.elim (fun h => .inl (h.elim (fun h => .inl (e _ _ h)) fun ⟨o, h⟩ => .inr ⟨o, e _ _ h⟩)) fun h => .inr h
theorem sum_ones {α : Type} (l : List α) : ((l.map fun _ => 1).sum : Nat) = l.length := by
  induction l with
  | nil => rfl
  | cons a r ih => rw [List.map_cons, List.sum_cons, ih, List.length_cons]; omega
section
variable {P : Program} {w : World} {K : PySem.W.Frag} {mg : Str → Option Value} {base : Heap} {t1 t2 t3 t4 t5 : Tok}
def spWordOf (K : PySem.W.Frag) : Sp := fun vs H Q _ => ∃ (f : Int) (u : List Int) (a : Addr), vs = [.str (sign (code f)), .ref a] ∧ 0 ≤ f ∧ f < 3 ∧ SqT K H a (u.map V.int) ∧ u.length ≤ 199 ∧ ∀ H', Same H H' → Q (.str (W f u)) H'
theorem ok_wordOf {f : Addr} {fd : FuncData} {k : Nat} (F : Fun K "word_of" "word_of" dWordOf f fd) (G : Gb mg t1 t2 t3 t4 t5) : FnOk P w K mg base CX0 (k + 1) f fd ["first", "steps"] (spWordOf K) := by
  refine F.ok scWordOf (fun vs H Q E h => ?_) (fun cdv A outer s H vs Q E hr h => ?_)
  · obtain ⟨a, u, p, rfl, _⟩ := h; rfl
  · obtain ⟨a, u, p, rfl, h0, h3, ht, hl, q⟩ := h
    have nd := scWordOf.nd
    refine ⟨_, pss_cons (ps_par (i := 2) (j := 3) rfl nd rfl rfl (by decide) rfl rfl (pa_cons (pe_idx (K0 := K) rfl (pe_glob (v := .str "abc") (by rfl) G.LET ⟨_, rfl⟩) (pa_cons (pv 0) pa_nil)) (pa_cons (pe_lst (pa_cons (pv 0) pa_nil)) pa_nil)) rfl)
      (pss_cons (ps_for PassesOwn.never rfl (pi_tup (pv 1)) (pg_name (i := 4) nd rfl (.inl rfl))
        (pss_cons (ps_set (i := 2) nd rfl (.inl rfl) (pe_op op_mod (pe_op op_add (pv 2) (pv 4)) pe_int))
          (pss_one (ps_expr (pe_bm PySem.F.plainAttrs_list PySem.F.slot_list_append PySem.F.type_list_append mt_append (pv 3) (pa_cons (pe_ix ix_str (pe_glob (v := .str "abc") (by rfl) G.LET ⟨_, rfl⟩) (pv 2) (fun _ _ => rfl)) pa_nil))))))
      (pss_one (ps_ret (pe_join pe_str (pv 3))))), ?_⟩
    refine ⟨rfl, _, rfl, a, rfl, rfl, h0, h3, _, rfl, (by show 1 ≤ sizeLine; decide), fun D nD => ?_⟩
    refine ⟨_, _, rfl, ?_⟩
    refine ⟨.ref p, rfl, p, rfl, ⟨_, SqT_same ht (same_upd nD)⟩, for_tup (xs := u.map V.int) (fun i σ H' => ∃ y, σ = [some (.str (sign (code a))), some (.ref p), some (.int (at3 a (u.take i))), some (.ref D), y] ∧
      Same H H' ∧ H' D = some (.lst ((codes a (u.take i)).map fun c => V.str (sign c)))) ⟨none, by rw [List.take_zero, at3_nil h0 h3]; rfl, same_upd nD, upd_same⟩ (fun i σ H' _ hP => ?_) (fun i x σ H1 hx hP => ?_) (fun σ H1 hP => ?_)⟩
    · obtain ⟨y, rfl, sm, hD⟩ := hP
      exact SqT_same ht sm
    · obtain ⟨y, rfl, sm, hD⟩ := hP
      rw [List.getElem?_map] at hx
      obtain ⟨j, ej, ex⟩ := Option.map_eq_some_iff.mp hx
      subst ex
      obtain ⟨hi, ej2⟩ := List.getElem?_eq_some_iff.mp ej
      have st := step_at (f := a) ej
      have r2 := at3_range a (u.take (i + 1))
      have etk : u.take (i + 1) = u.take i ++ [j] := by rw [List.take_add_one, ej]; rfl
      refine ⟨_, rfl, _, rfl, _, _, rfl, rfl, _, _, rfl, rfl, (by show (0 : Int) < 3; decide), ?_⟩
      have nDD : ∀ {b o}, H b = some o → b ≠ D := fun e => ne_of_none e nD
      refine ⟨.ref D, rfl, .inl ⟨rfl, _, SqL.of hD⟩, _, rfl, "abc", at3 a (u.take (i + 1)), code (at3 a (u.take (i + 1))), rfl, congrArg V.int st.symm, by decide +kernel, ?_, D, _, _, rfl, rfl, hD, ?_, some (.int j), ?_⟩
      · have e := Int.toNat_of_nonneg r2.1
        rw [← e]
        refine atI_nat ?_
        have e3 := letter_at r2.1 r2.2
        rw [e]
        exact e3
      · rw [List.length_map, codes_len, List.length_take]; exact small1000 (by omega)
      · refine ⟨by rw [st]; rfl, fun b o e => ?_, ?_⟩
        · rw [upd_ne (nDD e)]
          exact sm b o e
        · rw [upd_same, etk, codes_snoc _ _ _ h0 h3, List.map_append]
          rfl
    · obtain ⟨y, rfl, sm, hD⟩ := hP
      rw [List.length_map, List.take_length] at hD
      refine ⟨⟨"", rfl⟩, .ref D, rfl, "", D, (codes a u).map sign, rfl, rfl, .inl (SqL.of (by rw [List.map_map]; exact hD)), ?_, ?_⟩
      · have e1 : (((codes a u).map sign).map fun x => x.length) = (codes a u).map fun _ => 1 := by rw [List.map_map]; rfl
        have e2 : (Str.ofString "").length = 0 := by decide +kernel
        rw [e1, e2, sum_ones, codes_len]
        omega
      · rw [join_signs]
        exact q H1 sm
end
end K28
set_option Elab.async false
set_option linter.all false
set_option maxRecDepth 100000
set_option maxHeartbeats 8000000
/-! read_step. -/
namespace K28
open PySem PySem.Spec PyProof.Rows L2
theorem dE {p : Prop} [Decidable p] {A B : Prop} (h1 : p → A) (h2 : ¬ p → B) : if decide p = true then A else B := by
  by_cases h : p
  · rw [decide_eq_true h]; exact h1 h
  · rw [decide_eq_false h]; exact h2 h
theorem ifT {c : Bool} {A B : Prop} (h : c = true) (a : A) : if c = true then A else B := by rw [if_pos h]; exact a
theorem ifF {c : Bool} {A B : Prop} (h : ¬ c = true) (b : B) : if c = true then A else B := by rw [if_neg h]; exact b
/-! ### bits -/
theorem shl_at (i : Nat) : (1 : Int) * 2 ^ ((i : Int)).toNat = ((2 ^ i : Nat) : Int) := by rw [Int.one_mul, Int.toNat_natCast]; norm_cast
theorem shl_one (i : Nat) : ((2 ^ i : Nat) : Int) * 2 ^ ((1 : Int)).toNat = ((2 ^ (i + 1) : Nat) : Int) := by
  show ((2 ^ i : Nat) : Int) * 2 ^ 1 = _
  rw [Nat.pow_succ]; norm_cast
theorem and_two (m i : Nat) : m &&& 2 ^ i = if m.testBit i = true then 2 ^ i else 0 := by
  refine Nat.eq_of_testBit_eq fun j => ?_
  rw [Nat.testBit_and, Nat.testBit_two_pow]
  by_cases e : i = j
  · subst e
    cases h : m.testBit i
    · rw [if_neg Bool.false_ne_true]; simp
    · rw [if_pos rfl, Nat.testBit_two_pow]; simp
  · cases h : m.testBit i
    · rw [if_neg Bool.false_ne_true]; simp [e]
    · rw [if_pos rfl, Nat.testBit_two_pow]; simp [e]
theorem and_bit (m i : Nat) : (Builtin.bitAnd (m : Int) ((2 ^ i : Nat) : Int) != 0) = m.testBit i := by
  rw [PyProof.Rows.bitAnd_pp (Int.natCast_nonneg _) (Int.natCast_nonneg _), Int.toNat_natCast, Int.toNat_natCast, and_two]
  cases m.testBit i
  · rfl
  · have : (2 ^ i : Nat) ≠ 0 := Nat.pos_iff_ne_zero.mp (Nat.two_pow_pos i)
    rw [if_pos rfl, bne_iff_ne]
    exact fun z => this (by exact_mod_cast z)
theorem or_nat (m n : Nat) : Builtin.bitOr (m : Int) (n : Int) = ((m ||| n : Nat) : Int) := by
  rw [Bits.bitOr_pp (Int.natCast_nonneg _) (Int.natCast_nonneg _), Int.toNat_natCast, Int.toNat_natCast]
theorem pow_small {i : Nat} (h : i ≤ 12) : ((2 ^ i : Nat) : Int).natAbs < 2 ^ 64 := by
  rw [Int.natAbs_natCast]
  exact Nat.lt_of_le_of_lt (Nat.pow_le_pow_right (by decide) h) (by decide)
theorem nowL_cons (x w : Int) (m a i now : Nat) (tot d : Int) (r : List Int) : nowL x w m a i (d :: r) now tot = nowL x w m a (i + 1) r (now2 a (now1 m now i x d) i w tot d) (tot + d) := rfl
theorem nowL_nil (x w : Int) (m a i now : Nat) (tot : Int) : nowL x w m a i [] now tot = now := rfl
section
variable {P : Program} {w : World} {K : PySem.W.Frag} {mg : Str → Option Value} {base : Heap} {t1 t2 t3 t4 t5 : Tok}
def spReadStep (K : PySem.W.Frag) : Sp := fun vs H Q _ => ∃ (a b : Addr) (due : List Int) (s : S5) (x : Int), vs = [.ref a, .ref b, .int x] ∧ SqL K H a (due.map V.int) ∧ SqT K H b (s5V s) ∧ due.length ≤ 11 ∧
  ∀ H' p, Same H H' → H p = none → H' p = some (.tup (s5V (rs due s x))) → Q (.ref p) H'
theorem ok_readStep {f : Addr} {fd : FuncData} {k : Nat} (F : Fun K "read_step" "read_step" dReadStep f fd) (G : Gb mg t1 t2 t3 t4 t5) : FnOk P w K mg base CX0 (k + 1) f fd ["due", "state", "step"] (spReadStep K) := by
  refine F.ok scReadStep (fun vs H Q E h => ?_) (fun cdv A outer s H vs Q E hr h => ?_)
  · obtain ⟨a, b, u, st, x, rfl, _⟩ := h; rfl
  · obtain ⟨a, b, due, st, x, rfl, hd, hs, hl, q⟩ := h
    have nd := scReadStep.nd
    refine ⟨_, pss_cons (ps_asg (pv 1) (pg_tup rfl (pgs_cons (pg_name (i := 3) nd rfl (.inl rfl)) (pgs_cons (pg_name (i := 4) nd rfl (.inl rfl)) (pgs_cons (pg_name (i := 5) nd rfl (.inl rfl)) (pgs_cons (pg_name (i := 6) nd rfl (.inl rfl)) (pgs_cons (pg_name (i := 7) nd rfl (.inl rfl)) pgs_nil)))))))
      (pss_cons (ps_set (i := 7) nd rfl (.inl rfl) (pe_op op_mod (pe_op op_add (pv 7) (pv 2)) pe_int))
      (pss_cons (ps_if (pt_cmpR op_eq (pv 6) (pv 2) (nomark _)) (pss_one (ps_par (i := 5) (j := 4) rfl nd rfl rfl (by decide) rfl rfl (pa_cons (pe_op op_or (pv 5) (pv 4)) (pa_cons pe_int pa_nil)) rfl)) pss_nil)
      (pss_cons (ps_set (i := 8) nd rfl (.inl rfl) (pv 3))
      (pss_cons (ps_asg (pe_tup (pa_cons pe_int (pa_cons pe_int pa_nil))) (pg_tup rfl (pgs_cons (pg_name (i := 9) nd rfl (.inl rfl)) (pgs_cons (pg_name (i := 10) nd rfl (.inl rfl)) pgs_nil))))
      (pss_cons (ps_for PassesOwn.never rfl (pi_enum (by rfl) G.enum_ (pa_cons (pv 0) pa_nil)) (pg_tup rfl (pgs_cons (pg_name (i := 11) nd rfl (.inl rfl)) (pgs_cons (pg_name (i := 12) nd rfl (.inl rfl)) pgs_nil)))
        (pss_cons (ps_set (i := 13) nd rfl (.inl rfl) (pe_op op_shl pe_int (pv 11)))
        (pss_cons (ps_if (PW.pt (pw_and (pt_truth (pe_op op_and (pv 8) (pv 13)) (fun _ => rfl)) (pw_and1 (pt_cmpR op_eq (pv 12) (pv 2) (nomark _))))) (pss_one (ps_aug (i := 9) nd rfl (.inl rfl) (pe_op op_shl (pv 13) pe_int) iop_or)) pss_nil)
        (pss_cons (ps_if (PW.pt (pw_and (pt_truth (pe_op op_and (pv 5) (pv 13)) (fun _ => rfl)) (pw_and1 (pt_cmpR op_eq (pe_op op_mod (pe_op op_sub (pe_op op_sub (pv 7) (pv 10)) (pv 12)) pe_int) pe_int (nomark _))))) (pss_one (ps_aug (i := 9) nd rfl (.inl rfl) (pe_op op_shl (pv 13) pe_int) iop_or)) pss_nil)
        (pss_one (ps_aug (i := 10) nd rfl (.inl rfl) (pv 12) ip_add))))))
      (pss_one (ps_ret (pe_tup (pa_cons (pv 9) (pa_cons (pe_op op_or (pv 4) (pv 8)) (pa_cons (pv 5) (pa_cons (pv 2) (pa_cons (pv 7) pa_nil))))))))))))), ?_⟩
    refine ⟨_, rfl, b, s5V st, rfl, hs, rfl, _, _, rfl, _, _, rfl, _, _, rfl, _, _, rfl, _, _, rfl, rfl, ?_⟩
    refine ⟨_, rfl, _, rfl, _, _, rfl, rfl, _, _, rfl, rfl, (by show (0 : Int) < 3; decide), ?_⟩
    refine ⟨_, rfl, _, rfl, rfl, _, rfl, ?_⟩
    refine dE (fun c => ?g1) (fun c => ?g2)
    case' g1 =>
      have ec : st.l = x := V.int.inj c
      have eT : turns' st x = 0 := if_pos ec
      have eA : alike' st x = (st.a ||| st.t) := if_pos ec
      refine ⟨_, rfl, _, rfl, _, _, rfl, rfl, _, _, rfl, ?_⟩
      revert eT eA
    case' g2 =>
      have ec : ¬ st.l = x := fun z => c (congrArg V.int z)
      have eT : turns' st x = st.t := if_neg ec
      have eA : alike' st x = st.a := if_neg ec
      revert eT eA
    all_goals
      intro eT eA
      refine ⟨_, rfl, ?_⟩
      refine ⟨(by show 2 ≤ sizeLine; decide), fun p np => ?_⟩
      refine ⟨p, _, rfl, SqT.of upd_same, rfl, _, _, rfl, _, _, rfl, rfl, ?_⟩
      refine ⟨_, rfl, a, due.map V.int, rfl, SqL_same hd (same_upd np), for_it (walk_enum (xs := due.map V.int)) (fun i σ H' => ∃ (now : Nat) (tot : Int) (y1 y2 y3 : Option V), σ = [some (.ref a), some (.ref b), some (.int x), some (.int (st.m : Int)), some (.int (turns' st x : Nat)), some (.int (alike' st x : Nat)), some (.int st.l), some (.int ((st.w + x) % 3)), some (.int (st.m : Int)), some (.int (now : Int)), some (.int tot), y1, y2, y3] ∧
        Same H H' ∧ nowL x ((st.w + x) % 3) st.m (alike' st x) i (due.drop i) now tot = nowL x ((st.w + x) % 3) st.m (alike' st x) 0 due 0 0) ⟨0, 0, none, none, none, (by rw [eA, eT]; first | rfl | (rw [← or_nat]; rfl)), same_upd np, rfl⟩ (fun i σ H1 _ hP => ?_) (fun i v σ H1 H2 hi hP hY => ?_) (fun σ H1 hP => ?_)⟩
      · obtain ⟨now, tot, y1, y2, y3, rfl, sm, e⟩ := hP
        exact SqL_same hd sm
      · obtain ⟨now, tot, y1, y2, y3, rfl, sm, e⟩ := hP
        obtain ⟨T, v1, v2, rfl, nT, rfl, hv1, hv2⟩ := hY
        have e1 := Option.some.inj hv1
        subst e1
        have hv3 : (due.map V.int)[i]? = some v2 := hv2
        rw [List.getElem?_map] at hv3
        obtain ⟨j, ej, ex⟩ := Option.map_eq_some_iff.mp hv3
        subst ex
        obtain ⟨hi2, ej2⟩ := List.getElem?_eq_some_iff.mp ej
        have edrop : due.drop i = j :: due.drop (i + 1) := by rw [← ej2]; exact List.drop_eq_getElem_cons hi2
        have sm2 : Same H (upd H1 T (.tup [.int (i : Nat), .int j])) := sm.trans (same_upd nT)
        have hc1 : CPow 1 ((i : Nat) : Int) := ⟨Int.natCast_nonneg _, by omega, by decide⟩
        have hc2 : CPow (1 * 2 ^ (((i : Nat) : Int)).toNat) 1 := ⟨by decide, by decide, by rw [shl_at]; exact pow_small (by omega)⟩
        refine g_pair ?_
        refine ⟨_, rfl, _, _, rfl, rfl, hc1, ?_⟩
        refine ⟨_, rfl, _, rfl, _, _, rfl, rfl, st.m.testBit i, (by rw [← and_bit, ← shl_at]; rfl), ?_⟩
        by_cases hb : st.m.testBit i = true <;> by_cases hx : j = x <;> by_cases hc : (alike' st x).testBit i = true <;> by_cases hz : ((st.w + x) % 3 - tot - j) % 3 = 0
        all_goals
          first
            | refine ifT hb ⟨_, rfl, _, rfl, rfl, _, rfl, dT (congrArg V.int hx) ⟨_, rfl, _, rfl, _, _, rfl, rfl, hc2, _, _, rfl, rfl, ?_⟩⟩
            | refine ifT hb ⟨_, rfl, _, rfl, rfl, _, rfl, dF (fun z => hx (V.int.inj z)) ?_⟩
            | refine ifF hb ?_
          refine ⟨_, rfl, _, rfl, _, _, rfl, rfl, (alike' st x).testBit i, (by rw [← and_bit, ← shl_at]; rfl), ?_⟩
          first
            | refine ifT hc ⟨_, rfl, _, rfl, _, _, rfl, rfl, _, rfl, _, _, rfl, rfl, _, _, rfl, rfl, (by show (0 : Int) < 3; decide), rfl, _, rfl, dT (congrArg V.int hz) ⟨_, rfl, _, rfl, _, _, rfl, rfl, hc2, _, _, rfl, rfl, ?_⟩⟩
            | refine ifT hc ⟨_, rfl, _, rfl, _, _, rfl, rfl, _, rfl, _, _, rfl, rfl, _, _, rfl, rfl, (by show (0 : Int) < 3; decide), rfl, _, rfl, dF (fun z => hz (V.int.inj z)) ?_⟩
            | refine ifF hc ?_
          refine ⟨_, rfl, _, rfl, _, _, rfl, rfl, now2 (alike' st x) (now1 st.m now i x j) i ((st.w + x) % 3) tot j, tot + j, some (.int (i : Nat)), some (.int j), some (.int (1 * 2 ^ (((i : Nat) : Int)).toNat)), congrArg (fun z : Int => [some (V.ref a), some (.ref b), some (.int x), some (.int (st.m : Int)), some (.int (turns' st x : Nat)), some (.int (alike' st x : Nat)), some (.int st.l), some (.int ((st.w + x) % 3)), some (.int (st.m : Int)), some (.int z), some (.int (tot + j)), some (.int (i : Nat)), some (.int j), some (.int (1 * 2 ^ (((i : Nat) : Int)).toNat))]) ?_, sm2, ?_⟩
          · try rw [hx] at hz
            simp only [shl_at, shl_one, or_nat, now2, now1, hb, hx, hc, hz, and_self, and_true, true_and, and_false, false_and, if_true, if_false, if_pos, ite_true, ite_false, not_true_eq_false, not_false_eq_true, eq_self_iff_true, reduceIte, Bool.false_eq_true]
          · rw [← e, edrop, nowL_cons]
      · obtain ⟨now, tot, y1, y2, y3, rfl, sm, e⟩ := hP
        rw [List.length_map, List.drop_length, nowL_nil] at e
        refine ⟨_, rfl, _, rfl, _, rfl, _, _, rfl, rfl, _, rfl, _, rfl, _, rfl, (by show 5 ≤ sizeLine; decide), fun p2 np2 => ?_⟩
        refine q _ p2 (sm.trans (same_upd np2)) (sm.free np2) ?_
        rw [upd_same]
        show some (HO.tup [V.int (now : Int), V.int (Builtin.bitOr (turns' st x : Nat) (st.m : Int)), V.int (alike' st x : Nat), V.int x, V.int ((st.w + x) % 3)]) = _
        rw [or_nat, e]
        rfl
end
end K28
set_option Elab.async false
set_option linter.all false
set_option maxRecDepth 100000
set_option maxHeartbeats 8000000
/-! grow. -/
namespace K28
open PySem PySem.Spec PyProof.Rows L2
/-! ### tables as dicts -/
def enc (s : S5) : List Key := [.inl (s.m : Int), .inl (s.t : Int), .inl (s.a : Int), .inl s.l, .inl s.w]
theorem enc_kV (s : S5) : (enc s).map kV = s5V s := rfl
theorem enc_inj {s t : S5} (h : enc s = enc t) : s = t := by
  obtain ⟨m, u, a, l, w⟩ := s
  obtain ⟨m', u', a', l', w'⟩ := t
  injection h with h1 h; injection h with h2 h; injection h with h3 h; injection h with h4 h; injection h with h5 h
  have e1 := Int.ofNat.inj (Sum.inl.inj h1)
  have e2 := Int.ofNat.inj (Sum.inl.inj h2)
  have e3 := Int.ofNat.inj (Sum.inl.inj h3)
  have e4 := Sum.inl.inj h4
  have e5 := Sum.inl.inj h5
  subst e1 e2 e3 e4 e5
  rfl
def tabD (T : List (S5 × Nat)) : List (List Key × V) := T.map fun p => (enc p.1, V.int (p.2 : Int))
theorem tabD_len (T : List (S5 × Nat)) : (tabD T).length = T.length := List.length_map ..
theorem dec_enc (p s : S5) : decide (enc p = enc s) = decide (p = s) := by
  by_cases h : p = s
  · subst h; simp
  · have : ¬ enc p = enc s := fun z => h (enc_inj z)
    rw [decide_eq_false h, decide_eq_false this]
theorem tabD_get (s : S5) : ∀ T : List (S5 × Nat), (valV (tabD T) (enc s)).getD (.int 0) = .int (tget T s : Nat)
  | [] => rfl
  | p :: T => by
    have ih := tabD_get s T
    unfold valV tget tabD at ih ⊢
    rw [List.map_cons, List.find?_cons, List.find?_cons]
    rw [dec_enc]
    cases h : decide (p.1 = s)
    · exact ih
    · rfl
theorem tabD_put (T : List (S5 × Nat)) (s : S5) (n : Nat) : putK (tabD T) (enc s) (.int (n : Int)) = tabD (tput T s n) := by
  have ea : ((tabD T).any fun kv => decide (kv.1 = enc s)) = T.any fun p => decide (p.1 = s) := by
    unfold tabD
    rw [List.any_map]
    refine congrArg (fun f => T.any f) (funext fun p => dec_enc p.1 s)
  unfold putK tput
  rw [ea]
  split
  · unfold tabD
    rw [List.map_map, List.map_map]
    refine List.map_congr_left fun p _ => ?_
    show (if enc p.1 = enc s then (enc p.1, V.int (n : Int)) else (enc p.1, V.int (p.2 : Int))) = (enc (if p.1 = s then (p.1, n) else p).1, V.int ((if p.1 = s then (p.1, n) else p).2 : Nat))
    by_cases h : p.1 = s
    · rw [if_pos h, if_pos (congrArg enc h)]
    · rw [if_neg h, if_neg fun z => h (enc_inj z)]
  · unfold tabD
    rw [List.map_append]
    rfl
theorem tadd_len (T : List (S5 × Nat)) (s : S5) (n : Nat) : (tadd T s n).length ≤ T.length + 1 := tput_len T s _
theorem grow_len (due : List Int) : ∀ (T A : List (S5 × Nat)), (T.foldl (growR due) A).length ≤ A.length + 2 * T.length
  | [], A => Nat.le_refl _
  | p :: T, A => by
    rw [List.foldl_cons, List.length_cons]
    have h1 := grow_len due T (growR due A p)
    have h2 : (growR due A p).length ≤ (tadd A (rs due p.1 1) p.2).length + 1 := tadd_len _ _ _
    have h3 := tadd_len A (rs due p.1 1) p.2
    omega
theorem fold_len (due : List Int) (s : S5) (n : Nat) : ∀ (l : List Int) (A : List (S5 × Nat)), (l.foldl (fun B x => tadd B (rs due s x) n) A).length ≤ A.length + l.length
  | [], A => Nat.le_refl _
  | x :: l, A => by
    rw [List.foldl_cons, List.length_cons]
    have h1 := fold_len due s n l (tadd A (rs due s x) n)
    have h3 := tadd_len A (rs due s x) n
    omega
theorem same_unlock {H H' : Hp} {d : Addr} {od : Obj} {u : HO} (hd : H d = some u) (s : Same (upd H d (.frz od u)) H') : Same H (upd H' d u) := fun b o e => by
  by_cases h : b = d
  · subst h
    rw [hd] at e
    cases e
    exact upd_same
  · rw [upd_ne h]
    exact s b o (by rw [upd_ne h]; exact e)
theorem same_ext {H H' : Hp} {l : Addr} {o : HO} (s : Same H H') (n : H l = none) : Same H (upd H' l o) := fun b x e => by
  rw [upd_ne (ne_of_none e n)]
  exact s b x e
section
variable {P : Program} {w : World} {K : PySem.W.Frag} {mg : Str → Option Value} {base : Heap} {t1 t2 t3 t4 t5 : Tok}
def spGrow (K : PySem.W.Frag) : Sp := fun vs H Q _ => ∃ (a d : Addr) (due : List Int) (T : List (S5 × Nat)), vs = [.ref a, .ref d] ∧ SqL K H a (due.map V.int) ∧ due.length ≤ 11 ∧ H d = some (.dT (tabD T)) ∧ T.length ≤ 256 ∧
  ∀ H' p, Same H H' → H p = none → H' p = some (.dT (tabD (growT due T))) → Q (.ref p) H'
theorem ok_grow {f f1 : Addr} {fd d1 : FuncData} {k : Nat} (F : Fun K "grow" "grow" dGrow f fd) (G : Gb mg t1 t2 t3 t4 t5)
    (G1 : FnOk P w K mg base CX0 k f1 d1 ["due", "state", "step"] (spReadStep K)) (k1 : PySem.W.keepIn K (.ref f1) = true) (b1 : Binds K d1 ["due", "state", "step"] []) (m1 : mg "read_step" = some (.ref f1)) :
    FnOk P w K mg base CX0 (k + 1) f fd ["due", "states"] (spGrow K) := by
  refine F.ok scGrow (fun vs H Q E h => ?_) (fun cdv A outer s H vs Q E hr h => ?_)
  · obtain ⟨a, d, u, T, rfl, _⟩ := h; rfl
  · obtain ⟨a, d, due, T, rfl, ha, hl, hd, hT, q⟩ := h
    have nd := scGrow.nd
    have hu := hu_of hr
    refine ⟨_, pss_cons (ps_set (i := 2) nd rfl (.inl rfl) pe_dnewT)
      (pss_cons (ps_lock (ps_for PassesOwn.never rfl (pi_itemsT (pv 1)) (pg_tup rfl (pgs_cons (pg_name (i := 3) nd rfl (.inl rfl)) (pgs_cons (pg_name (i := 4) nd rfl (.inl rfl)) pgs_nil)))
        (pss_one (ps_for PassesOwn.never rfl (pi_tup (pe_tup (pa_cons pe_int (pa_cons (pe_un un_neg pe_int) pa_nil)))) (pg_name (i := 5) nd rfl (.inl rfl))
          (pss_cons (ps_set (i := 6) nd rfl (.inl rfl) (pe_call G1 hr (by rfl) m1 k1 b1 .nil pass0 (pa_cons (pv 0) (pa_cons (pv 3) (pa_cons (pv 5) pa_nil)))))
          (pss_one (ps_dput hu (pv 2) (pv 6) (pe_op op_add (pe_dget2 hu (pv 2) (pv 6) pe_int ⟨rfl, rfl, rfl, rfl⟩) (pv 4)) rfl)))))))
      (pss_one (ps_ret (pv 2)))), ?_⟩
    refine fun p np => ⟨d, .dT (tabD T), (by rw [upd_ne (ne_of_none hd np)]; exact hd), trivial, fun od => ?_⟩
    have h0 : (upd (upd H p (.dT [])) d (.frz od (.dT (tabD T)))) p = some (.dT (tabD [])) := by rw [upd_ne (ne_of_none hd np).symm, upd_same]; rfl
    have nD : ∀ {b : Addr} {o : HO}, H b = some o → b ≠ p := fun e => ne_of_none e np
    generalize hH0 : upd (upd H p (.dT [])) d (.frz od (.dT (tabD T))) = H0 at h0 ⊢
    have hfrz : H0 d = some (.frz od (.dT (tabD T))) := by rw [← hH0, upd_same]
    have hkeep : ∀ b o, b ≠ d → H b = some o → H0 b = some o := fun b o hb e => by rw [← hH0, upd_ne hb, upd_ne (nD e)]; exact e
    refine ⟨_, rfl, d, od, tabD T, rfl, hfrz, for_it walk_P (fun i σ H' => ∃ y3 y4 y5 y6, σ = [some (.ref a), some (.ref d), some (.ref p), y3, y4, y5, y6] ∧
      (∀ b o, b ≠ p → H0 b = some o → H' b = some o) ∧ H' p = some (.dT (tabD ((T.take i).foldl (growR due) [])))) ⟨none, none, none, none, rfl, fun _ _ _ e => e, h0⟩ (fun i σ H1 _ hP => ?_) (fun i x σ H1 H2 hi hP hY => ?_) (fun σ H1 hP => ?_)⟩
    · obtain ⟨y3, y4, y5, y6, rfl, kp, hp⟩ := hP
      exact kp d _ (nD hd) hfrz
    · obtain ⟨y3, y4, y5, y6, rfl, kp, hp⟩ := hP
      obtain ⟨T', x1, x2, rfl, nT', rfl, kk, q', hk, rfl, hq'⟩ := hY
      have hk2 : (T.map fun p => (enc p.1, V.int (p.2 : Int)))[i]? = some (kk, x2) := hk
      rw [List.getElem?_map] at hk2
      obtain ⟨⟨s1, n⟩, epp, ex⟩ := Option.map_eq_some_iff.mp hk2
      cases ex
      have hi' : i < T.length := by rw [tabD_len] at hi; exact hi
      have hs1 : H1 q' = some (.tup (s5V s1)) := hq'
      refine g_pair ?_
      refine ⟨1, rfl, (by show 2 ≤ sizeLine; decide), fun pt npt => ⟨pt, rfl, ⟨_, SqT.of upd_same⟩, ?_⟩⟩
      generalize hA : (T.take i).foldl (growR due) [] = A0 at hp
      have hlen : A0.length ≤ 2 * i := by
        rw [← hA]
        refine Nat.le_trans (grow_len due _ _) ?_
        rw [List.length_take, List.length_nil]
        omega
      refine for_tup (xs := [.int 1, .int (-1)]) (fun j σ H' => ∃ y5 y6, σ = [some (.ref a), some (.ref d), some (.ref p), some (.ref q'), some (.int (n : Int)), y5, y6] ∧ (∀ b o, b ≠ p → H0 b = some o → H' b = some o) ∧ H' pt = some (.tup [.int 1, .int (-1)]) ∧
        H' q' = some (.tup (s5V s1)) ∧ H' p = some (.dT (tabD ((([1, -1] : List Int).take j).foldl (fun B x => tadd B (rs due s1 x) n) A0)))) ⟨y5, y6, rfl, ?_, upd_same, ?_, ?_⟩ (fun j σ H2 hj hP => ?_) (fun j x σ H2 hx hP => ?_) (fun σ H2 hP => ?_)
      · intro b o hb e
        have e1 := kp b o hb e
        have n1 : b ≠ T' := ne_of_none e1 nT'
        have e2 : (upd H1 T' (.tup [.ref q', .int (n : Int)])) b = some o := by rw [upd_ne n1]; exact e1
        rw [upd_ne (ne_of_none e2 npt)]
        exact e2
      · have e2 : (upd H1 T' (.tup [.ref q', .int (n : Int)])) q' = some (.tup (s5V s1)) := by rw [upd_ne (ne_of_none hs1 nT')]; exact hs1
        rw [upd_ne (ne_of_none e2 npt)]
        exact e2
      · have e2 : (upd H1 T' (.tup [.ref q', .int (n : Int)])) p = some (.dT (tabD A0)) := by rw [upd_ne (ne_of_none hp nT')]; exact hp
        rw [upd_ne (ne_of_none e2 npt)]
        exact e2
      · obtain ⟨y5, y6, rfl, kp2, hpt, hq2, hp2⟩ := hP
        exact SqT.of hpt
      · obtain ⟨y5, y6, rfl, kp2, hpt, hq2, hp2⟩ := hP
        have hx2 : (([1, -1] : List Int).map V.int)[j]? = some x := hx
        rw [List.getElem?_map] at hx2
        obtain ⟨c, ec, ex⟩ := Option.map_eq_some_iff.mp hx2
        subst ex
        have hj : j < 2 := (List.getElem?_eq_some_iff.mp ec).1
        generalize hB : (([1, -1] : List Int).take j).foldl (fun B x => tadd B (rs due s1 x) n) A0 = B at hp2
        have hBl : B.length ≤ 600 := by
          rw [← hB]
          refine Nat.le_trans (fold_len due s1 n _ _) ?_
          rw [List.length_take]
          simp only [List.length_cons, List.length_nil]
          omega
        refine ⟨_, rfl, _, rfl, _, rfl, a, q', due, s1, c, rfl, ?_, SqT.of hq2, hl, fun H3 r sm hr0 hr1 => ?_⟩
        · exact ha.elim (fun z => .inl (z.elim (fun e => .inl (kp2 _ _ (nD e) (hkeep _ _ (fun y => by rw [y, hd] at e; cases e) e))) fun ⟨o, e⟩ => .inr ⟨o, kp2 _ _ (nD e) (hkeep _ _ (fun y => by rw [y, hd] at e; cases e) e)⟩)) .inr
        · have hp3 := sm _ _ hp2
          refine ⟨_, rfl, p, rfl, .inr ⟨_, .inl hp3⟩, _, rfl, _, DGet.t (k := enc (rs due s1 c)) hp3 hr1, _, rfl, _, _, tabD_get _ _, rfl, ?_⟩
          refine ⟨_, rfl, _, rfl, p, _, rfl, DPut.t (k := enc (rs due s1 c)) hp3 hr1 (by rw [tabD_len]; exact small1000 (by omega)), ?_⟩
          refine ⟨_, _, rfl, fun b o hb e => ?_, ?_, ?_, ?_⟩
          · rw [upd_ne hb]
            exact sm _ _ (kp2 b o hb e)
          · rw [upd_ne (fun z => by rw [z, hp2] at hpt; cases hpt)]
            exact sm _ _ hpt
          · rw [upd_ne (fun z => by rw [z, hp2] at hq2; cases hq2)]
            exact sm _ _ hq2
          · rw [upd_same, List.take_add_one, ec, List.foldl_append, hB]
            show some (HO.dT (putK (tabD B) (enc (rs due s1 c)) (V.int ((tget B (rs due s1 c) : Int) + (n : Int))))) = _
            rw [← Int.natCast_add, tabD_put]
            rfl
      · obtain ⟨y5, y6, rfl, kp2, hpt, hq2, hp2⟩ := hP
        refine ⟨_, _, _, _, rfl, kp2, ?_⟩
        rw [hp2, List.take_add_one, epp, List.foldl_append, hA]
        rfl
    · obtain ⟨y3, y4, y5, y6, rfl, kp, hp⟩ := hP
      have et : T.take (tabD T).length = T := List.take_of_length_le (by rw [tabD_len]; exact Nat.le_refl _)
      rw [et] at hp
      refine ⟨kp d _ (nD hd) hfrz, _, rfl, q _ p (fun b o e => ?_) np ?_⟩
      · by_cases hb : b = d
        · subst hb
          rw [hd] at e
          cases e
          exact upd_same
        · rw [upd_ne hb]
          exact kp b o (nD e) (hkeep b o hb e)
      · rw [upd_ne (nD hd).symm]
        exact hp
end
end K28
set_option Elab.async false
set_option linter.all false
set_option maxRecDepth 100000
set_option maxHeartbeats 4000000
/-! Rules that the hand layer lacks: a star in a tuple display; a dict whose keys are pairs of a tuple of ints and an int; a display of one pair with a tuple as key. -/
namespace K28
open PySem PySem.Spec PyProof.Rows L2
/-! ### (*t, e) -/
def tStarT (K : PySem.W.Frag) (te : TE) (ta : TA) : TA := fun σ H Q => te σ H fun x H1 => ∃ a xs, x = .ref a ∧ SqT K H1 a xs ∧ ta σ H1 fun ys H2 => Q (xs ++ ys) H2
theorem pa_star {X : Cx} {e : Expr} {es : List Expr} {p : Pos} {te : TE} {ta : TA} (he : PE X e te) (ha : PA X es ta)
    (hs : starEach (.Starred e p :: es) X.env = (true, eval e X.env) :: starEach es X.env := by rfl) : PA X (.Starred e p :: es) (tStarT X.K te ta) := by
  refine ⟨fun pos pins s σ H Q I h => ?_⟩
  refine PySem.W.items_star (thn (he.run pins s σ H _ I h) fun v s1 ⟨x, H1, I1, r1, a, xs, ex, hq, q1⟩ => ?_) hs
  subst ex
  cases r1
  obtain ⟨its, rv, ⟨o, ho, hc, n, hd⟩, hz⟩ := I1.tuple hq
  have z : wpAny (model X.prog X.w) X.A (collect (.ref a)) (fun here s₂ => wpAny (model X.prog X.w) X.A (spliced (backTo pos (starEach es X.env))) (fun vs s₃ => AP X pins σ Q (here ++ vs) s₃) X.xe s₂) X.xe s1 := by
    refine wpAny_collect_seq a (.inr rfl) ho hc hd (fun h' hk => ?_) (by rw [List.size_toArray, ← rv.length]; exact hz)
    have I2 : Inv X pins σ H1 { s1 with heap := h' } := I1.kept (t' := s1.toks) hk
    exact thn (ha.run pos pins _ σ H1 _ I2 q1) fun us s3 ⟨ys, H3, I3, r3, q3⟩ => ⟨xs ++ ys, H3, I3, (by simpa using rv.append r3), q3⟩
  unfold PySem.W.StarOf notIterableAtAll
  exact wpAny_bind (wpAny_specialOf ⟨o, ho, hc⟩ PySem.F.slot_tuple_iter.lookup (wpAny_pure ⟨rfl, z⟩))

/-! ### the memo: keys ((ints), int), values ints -/
abbrev MK := List Int × Int
def nk (k : MK) : NestedKey := .tup [.tup (k.1.map .num), .num k.2]
theorem nums_inj : ∀ {a b : List Int}, a.map NestedKey.num = b.map NestedKey.num → a = b
  | [], [], _ => rfl
  | [], _ :: _, e => by simp at e
  | _ :: _, [], e => by simp at e
  | x :: xs, y :: ys, e => by
    rw [List.map_cons, List.map_cons] at e
    injection e with e1 e2
    injection e1 with e1
    rw [e1, nums_inj e2]
theorem nk_inj {a b : MK} (e : nk a = nk b) : a = b := by
  unfold nk at e
  injection e with e
  injection e with e1 e2
  injection e1 with e1
  injection e2 with e2 _
  injection e2 with e2
  exact Prod.ext (nums_inj e1) e2
theorem nk_depth (k : MK) : (nk k).depth ≤ 8 := by
  have z : ∀ l : List Int, NestedKey.depthAll (l.map .num) = 0 := by
    intro l
    induction l with
    | nil => rfl
    | cons x l ih => rw [List.map_cons, NestedKey.depthAll, ih]; rfl
  unfold nk
  simp only [NestedKey.depth, NestedKey.depthAll, z]
  decide
/-- the tuple at b is the key k -/
def KeyAt (H : Hp) (b : Addr) (k : MK) : Prop := ∃ st, H b = some (.tup [.ref st, .int k.2]) ∧ H st = some (.tup (k.1.map .int))
theorem KeyAt.keeps {H H' : Hp} {b : Addr} {k : MK} (x : KeyAt H b k) (t : ∀ c xs, H c = some (.tup xs) → H' c = some (.tup xs)) : KeyAt H' b k :=
  let ⟨st, h1, h2⟩ := x; ⟨st, t _ _ h1, t _ _ h2⟩
section
variable {P : Program} {w : World} {H : Hp} {h : Heap}
theorem nums_all : ∀ {ks : List Int} {us : List Value}, Vals (ks.map V.int) us → NestedAll h (ks.map .num) us
  | [], _, r => by rw [List.map_nil] at r; cases r; exact .nil
  | k :: ks, _, r => by
    rw [List.map_cons] at r
    cases r with
    | cons r1 r2 =>
      obtain ⟨t, rfl⟩ := r1
      exact .cons (.int _ _) (nums_all r2)
theorem KeyAt.is {b : Addr} {k : MK} (x : KeyAt H b k) (ok : HOk P w H h) : (nestedKind P w).is h (nk k) b := by
  obtain ⟨st, h1, h2⟩ := x
  obtain ⟨_, its, r, o, g1, g2, n, g3⟩ := (show ObjOk P w H h b (.tup [.ref st, .int k.2]) from ok b _ h1)
  obtain ⟨_, its2, r2, o2, f1, f2, n2, f3⟩ := (show ObjOk P w H h st (.tup (k.1.map .int)) from ok st _ h2)
  obtain ⟨u1, u2, rfl, e1, e2⟩ := vals2 r
  cases e1
  obtain ⟨t, rfl⟩ := e2
  refine ⟨.tup g1 g2 g3 (.cons (.tup f1 f2 f3 (by simpa using nums_all r2)) (.cons (.int _ _) .nil)), nk_depth k⟩
end
/-- what stands at d, by its own object alone -/
def memoP (P : Program) (w : World) (d : Addr) (xs : List (MK × Addr × Int)) (h : Heap) : Prop :=
  (d == sysModules) = false ∧ ∃ ys : List (NestedKey × Addr × Value), Paired (fun (p : MK × Addr × Int) (q : NestedKey × Addr × Value) => q.1 = nk p.1 ∧ q.2.1 = p.2.1 ∧ RelV (.int p.2.2) q.2.2) xs ys ∧
    ∃ o es ep, h.get? d = some o ∧ o.ExactDict ∧ o.data = .dict es ep ∧ es.toList = ys.map (entryOfKey (nestedKind P w)) ∧ (ys.map (·.1)).Nodup
def memoO (P : Program) (w : World) (d : Addr) (xs : List (MK × Addr × Int)) : HO := .ext (memoP P w d xs)
/-- the memo at d: its pairs -/
def Memo (P : Program) (w : World) (H : Hp) (d : Addr) (xs : List (MK × Addr × Int)) : Prop := H d = some (memoO P w d xs) ∧ ∀ x ∈ xs, KeyAt H x.2.1 x.1
def mval (xs : List (MK × Addr × Int)) (k : MK) : Option Int := (xs.find? fun x => decide (x.1 = k)).map (·.2.2)
theorem mval_mem {xs : List (MK × Addr × Int)} {k : MK} {v : Int} (h : mval xs k = some v) : ∃ b, (k, b, v) ∈ xs := by
  unfold mval at h
  cases e : xs.find? fun x => decide (x.1 = k) with
  | none => rw [e] at h; cases h
  | some x =>
    rw [e] at h
    have h1 : x.2.2 = v := Option.some.inj h
    have h2 := List.mem_of_find?_eq_some e
    have h3 : x.1 = k := by simpa using List.find?_some e
    exact ⟨x.2.1, by rw [← h3, ← h1]; exact h2⟩
theorem mval_append {xs : List (MK × Addr × Int)} {k : MK} {b : Addr} {v : Int} (h : mval xs k = none) : mval (xs ++ [(k, b, v)]) k = some v := by
  unfold mval at h ⊢
  rw [List.find?_append, Option.map_eq_none_iff.mp h]
  simp
section
variable {P : Program} {w : World} {H : Hp} {h : Heap} {d : Addr} {xs : List (MK × Addr × Int)}
theorem memoP_ok (x : memoP P w d xs h) : ObjOk P w H h d (memoO P w d xs) := by
  obtain ⟨a, ys, r, o, es, ep, ho, q⟩ := id x
  refine ⟨x, ⟨o, ho⟩, fun h1 h2 p k => ?_⟩
  obtain ⟨a, ys, r, o, es, ep, ho, q⟩ := p
  exact ⟨a, ys, r, o, es, ep, k o ho, q⟩
theorem Memo.of (x : Memo P w H d xs) (ok : HOk P w H h) : (d == sysModules) = false ∧ ∃ ys : List (NestedKey × Addr × Value), Paired (fun (p : MK × Addr × Int) (q : NestedKey × Addr × Value) => q.1 = nk p.1 ∧ q.2.1 = p.2.1 ∧ RelV (.int p.2.2) q.2.2) xs ys ∧
    h.DictOfH (nestedKind P w) d ys := by
  obtain ⟨a, ys, r, o, es, ep, ho, hx, hd, he, hn⟩ := (show ObjOk P w H h d (memoO P w d xs) from ok d _ x.1).1
  refine ⟨a, ys, r, o, es, ep, ho, hx, hd, he, fun y hy => ?_, hn⟩
  have all : ∀ {l : List (MK × Addr × Int)} {m : List (NestedKey × Addr × Value)}, Paired (fun (p : MK × Addr × Int) (q : NestedKey × Addr × Value) => q.1 = nk p.1 ∧ q.2.1 = p.2.1 ∧ RelV (.int p.2.2) q.2.2) l m →
      (∀ x ∈ l, KeyAt H x.2.1 x.1) → ∀ y ∈ m, (nestedKind P w).is h y.1 y.2.1 := by
    intro l m r
    induction r with
    | nil => intro _ y hy; exact nomatch hy
    | @cons p q ps qs hp t ih =>
      intro hk y hy
      rcases List.mem_cons.mp hy with e | hy
      · rw [e, hp.1, hp.2.1]
        exact (hk p List.mem_cons_self).is ok
      · exact ih (fun x hx => hk x (List.mem_cons_of_mem _ hx)) y hy
  exact all r x.2 y hy
theorem pair_val {l : List (MK × Addr × Int)} {m : List (NestedKey × Addr × Value)} (r : Paired (fun (p : MK × Addr × Int) (q : NestedKey × Addr × Value) => q.1 = nk p.1 ∧ q.2.1 = p.2.1 ∧ RelV (.int p.2.2) q.2.2) l m) (k : MK) :
    RelO ((mval l k).map V.int) ((atKey m (nk k)).map (·.2)) := by
  induction r with
  | nil => exact True.intro
  | @cons p q ps qs hp t ih =>
    by_cases e : p.1 = k
    · have e' : q.1 = nk k := by rw [hp.1, e]
      have a : mval (p :: ps) k = some p.2.2 := by simp [mval, e]
      have b : atKey (q :: qs) (nk k) = some q.2 := by simp [atKey, List.find?_cons, e']
      rw [a, b]; exact hp.2.2
    · have e' : ¬ q.1 = nk k := fun z => e (nk_inj (hp.1.symm.trans z))
      have a : mval (p :: ps) k = mval ps k := by simp [mval, List.find?_cons, e]
      have b : atKey (q :: qs) (nk k) = atKey qs (nk k) := by simp [atKey, List.find?_cons, e']
      rw [a, b]; exact ih
end
section
variable {X : Cx}
/-- {} to be a memo -/
def tMemo0 (P : Program) (w : World) : TE := fun _ H Q => ∀ p, H p = none → Q (.ref p) (upd H p (memoO P w p []))
theorem pe_memo0 {pos : Pos} : PE X (.Dict [] [] pos) (tMemo0 X.prog X.w) := ⟨fun pins s σ H Q I h => by
  have hb : (s.heap.objs.size == sysModules) = false := beq_eq_false_iff_ne.mpr (Ne.symm (Nat.ne_of_lt I.big))
  exact wpAny_Dict_empty ⟨.ref s.heap.objs.size, _, I.laid (a := s.heap.objs.size) (o := memoO X.prog X.w s.heap.objs.size []) (t' := s.toks) (fun _ _ q => Heap.get?_push_of_some _ q) (Nat.le_refl _)
    (memoP_ok ⟨hb, [], .nil, _, #[], 0, Heap.get?_push_size _ rfl, ⟨rfl, rfl, rfl⟩, rfl, rfl, List.nodup_nil⟩), rfl, h _ (I.hok.fresh (Nat.le_refl _))⟩⟩
/-- k not in memo -/
def rMemoNot (P : Program) (w : World) : V → V → Hp → VK → Prop := fun x y H Q => ∃ b d k xs, x = .ref b ∧ y = .ref d ∧ KeyAt H b k ∧ Memo P w H d xs ∧ Q (.bl (!(mval xs k).isSome)) H
theorem op_memoNot (hu : X.A.units + 64 < cLine) : OpR X (compareOp .NotIn) (rMemoNot X.prog X.w) := by
  intro pins s σ H x y v u Q I rx ry h
  obtain ⟨b, d, k, xs, rfl, rfl, hk, hm, q⟩ := h
  cases rx
  cases ry
  obtain ⟨hd, ys, r, dd⟩ := hm.of I.hok
  refine wpAny_notIn_heap (knd := nestedKind X.prog X.w) (by show X.A.units + 1 + 8 < cLine; omega) (hk.is I.hok) hd dd ?_
  have e := (pair_val r k).isSome_eq
  rw [Option.isSome_map, Option.isSome_map] at e
  rw [← e]
  exact ⟨.bl (!(mval xs k).isSome), H, I.tok _, rfl, q⟩
/-- memo[k], there -/
def rMemoGet (P : Program) (w : World) : R2 := fun x y H Q => ∃ b d k xs v, x = .ref d ∧ y = .ref b ∧ KeyAt H b k ∧ Memo P w H d xs ∧ mval xs k = some v ∧ Q (.int v) H
def tMemoGet (P : Program) (w : World) (td ty : TE) : TE := fun σ H Q => td σ H fun x H1 => ty σ H1 fun y H2 => rMemoGet P w x y H2 Q
theorem pe_memoGet {o i : Expr} {pos : Pos} {td ty : TE} (hu : X.A.units + 64 < cLine) (ho : PE X o td) (hi : PE X i ty) (hs : NoSl i) : PE X (.Subscript o i pos) (tMemoGet X.prog X.w td ty) := by
  refine ⟨fun pins s σ H Q I h => ?_⟩
  refine subD_of PySem.F.slot_dict_getitem.lookup hs (thn (ho.run pins s σ H _ I h) fun u s1 ⟨x, H1, I1, rx, q1⟩ => thn (hi.run pins s1 σ H1 _ I1 q1) fun iv s2 ⟨y, H2, I2, ry, b, d, k, xs, v, ex, ey, hk, hm, hv, q2⟩ => ?_)
  subst ex ey
  cases rx
  cases ry
  obtain ⟨hd, ys, r, dd⟩ := hm.of I2.hok
  refine ⟨dd.typeIs, ?_⟩
  have e := pair_val r k
  rw [hv] at e
  cases ea : atKey ys (nk k) with
  | none => rw [ea] at e; exact (show False from e).elim
  | some p =>
    rw [ea] at e
    exact wpAny_getItem_heap (knd := nestedKind X.prog X.w) (by show X.A.units + 1 + 8 < cLine; omega) (hk.is I2.hok) dd ea ⟨.int v, H2, I2.tok _, e, q2⟩
/-- memo[k] = v, k not there -/
def sMemoPut (P : Program) (w : World) : TSet := fun o i v H Q => ∃ b d k xs n, o = .ref d ∧ i = .ref b ∧ v = .int n ∧ KeyAt H b k ∧ Memo P w H d xs ∧ mval xs k = none ∧ xs.length < sizeLine ∧ Q (upd H d (memoO P w d (xs ++ [(k, b, n)])))
theorem set_memo (hu : X.A.units + 64 < cLine) : PSet X (sMemoPut X.prog X.w) := by
  intro pins s σ H o i v ov iv u Q I ro ri rv h
  obtain ⟨b, d, k, xs, n, rfl, rfl, rfl, hk, hm, hv, hl, q⟩ := h
  cases ro
  cases ri
  obtain ⟨hd, ys, r, dd⟩ := hm.of I.hok
  have hl2 : ys.length ≤ sizeLine := by rw [← Paired.length r]; omega
  refine wpAny_setItem_heap (hsz := hl2) (knd := nestedKind X.prog X.w) (by show X.A.units + 1 + 8 < cLine; omega) (hk.is I.hok) dd fun h' dd' hs => ?_
  have e := (pair_val r k).isSome_eq
  rw [hv, Option.map_none, Option.isSome_none, Option.isSome_map] at e
  have est : storedH ys (nk k) b u = ys ++ [(nk k, b, u)] := by unfold storedH; rw [← e]; rfl
  rw [est] at dd'
  obtain ⟨o, es, ep, hq, h2, h3, h4, _, h5⟩ := dd'
  refine ⟨_, d_write (t' := s.toks + (nestedKind X.prog X.w).draws (nk k)) I (by rw [hm.1]; exact True.intro) hs ⟨o, hq⟩ (memoP_ok ⟨hd, ys ++ [(nk k, b, u)], Paired.snoc r ⟨rfl, rfl, rv⟩, o, es, ep, hq, h2, h3, h4, h5⟩), q⟩
/-- the memo behind a store -/
theorem Memo.put {P : Program} {w : World} {H : Hp} {d b : Addr} {xs : List (MK × Addr × Int)} {k : MK} {n : Int} (m : Memo P w H d xs) (hk : KeyAt H b k) : Memo P w (upd H d (memoO P w d (xs ++ [(k, b, n)]))) d (xs ++ [(k, b, n)]) := by
  have t : ∀ c ys, H c = some (.tup ys) → upd H d (memoO P w d (xs ++ [(k, b, n)])) c = some (.tup ys) := fun c ys e => by
    rw [upd_ne (ne_of e m.1 (fun z => nomatch z))]; exact e
  refine ⟨upd_same, fun x hx => ?_⟩
  rcases List.mem_append.mp hx with hx | hx
  · exact (m.2 x hx).keeps t
  · rw [List.mem_singleton.mp hx]; exact hk.keeps t
/-! ### {k: v}, k a tuple of ints and texts -/
def tDisp1T (tk tv : TE) : TE := fun σ H Q => ∀ p, H p = none → tk σ (upd H p (.dT [])) fun x H1 => tv σ H1 fun y H2 => H2 p = some (.dT []) ∧ ∃ b k, x = .ref b ∧ H2 b = some (.tup (k.map kV)) ∧ Q (.ref p) (upd H2 p (.dT [(k, y)]))
theorem pe_disp1T {pos : Pos} {k v : Expr} {tk tv : TE} (hu : X.A.units + 1 < cLine) (hk : PE X k tk) (hv : PE X v tv)
    (hs : (evalEachOpt [some k] X.env).zip ((evalEach [v] X.env).map fun v => do let x ← v; standAt pos; pure x) = (pairTrees [some k] [v] X.env pos).map fun p => (some p.1, p.2) := by rfl)
    (h0 : pairTrees [some k] [v] X.env pos ≠ [] := by exact List.cons_ne_nil _ _) (h1 : (pairTrees [some k] [v] X.env pos).length = 1 := by rfl) : PE X (.Dict [some k] [v] pos) (tDisp1T tk tv) := by
  refine ⟨fun pins s σ H Q I q => ?_⟩
  have hn := I.hok.fresh (Nat.le_refl s.heap.objs.size)
  have I1 := I.laid (a := s.heap.objs.size) (o := .dT []) (h' := s.heap.push { cls := .type "dict", data := .dict #[] }) (t' := s.toks) (fun _ _ q => Heap.get?_push_of_some _ q) (Nat.le_refl _) (dt_empty s.heap I.big)
  have hu' : (tupleKind (mixKind X.prog X.w)).room X.A := by show X.A.units < cLine; omega
  rw [arm_eval_Dict, hs, dictDisplay_pairs _ h0 (by rw [h1]; decide)]
  refine wpAny_bind (wpAny_standAt (wpAny_bind (wpAny_subDictH (knd := tupleKind (mixKind X.prog X.w)) (Q := fun a s' => wpAny (model X.prog X.w) X.A (pure (Value.ref a)) (EP X pins σ Q) X.xe s') hu' (by rw [h1]; decide) ?_)))
  refine pairTrees_cons_walk (thn (hk.run pins _ σ _ _ I1 (q _ hn)) fun u s1 ⟨x, H1, J1, rx, q1⟩ => thn (hv.run pins s1 σ H1 _ J1 q1) fun w2 s2 ⟨y, H2, I2, ry, e, b, kk, ex, hb, q2⟩ => pairTrees_nil_walk ?_)
  subst ex
  cases rx
  obtain ⟨z, hd, xs0, r0, dd⟩ := dt_of I2.hok e
  cases r0
  refine ⟨[(kk, b, w2)], ⟨rfl, rfl, key_of I2.hok hb, trivial⟩, dd, fun h' tk dd' hs => wpAny_pure ?_⟩
  obtain ⟨o, es, ep, hq, h2, h3, h4, _, h5⟩ := dd'
  refine ⟨.ref s.heap.objs.size, upd H2 s.heap.objs.size (.dT [(kk, y)]), d_write (ob := .dT [(kk, y)]) (t' := tk) I2 (by rw [e]; exact True.intro) hs ⟨o, hq⟩ ⟨by show 1 ≤ sizeLine; decide, hd, [(kk, b, w2)], .cons ⟨rfl, ?_, ry⟩ .nil, o, es, ep, hq, h2, h3, h4, h5⟩, rfl, q2⟩
  show upd H2 s.heap.objs.size (.dT [(kk, y)]) b = some (.tup (kk.map kV))
  rw [upd_ne (ne_of hb e (fun z => nomatch z))]
  exact hb
end
end K28
set_option Elab.async false
set_option linter.all false
set_option maxRecDepth 100000
set_option maxHeartbeats 8000000
/-! number_above, count_above. -/
namespace K28
open PySem PySem.Spec PyProof.Rows L2
theorem dones_snoc (due : List Int) (T : List (S5 × Nat)) (i : Nat) (p : S5 × Nat) (h : T[i]? = some p) : dones due (T.take (i + 1)) = dones due (T.take i) ++ (if done due p.1 = true then [p.2] else []) := by
  unfold dones
  rw [List.take_add_one, h, List.filter_append, List.map_append]
  refine congrArg (fun z => _ ++ z) ?_
  show ([p].filter fun p => done due p.1).map (·.2) = _
  have e2 : ([p].filter fun p => done due p.1) = if done due p.1 = true then [p] else [] := by
    by_cases e : done due p.1 = true
    · rw [if_pos e]; simp [e]
    · rw [if_neg e]; simp [e]
  rw [e2]
  split <;> rfl
theorem SqL_lock {K : PySem.W.Frag} {H : Hp} {a d : Addr} {xs : List V} {kvs : List (List Key × V)} {od : Obj} (h : SqL K H a xs) (hd : H d = some (.dT kvs)) : SqL K (upd H d (.frz od (.dT kvs))) a xs :=
  h.elim (fun z => .inl (z.elim (fun e => .inl (by rw [upd_ne (fun y => by rw [y, hd] at e; cases e)]; exact e)) fun ⟨o, e⟩ => .inr ⟨o, by rw [upd_ne (fun y => by rw [y, hd] at e; cases e)]; exact e⟩)) .inr
theorem sum_cast : ∀ l : List Nat, (l.map fun n : Nat => (n : Int)).sum = ((l.sum : Nat) : Int)
  | [] => rfl
  | n :: l => by rw [List.map_cons, List.sum_cons, sum_cast l, List.sum_cons, Int.natCast_add]
section
variable {P : Program} {w : World} {K : PySem.W.Frag} {mg : Str → Option Value} {base : Heap} {t1 t2 t3 t4 t5 : Tok}
def spNumber (K : PySem.W.Frag) : Sp := fun vs H Q _ => ∃ (a : Addr) (due : List Int) (n : Nat), vs = [.ref a, .int (n : Int)] ∧ SqL K H a (due.map V.int) ∧ due.length ≤ 11 ∧ n ≤ 9 ∧ ∀ H', Same H H' → Q (.int ((acc due n).length : Nat)) H'
theorem ok_number {f f1 f2 f3 : Addr} {fd d1 d2 d3 : FuncData} {k : Nat} (F : Fun K "number_above" "number_above" dNumberAbove f fd) (G : Gb mg t1 t2 t3 t4 t5)
    (G1 : FnOk P w K mg base CX0 k f1 d1 [] spBegin) (k1 : PySem.W.keepIn K (.ref f1) = true) (b1 : Binds K d1 [] []) (m1 : mg "begin_state" = some (.ref f1))
    (G2 : FnOk P w K mg base CX0 k f2 d2 ["due", "states"] (spGrow K)) (k2 : PySem.W.keepIn K (.ref f2) = true) (b2 : Binds K d2 ["due", "states"] []) (m2 : mg "grow" = some (.ref f2))
    (G3 : FnOk P w K mg base CX0 k f3 d3 ["due", "state"] (spDone K)) (k3 : PySem.W.keepIn K (.ref f3) = true) (b3 : Binds K d3 ["due", "state"] []) (m3 : mg "is_done" = some (.ref f3)) :
    FnOk P w K mg base CX0 (k + 1) f fd ["due", "many"] (spNumber K) := by
  refine F.ok scNumberAbove (fun vs H Q E h => ?_) (fun cdv A outer s H vs Q E hr h => ?_)
  · obtain ⟨a, u, n, rfl, _⟩ := h; rfl
  · obtain ⟨a, due, n, rfl, ha, hl, hn, q⟩ := h
    have nd := scNumberAbove.nd
    have hu := hu_of hr
    refine ⟨_, pss_cons (ps_set (i := 2) nd rfl (.inl rfl) (pe_disp1T hu (pe_call0 G1 hr (by rfl) m1 k1 b1 .nil pass0) pe_int))
      (pss_cons (ps_for PassesOwn.never rfl (pi_range1 (by rfl) G.range_ (pa_cons (pv 1) pa_nil)) (pg_name (i := 3) nd rfl (.inl rfl))
        (pss_one (ps_set (i := 2) nd rfl (.inl rfl) (pe_call G2 hr (by rfl) m2 k2 b2 .nil pass0 (pa_cons (pv 0) (pa_cons (pv 2) pa_nil))))))
      (pss_one (ps_ret (pe_callB (cr_sum rfl) (by rfl) G.sum_ (by decide +kernel) (pa_cons (pe_lock (pe_lc (own := [("state", 4), ("times", 5)]) (g := gTup K 2 (gCons (gName 4) (gCons (gName 5) gNil))) rfl nd
        (pi_itemsT (pv 2)) (blkOk_by (N := ["due", "many", "states", "turn", "state", "times"]) (sc := defScope dNumberAbove) (by decide +kernel))
        (fun _ _ _ _ _ => pg_tup rfl (pgs_cons (pg_name (i := 4) nd rfl (.inl rfl)) (pgs_cons (pg_name (i := 5) nd rfl (.inl rfl)) pgs_nil)))
        (fun _ _ _ _ _ => pts_one (pt_val (pe_call G3 hr (by rfl) m3 k3 b3 .nil pass0 (pa_cons (pv 0) (pa_cons (pv 4) pa_nil)))))
        (fun _ _ _ _ _ => pv 5))) pa_nil))))), ?_⟩
    refine fun p np => ⟨rfl, fun q1 nq1 => ?_⟩
    refine ⟨by rw [upd_ne (ne_of_none upd_same nq1)]; exact upd_same, q1, enc s0, rfl, upd_same, ?_⟩
    have e0 : (upd (upd (upd H p (.dT [])) q1 (.tup (s5V s0))) p (.dT [(enc s0, .int 1)])) p = some (.dT (tabD (tabs due 0))) := by rw [upd_same]; rfl
    have nq0 : H q1 = none := (same_upd np).free nq1
    have sm0 : Same H (upd (upd (upd H p (.dT [])) q1 (.tup (s5V s0))) p (.dT [(enc s0, .int 1)])) := same_ext ((same_upd np).trans (same_upd nq1)) np
    generalize upd (upd (upd H p (.dT [])) q1 (.tup (s5V s0))) p (.dT [(enc s0, .int 1)]) = H0 at e0 sm0 ⊢
    refine ⟨_, rfl, _, rfl, by omega, by omega, ?_⟩
    rw [Int.toNat_natCast]
    refine for_range (fun i σ H' => ∃ d y3, σ = [some (.ref a), some (.int (n : Int)), some (.ref d), y3, none, none] ∧ Same H H' ∧ H' d = some (.dT (tabD (tabs due i)))) ⟨p, none, rfl, sm0, e0⟩ (fun i σ H1 hi hP => ?_) (fun σ H1 hP => ?_)
    · obtain ⟨d, y3, rfl, sm, hd⟩ := hP
      have hT : (tabs due i).length ≤ 256 := Nat.le_trans (tabs_ok i).2 (Nat.le_trans (Nat.pow_le_pow_right (by decide) (by omega : i ≤ 8)) (by decide))
      exact ⟨_, rfl, _, rfl, a, d, due, tabs due i, rfl, SqL_same ha sm, hl, hd, hT, fun H2 r sm2 _ hr2 => ⟨r, _, rfl, sm.trans sm2, hr2⟩⟩
    · obtain ⟨d, y3, rfl, sm, hd⟩ := hP
      refine ⟨d, .dT (tabD (tabs due n)), hd, trivial, fun od => ?_⟩
      refine ⟨_, rfl, d, od, tabD (tabs due n), rfl, upd_same, fun D nD => lc_it walk_P (fun i H' => Same (upd H1 d (.frz od (.dT (tabD (tabs due n))))) H' ∧ H' D = some (.lst ((dones due ((tabs due n).take i)).map fun n : Nat => V.int (n : Int))))
        ⟨same_upd nD, upd_same⟩ (fun i H2 _ hP => hP.1 _ _ upd_same) (fun i x H2 H3 hi hP hY => ?_) (fun H2 hP => ?_)⟩
      · obtain ⟨sm1, hD⟩ := hP
        obtain ⟨T', x1, x2, rfl, nT', rfl, kk, q', hk, rfl, hq'⟩ := hY
        have hk2 : ((tabs due n).map fun p => (enc p.1, V.int (p.2 : Int)))[i]? = some (kk, x2) := hk
        rw [List.getElem?_map] at hk2
        obtain ⟨⟨s1, m⟩, epp, ex⟩ := Option.map_eq_some_iff.mp hk2
        cases ex
        have hs1 : H2 q' = some (.tup (s5V s1)) := hq'
        have sm2 := sm1.trans (same_upd (o := .tup [.ref q', .int (m : Int)]) nT')
        have hD2 : (upd H2 T' (.tup [.ref q', .int (m : Int)])) D = some (.lst ((dones due ((tabs due n).take i)).map fun n : Nat => V.int (n : Int))) := by rw [upd_ne (ne_of_none hD nT')]; exact hD
        refine g_pair ⟨rfl, ?_⟩
        refine ⟨_, rfl, _, rfl, a, q', due, s1, rfl, SqL_same (SqL_lock (SqL_same ha sm) hd) sm2, SqT.of (by rw [upd_ne (ne_of_none hs1 nT')]; exact hs1), _, rfl, ?_⟩
        have es := dones_snoc due (tabs due n) i (s1, m) epp
        refine ite2 (fun c => ?_) (fun c => ?_)
        · have c' : done due s1 = true := c
          rw [if_pos c'] at es
          refine ⟨_, rfl, _, hD2, ?_, same_ext sm2 nD, ?_⟩
          · rw [List.length_map]
            have h1 : (dones due ((tabs due n).take i)).length ≤ (tabs due n).length := by
              unfold dones
              rw [List.length_map]
              exact Nat.le_trans (List.length_filter_le _ _) (by rw [List.length_take]; exact Nat.min_le_right _ _)
            have h2 : (tabs due n).length ≤ 512 := Nat.le_trans (tabs_ok n).2 (Nat.le_trans (Nat.pow_le_pow_right (by decide) hn) (by decide))
            exact small1000 (by omega)
          · rw [upd_same, es, List.map_append]
            rfl
        · have c' : ¬ done due s1 = true := c
          rw [if_neg c', List.append_nil] at es
          refine ⟨sm2, ?_⟩
          rw [es]
          exact hD2
      · obtain ⟨sm1, hD⟩ := hP
        have et : (tabs due n).take (tabD (tabs due n)).length = tabs due n := List.take_of_length_le (by rw [tabD_len]; exact Nat.le_refl _)
        rw [et] at hD
        refine ⟨sm1 _ _ upd_same, D, (dones due (tabs due n)).map fun n : Nat => (n : Int), rfl, SqL.of ?_, ?_⟩
        · rw [upd_ne (fun z => by rw [z] at nD; rw [upd_same] at nD; cases nD), hD, List.map_map]
          rfl
        · rw [sum_cast, number]
          exact q _ (sm.trans (same_unlock hd sm1))
end
end K28
set_option Elab.async false
set_option linter.all false
set_option maxRecDepth 100000
set_option maxHeartbeats 8000000
/-! count_above. -/
namespace K28
open PySem PySem.Spec PyProof.Rows L2
section
variable {P : Program} {w : World} {K : PySem.W.Frag} {mg : Str → Option Value} {base : Heap} {t1 t2 t3 t4 t5 : Tok}
def spCount : Sp := fun vs H Q _ => ∃ (f : Int) (u : List Int) (n : Nat), vs = [.str (W f u), .int ((n : Int) + 1)] ∧ 0 ≤ f ∧ f < 3 ∧ PM u ∧ 1 ≤ u.length ∧ u.length ≤ 11 ∧ 1 ≤ n ∧ n ≤ 9 ∧ ∀ H', Same H H' → Q (.int ((acc u n).length : Nat)) H'
theorem ok_count {f f1 f2 f3 : Addr} {fd d1 d2 d3 : FuncData} {k : Nat} (F : Fun K "count_above" "count_above" dCountAbove f fd) (G : Gb mg t1 t2 t3 t4 t5)
    (G1 : FnOk P w K mg base CX0 k f1 d1 ["word", "size"] spNeedBase) (k1 : PySem.W.keepIn K (.ref f1) = true) (b1 : Binds K d1 ["word", "size"] []) (m1 : mg "need_base" = some (.ref f1))
    (G2 : FnOk P w K mg base CX0 k f2 d2 ["word"] spStepsOf) (k2 : PySem.W.keepIn K (.ref f2) = true) (b2 : Binds K d2 ["word"] []) (m2 : mg "steps_of" = some (.ref f2))
    (G3 : FnOk P w K mg base CX0 k f3 d3 ["due", "many"] (spNumber K)) (k3 : PySem.W.keepIn K (.ref f3) = true) (b3 : Binds K d3 ["due", "many"] []) (m3 : mg "number_above" = some (.ref f3)) :
    FnOk P w K mg base CX0 (k + 1) f fd ["word", "size"] spCount := by
  refine F.ok scCountAbove (fun vs H Q E h => ?_) (fun cdv A outer s H vs Q E hr h => ?_)
  · obtain ⟨a, u, n, rfl, _⟩ := h; rfl
  · obtain ⟨a, u, n, rfl, h0, h3, pm, hl1, hl2, hn1, hn2, q⟩ := h
    refine ⟨_, pss_cons (ps_expr (pe_call G1 hr (by rfl) m1 k1 b1 .nil pass0 (pa_cons (pv 0) (pa_cons (pv 1) pa_nil))))
      (pss_one (ps_ret (pe_call G3 hr (by rfl) m3 k3 b3 .nil pass0 (pa_cons (pe_call G2 hr (by rfl) m2 k2 b2 .nil pass0 (pa_cons (pv 0) pa_nil)) (pa_cons (pe_op op_sub (pv 1) pe_int) pa_nil))))), ?_⟩
    refine ⟨_, rfl, _, rfl, a, u, (n : Int) + 1, rfl, h0, h3, pm, hl1, hl2, by omega, by omega, fun H1 s1 => ?_⟩
    refine ⟨_, rfl, a, u, rfl, h0, h3, pm, by omega, fun H2 p s2 np hp => ?_⟩
    refine ⟨_, rfl, _, _, rfl, rfl, p, u, n, ?_, SqL.of hp, hl2, hn2, fun H3 s3 => q H3 (s1.trans (s2.trans s3))⟩
    show [V.ref p, V.int ((n : Int) + 1 - 1)] = _
    rw [Int.add_sub_cancel]
end
end K28
set_option Elab.async false
set_option linter.all false
set_option maxRecDepth 100000
set_option maxHeartbeats 8000000
/-! left_of. -/
namespace K28
open PySem PySem.Spec PyProof.Rows L2
def sInts (s : S5) : List Int := [(s.m : Int), (s.t : Int), (s.a : Int), s.l, s.w]
theorem sInts_V (s : S5) : (sInts s).map V.int = s5V s := rfl
theorem sInts_inj {s t : S5} (h : sInts s = sInts t) : s = t := by
  obtain ⟨m, u, a, l, w⟩ := s
  obtain ⟨m', u', a', l', w'⟩ := t
  injection h with h1 h; injection h with h2 h; injection h with h3 h; injection h with h4 h; injection h with h5 h
  have e1 := Int.ofNat.inj h1
  have e2 := Int.ofNat.inj h2
  have e3 := Int.ofNat.inj h3
  subst e1 e2 e3 h4 h5
  rfl
/-- every number kept is the right one -/
def MemoOk (due : List Int) (xs : List (MK × Addr × Int)) : Prop := ∀ x ∈ xs, ∀ (s : S5) (m : Nat), x.1 = (sInts s, (m : Int)) → x.2.2 = ((L due s m : Nat) : Int)
def SameX (d : Addr) (H H' : Hp) : Prop := ∀ b o, b ≠ d → H b = some o → H' b = some o
theorem sameX {d : Addr} {H H' : Hp} (s : Same H H') : SameX d H H' := fun b o _ e => s b o e
theorem SameX.trans {d : Addr} {H H1 H2 : Hp} (a : SameX d H H1) (b : SameX d H1 H2) : SameX d H H2 := fun c o h e => b c o h (a c o h e)
theorem Memo_same {P : Program} {w : World} {H H' : Hp} {d : Addr} {xs : List (MK × Addr × Int)} (m : Memo P w H d xs) (s : Same H H') : Memo P w H' d xs :=
  ⟨s _ _ m.1, fun x hx => (m.2 x hx).keeps fun c ys e => s _ _ e⟩
theorem mval_ne {xs : List (MK × Addr × Int)} {k k' : MK} {b : Addr} {v : Int} (h : k ≠ k') : mval (xs ++ [(k, b, v)]) k' = mval xs k' := by
  unfold mval
  rw [List.find?_append]
  cases e : xs.find? fun x => decide (x.1 = k') with
  | some y => rfl
  | none =>
    show ((none : Option (MK × Addr × Int)).or ([(k, b, v)].find? fun x => decide (x.1 = k'))).map (·.2.2) = none
    simp [h]
theorem neg_pow2 (m : Nat) : 2 ^ (m + 1) = 2 ^ m + 2 ^ m := by rw [Nat.pow_succ]; omega
section
variable {P : Program} {w : World} {K : PySem.W.Frag} {mg : Str → Option Value} {base : Heap} {t1 t2 t3 t4 t5 : Tok}
def spLeft (P : Program) (w : World) (K : PySem.W.Frag) (N : Nat) : Sp := fun vs H Q _ => ∃ (d a b : Addr) (due : List Int) (s : S5) (m : Nat) (xs : List (MK × Addr × Int)), vs = [.ref d, .ref a, .ref b, .int (m : Int)] ∧ m < N ∧
  SqL K H a (due.map V.int) ∧ due.length ≤ 11 ∧ H b = some (.tup (s5V s)) ∧ Memo P w H d xs ∧ MemoOk due xs ∧ xs.length + 2 ^ m ≤ 10000 ∧
  ∀ H' xs', SameX d H H' → Memo P w H' d xs' → MemoOk due xs' → xs'.length + 1 ≤ xs.length + 2 ^ m → (∀ k : MK, (m : Int) < k.2 → mval xs' k = mval xs k) → Q (.int (L due s m : Nat)) H'
theorem SqL_x {K : PySem.W.Frag} {H H' : Hp} {a d : Addr} {ys : List V} {xs : List (MK × Addr × Int)} (h : SqL K H a ys) (m : Memo P w H d xs) (s : SameX d H H') : SqL K H' a ys :=
  h.elim (fun z => .inl (z.elim (fun e => .inl (s _ _ (ne_of e m.1 (fun z => nomatch z)) e)) fun ⟨o, e⟩ => .inr ⟨o, s _ _ (ne_of e m.1 (fun z => nomatch z)) e⟩)) .inr
theorem ok_left {f f1 f3 : Addr} {fd d1 d3 : FuncData} {k0 : Nat} (F : Fun K "left_of" "left_of" dLeftOf f fd) (G : Gb mg t1 t2 t3 t4 t5)
    (k2 : PySem.W.keepIn K (.ref f) = true) (b2 : Binds K fd ["known", "due", "state", "many"] []) (m2 : mg "left_of" = some (.ref f))
    (G1 : FnOk P w K mg base CX0 k0 f1 d1 ["due", "state", "step"] (spReadStep K)) (k1 : PySem.W.keepIn K (.ref f1) = true) (b1 : Binds K d1 ["due", "state", "step"] []) (m1 : mg "read_step" = some (.ref f1))
    (G3 : FnOk P w K mg base CX0 k0 f3 d3 ["due", "state"] (spDone K)) (k3 : PySem.W.keepIn K (.ref f3) = true) (b3 : Binds K d3 ["due", "state"] []) (m3 : mg "is_done" = some (.ref f3)) :
    ∀ N : Nat, FnOk P w K mg base CX0 (k0 + N) f fd ["known", "due", "state", "many"] (spLeft P w K N)
  | 0 => ⟨fun vs H Q E h => by obtain ⟨d, a, b, due, s, m, xs, rfl, h, _⟩ := h; rfl, fun A outer s H args us vs Q E hr he hb hv h => by obtain ⟨d, a, b, due, s, m, xs, rfl, h, _⟩ := h; exact absurd h (Nat.not_lt_zero _)⟩
  | N + 1 => by
    have G2 := ok_left F G k2 b2 m2 G1 k1 b1 m1 G3 k3 b3 m3 N
    refine F.ok scLeftOf (fun vs H Q E h => ?_) (fun cdv A outer sh H vs Q E hr h => ?_)
    · obtain ⟨d, a, b, due, s, m, xs, rfl, _⟩ := h; rfl
    · obtain ⟨d, a, b, due, s, m, xs, rfl, hm, ha, hl, hb, memo, ok, hlen, q⟩ := h
      have nd := scLeftOf.nd
      have hu := hr.units
      refine ⟨_, pss_cons (ps_if (pt_cmpR op_eq (pv 3) pe_int (nomark _)) (pss_one (ps_ret (pe_ifExp (pt_val (pe_call (G3.mono (Nat.le_add_right _ _)) hr (by rfl) m3 k3 b3 .nil pass0 (pa_cons (pv 1) (pa_cons (pv 2) pa_nil)))) pe_int pe_int))) pss_nil)
        (pss_cons (ps_set (i := 4) nd rfl (.inl rfl) (pe_tup (pa_cons (pv 2) (pa_cons (pv 3) pa_nil))))
        (pss_cons (ps_if (pt_cmpR (op_memoNot hu) (pv 4) (pv 0) (by rfl))
          (pss_one (ps_asg (pe_callB (cr_sum rfl) (by rfl) G.sum_ (by decide +kernel) (pa_cons (pe_lc (own := [("step", 5)]) (g := gName 5) (tt := tYes) rfl nd
            (pi_tup (pe_tup (pa_cons pe_int (pa_cons (pe_un un_neg pe_int) pa_nil)))) (blkOk_by (N := ["known", "due", "state", "many", "key", "step"]) (sc := defScope dLeftOf) (by decide +kernel))
            (fun _ _ _ _ _ => pg_name (i := 5) nd rfl (.inl rfl)) (fun _ _ _ _ _ => pts_nil)
            (fun _ _ _ _ _ => pe_call G2 hr (by rfl) m2 k2 b2 .nil pass0 (pa_cons (pv 0) (pa_cons (pv 1) (pa_cons (pe_call (G1.mono (Nat.le_add_right _ _)) hr (by rfl) m1 k1 b1 .nil pass0 (pa_cons (pv 1) (pa_cons (pv 2) (pa_cons (pv 5) pa_nil)))) (pa_cons (pe_op op_sub (pv 3) pe_int) pa_nil)))))) pa_nil))
            (pg_sub (pv 0) (pv 4) (set_memo hu)))) pss_nil)
        (pss_one (ps_ret (pe_memoGet hu (pv 0) (pv 4) (fun _ _ => rfl)))))), ?_⟩
      refine ⟨_, rfl, rfl, _, rfl, dE (fun c => ?_) (fun c => ?_)⟩
      · have em : (m : Int) = 0 := V.int.inj c
        have em2 : m = 0 := by omega
        subst em2
        refine ⟨_, rfl, _, rfl, a, b, due, s, rfl, ha, SqT.of hb, _, rfl, ?_⟩
        have q1 := q H xs (fun _ _ _ e => e) memo ok (by omega) (fun _ _ => rfl)
        have e0 : L due s 0 = if done due s = true then 1 else 0 := rfl
        rw [e0] at q1
        refine ite2 (fun z => ?_) (fun z => ?_)
        · have z' : done due s = true := z
          rw [if_pos z'] at q1
          exact q1
        · have z' : ¬ done due s = true := z
          rw [if_neg z'] at q1
          exact q1
      · obtain ⟨m', rfl⟩ : ∃ m', m = m' + 1 := ⟨m - 1, by have : (m : Int) ≠ 0 := fun z => c (congrArg V.int z); omega⟩
        refine ⟨_, rfl, _, rfl, (by show 2 ≤ sizeLine; decide), fun kb nkb => ?_⟩
        have s1 : Same H (upd H kb (.tup [.ref b, .int ((m' + 1 : Nat) : Int)])) := same_upd nkb
        have hkb : (upd H kb (.tup [.ref b, .int ((m' + 1 : Nat) : Int)])) kb = some (.tup [.ref b, .int ((m' + 1 : Nat) : Int)]) := upd_same
        generalize upd H kb (.tup [.ref b, .int ((m' + 1 : Nat) : Int)]) = H1 at s1 hkb ⊢
        have memo1 := Memo_same memo s1
        have hb1 := s1 _ _ hb
        have key1 : KeyAt H1 kb (sInts s, ((m' + 1 : Nat) : Int)) := ⟨b, hkb, hb1⟩
        refine ⟨_, rfl, _, rfl, kb, d, (sInts s, ((m' + 1 : Nat) : Int)), xs, rfl, rfl, key1, memo1, _, rfl, ?_⟩
        cases ev : mval xs (sInts s, ((m' + 1 : Nat) : Int)) with
        | some v =>
          refine iteF ⟨_, rfl, _, rfl, kb, d, _, xs, v, rfl, rfl, key1, memo1, ev, ?_⟩
          obtain ⟨bb, hmem⟩ := mval_mem ev
          rw [show v = _ from ok _ hmem s (m' + 1) rfl]
          exact q H1 xs (sameX s1) memo1 ok (by have := Nat.two_pow_pos (m' + 1); omega) (fun _ _ => rfl)
        | none =>
          refine iteT ⟨1, rfl, (by show 2 ≤ sizeLine; decide), fun pt npt => ⟨pt, rfl, ⟨_, SqT.of upd_same⟩, fun D nD => ?_⟩⟩
          have npd : pt ≠ d := (ne_of_none memo1.1 npt).symm
          have nDd : D ≠ d := (ne_of_none ((same_upd npt) _ _ memo1.1) nD).symm
          refine lc_tup (xs := [.int 1, .int (-1)]) (fun i H' => SameX d H1 H' ∧ H' pt = some (.tup [.int 1, .int (-1)]) ∧
            H' D = some (.lst ((([1, -1] : List Int).take i).map fun x => V.int (L due (rs due s x) m' : Nat))) ∧ ∃ xs', Memo P w H' d xs' ∧ MemoOk due xs' ∧ xs'.length + i ≤ xs.length + i * 2 ^ m' ∧ (∀ k : MK, (m' : Int) < k.2 → mval xs' k = mval xs k))
            ⟨sameX ((same_upd npt).trans (same_upd nD)), ?_, upd_same, xs, Memo_same memo1 ((same_upd npt).trans (same_upd nD)), ok, by omega, fun _ _ => rfl⟩ (fun i H' _ hP => SqT.of hP.2.1) (fun i x H2 hx hP => ?_) (fun H2 hP => ?_)
          · rw [upd_ne (ne_of_none upd_same nD)]
            exact upd_same
          · obtain ⟨sx, hpt, hD, xs', memo2, ok2, len2, old2⟩ := hP
            have hx2 : (([1, -1] : List Int).map V.int)[i]? = some x := hx
            rw [List.getElem?_map] at hx2
            obtain ⟨c', ec, ex⟩ := Option.map_eq_some_iff.mp hx2
            subst ex
            have hi : i < 2 := (List.getElem?_eq_some_iff.mp ec).1
            have p0 := neg_pow2 m'
            have mul1 : i * 2 ^ m' ≤ 2 ^ m' := by
              have : i ≤ 1 := by omega
              exact Nat.le_trans (Nat.mul_le_mul_right _ this) (by omega)
            have ax := SqL_x (SqL_same ha s1) memo1 sx
            have bx := sx _ _ (ne_of hb1 memo1.1 (fun z => nomatch z)) hb1
            refine ⟨rfl, _, rfl, _, rfl, _, rfl, _, rfl, _, rfl, a, b, due, s, c', rfl, ax, SqT.of bx, hl, fun H3 r sm nr hr1 => ?_⟩
            have memo3 := Memo_same memo2 sm
            have hD3 := sm _ _ hD
            refine ⟨_, rfl, _, _, rfl, rfl, d, a, r, due, rs due s c', m', xs', ?_, by omega, SqL_same ax sm, hl, hr1, memo3, ok2, by omega, fun H4 xs4 sx4 memo4 ok4 len4 old4 => ?_⟩
            · show [V.ref d, V.ref a, V.ref r, V.int (((m' + 1 : Nat) : Int) - 1)] = _
              rw [show ((m' + 1 : Nat) : Int) - 1 = (m' : Int) by omega]
            · have hD4 := sx4 _ _ nDd hD3
              refine ⟨_, hD4, ?_, ?_, ?_, ?_, xs4, ?_, ok4, ?_, fun k hk => (old4 k hk).trans (old2 k hk)⟩
              · rw [List.length_map, List.length_take]
                simp only [List.length_cons, List.length_nil]
                exact small1000 (by omega)
              · intro b2 o hb2 e2
                have e3 := sx4 _ _ hb2 (sm _ _ (sx _ _ hb2 e2))
                have hne : b2 ≠ D := ne_of_none ((same_upd npt) _ _ e2) nD
                rw [upd_ne hne]
                exact e3
              · have e3 := sx4 _ _ npd (sm _ _ hpt)
                rw [upd_ne (ne_of e3 hD4 (fun z => nomatch z))]
                exact e3
              · rw [upd_same, List.take_add_one, ec, List.map_append]
                rfl
              · refine ⟨by rw [upd_ne nDd.symm]; exact memo4.1, fun x hx => (memo4.2 x hx).keeps fun c2 ys e => ?_⟩
                rw [upd_ne (ne_of e hD4 (fun z => nomatch z))]
                exact e
              · have : (i + 1) * 2 ^ m' = i * 2 ^ m' + 2 ^ m' := by rw [Nat.add_mul, Nat.one_mul]
                omega
          · obtain ⟨sx, hpt, hD, xs', memo2, ok2, len2, old2⟩ := hP
            have sl : SqL K H2 D (([((L due (rs due s 1) m' : Nat) : Int), ((L due (rs due s (-1)) m' : Nat) : Int)] : List Int).map V.int) := SqL.of hD
            have key2 : KeyAt H2 kb (sInts s, ((m' + 1 : Nat) : Int)) := ⟨b, sx _ _ (ne_of hkb memo1.1 (fun z => nomatch z)) hkb, sx _ _ (ne_of hb1 memo1.1 (fun z => nomatch z)) hb1⟩
            have esum : ([((L due (rs due s 1) m' : Nat) : Int), ((L due (rs due s (-1)) m' : Nat) : Int)] : List Int).sum = ((L due s (m' + 1) : Nat) : Int) := by
              have e0 : L due s (m' + 1) = L due (rs due s 1) m' + L due (rs due s (-1)) m' := rfl
              rw [e0]
              simp only [List.sum_cons, List.sum_nil]
              omega
            have p0 := neg_pow2 m'
            have hnone : mval xs' (sInts s, ((m' + 1 : Nat) : Int)) = none := (old2 _ (by show (m' : Int) < ((m' + 1 : Nat) : Int); omega)).trans ev
            have len3 : xs'.length + 2 ≤ xs.length + 2 * 2 ^ m' := len2
            refine ⟨D, _, rfl, sl, _, rfl, _, rfl, kb, d, _, xs', _, rfl, rfl, rfl, key2, memo2, hnone, ?_, ?_⟩
            · exact Nat.lt_of_le_of_lt (by omega : xs'.length ≤ 10000) (by decide)
            · rw [esum]
              have memo3 := memo2.put (n := ((L due s (m' + 1) : Nat) : Int)) key2
              have key3 : KeyAt (upd H2 d (memoO P w d (xs' ++ [((sInts s, ((m' + 1 : Nat) : Int)), kb, ((L due s (m' + 1) : Nat) : Int))]))) kb (sInts s, ((m' + 1 : Nat) : Int)) := memo3.2 _ (List.mem_append_right _ (List.mem_singleton.mpr rfl))
              refine ⟨_, rfl, _, rfl, kb, d, _, _, _, rfl, rfl, key3, memo3, mval_append hnone, ?_⟩
              refine q _ _ (fun b2 o hb2 e2 => ?_) memo3 ?_ ?_ (fun k hk => ?_)
              · rw [upd_ne hb2]
                exact sx _ _ hb2 (s1 _ _ e2)
              · intro x hx s2 m2 e2
                rcases List.mem_append.mp hx with hx | hx
                · exact ok2 x hx s2 m2 e2
                · have ex := List.mem_singleton.mp hx
                  subst ex
                  have e3 : sInts s = sInts s2 := congrArg Prod.fst e2
                  have e4 : ((m' + 1 : Nat) : Int) = (m2 : Int) := congrArg Prod.snd e2
                  have e5 := sInts_inj e3
                  have e6 : m' + 1 = m2 := by omega
                  subst e5 e6
                  rfl
              · rw [List.length_append]
                simp only [List.length_cons, List.length_nil]
                omega
              · rw [mval_ne (fun z => by rw [← z] at hk; exact absurd hk (Int.lt_irrefl _))]
                exact old2 k (by omega)
end
end K28
set_option Elab.async false
set_option linter.all false
set_option maxRecDepth 100000
set_option maxHeartbeats 4000000
/-! Sets of keys carried by value (any kind), made of a list and sorted; sorted texts in any number. -/
namespace K28
open PySem PySem.Spec PyProof.Rows L2
theorem paired_perm {α β : Type} {R : α → β → Prop} {l l' : List α} (p : l'.Perm l) : ∀ {m : List β}, Paired R l m → ∃ m' : List β, m'.Perm m ∧ Paired R l' m' := by
  induction p with
  | nil => intro m r; exact ⟨m, .refl _, r⟩
  | cons x _ ih =>
    intro m r
    cases r with
    | cons h t =>
      obtain ⟨m', q, t'⟩ := ih t
      exact ⟨_, q.cons _, .cons h t'⟩
  | swap x y l =>
    intro m r
    cases r with
    | cons h t =>
      cases t with
      | cons h2 t2 => exact ⟨_, .swap _ _ _, .cons h2 (.cons h t2)⟩
  | trans _ _ ih1 ih2 =>
    intro m r
    obtain ⟨m1, q1, r1⟩ := ih2 r
    obtain ⟨m2, q2, r2⟩ := ih1 r1
    exact ⟨m2, q2.trans q1, r2⟩
section
variable {P : Program} {w : World} {κ : Type} [DecidableEq κ] {knd : PySem.KeyKind P w κ}
/-- the entry e is the key k -/
def Ent (knd : PySem.KeyKind P w κ) (e : Int × Value) (k : κ) : Prop := knd.is k e.2 = true ∧ e.1 = knd.hash k ∧ e.2.scannable = true
/-- at a stands a set of the keys ks -/
def SetG (knd : PySem.KeyKind P w κ) (h : Heap) (a : Addr) (ks : List κ) : Prop :=
  ∃ o es ep t ls, h.get? a = some o ∧ o.ExactSet ∧ o.data = .set es ep t ∧ Paired (Ent knd) es.toList ls ∧ ls.Perm ks ∧ ks.Nodup ∧ es.size < scanBound ∧ t.fits es.size = true ∧ Ris t.place.toList ∧
    (w.params.followText "set-order" = true ∨ t.led = true)
theorem SetG.at {h h' : Heap} {a : Addr} {ks : List κ} (R : SetG knd h a ks) (k : ∀ o, h.get? a = some o → h'.get? a = some o) : SetG knd h' a ks := by
  obtain ⟨o, es, ep, t, ls, ho, r⟩ := R
  exact ⟨o, es, ep, t, ls, k o ho, r⟩
theorem ents_elems {l : List (Int × Value)} {ls : List κ} (r : Paired (Ent knd) l ls) : ElemsOf knd l := by
  induction r with
  | nil => intro e he; exact nomatch he
  | cons h t ih =>
    intro e he
    rcases List.mem_cons.mp he with z | z
    · rw [z]; exact ⟨⟨_, h.1, h.2.1⟩, h.2.2⟩
    · exact ih e z
theorem ents_mem {l : List (Int × Value)} {ls : List κ} (r : Paired (Ent knd) l ls) (k : κ) : k ∈ ls ↔ ∃ e ∈ l, knd.is k e.2 = true := by
  induction r with
  | nil => exact ⟨fun h => (nomatch h), fun ⟨_, h, _⟩ => (nomatch h)⟩
  | @cons e k' l ls h t ih =>
    constructor
    · intro hk
      rcases List.mem_cons.mp hk with z | z
      · exact ⟨e, List.mem_cons_self, by rw [z]; exact h.1⟩
      · obtain ⟨e', h1, h2⟩ := ih.mp z
        exact ⟨e', List.mem_cons_of_mem _ h1, h2⟩
    · rintro ⟨e', h1, h2⟩
      rcases List.mem_cons.mp h1 with z | z
      · rw [z] at h2
        rw [knd.inj _ _ _ h2 h.1]
        exact List.mem_cons_self
      · exact List.mem_cons_of_mem _ (ih.mpr ⟨e', z, h2⟩)
theorem SetG.setOf {h : Heap} {a : Addr} {ks : List κ} (R : SetG knd h a ks) : h.SetOf knd a (fun k => decide (k ∈ ks)) ks.length := by
  obtain ⟨o, es, ep, t, ls, ho, hx, hd, r, p, nd, hb, hf, _⟩ := R
  refine ⟨o, es, ep, t, ho, hx, hd, ents_elems r, fun k => ?_, hb, hf, ?_⟩
  · rw [decide_eq_true_eq, ← p.mem_iff, ents_mem r]
  · rw [← Array.length_toList, Paired.length r, p.length_eq]
variable {A : Around} {E : Value → Shared → Prop} {s : Shared} {a : Addr}
/-- the new entries are stored, and the table is laid anew where it is too full -/
theorem tailG {g : Bool → Sem Unit} (hg : ∀ (b : Bool) (s₁ : Shared) (Q' : Unit → Shared → Prop), Q' () s₁ → wpAny (model P w) A (g b) Q' E s₁)
    {o : Obj} {es : Array (Int × Value)} {ep : Nat} {t : SetTable} (ho : s.heap.get? a = some o) (hex : o.ExactSet) (hd : o.data = .set es ep t)
    {es1 : Array (Int × Value)} {t2 : SetTable} {ls ks : List κ} (r : Paired (Ent knd) es1.toList ls) (pl : ls.Perm ks) (nd : ks.Nodup)
    (hb1 : es1.size < scanBound) (hf2 : t2.fits es1.size = true) (hr : Ris t2.place.toList) (hl : w.params.followText "set-order" = true ∨ t2.led = true) {wd : Bool} {R : Option Bool → Shared → Prop}
    (hR : ∀ h', Heap.SameBut a s.heap h' → SetG knd h' a ks → R (some true) { s with heap := h' }) :
    wpAny (model P w) A (do
        storeSet a es1 t2
        if (!wd && t2.tooFull) = true then do
            g (relayAll t2 es1 (SetTable.grown es1.size)).2.2
            storeSet a (relayAll t2 es1 (SetTable.grown es1.size)).1 (relayAll t2 es1 (SetTable.grown es1.size)).2.1
            pure (some true)
          else pure (some true)) R E s := by
  refine wpAny_bind (wpAny_storeSet_of ho hd ?_ (fits_of_scanBound hb1))
  have ho1 := store_at (es' := es1) (t' := t2) ho hd
  have sb1 := Heap.SameBut.update s.heap a (Obj.putSet es1 t2)
  split
  · have pm := relayAll_perm t2 es1 (SetTable.grown es1.size)
    have hf3 := relayAll_fits t2 es1 (SetTable.grown es1.size)
    have hr3 := relayAll_ris t2 es1 (SetTable.grown es1.size)
    have hl3 := relayAll_led t2 es1 (SetTable.grown es1.size)
    generalize relayAll t2 es1 (SetTable.grown es1.size) = Z at pm hf3 hr3 hl3 ⊢
    obtain ⟨es2, t3, gave⟩ := Z
    dsimp only at pm hf3 hr3 hl3 ⊢
    obtain ⟨ls2, q2, r2⟩ := paired_perm pm r
    have hsz : es2.size = es1.size := by rw [← Array.length_toList, pm.length_eq, Array.length_toList]
    have hb2 : es2.size < scanBound := by rw [hsz]; exact hb1
    refine wpAny_bind (hg _ _ _ ?_)
    refine wpAny_bind (wpAny_storeSet_of ho1 rfl ?_ (fits_of_scanBound hb2))
    have ho2 := store_at (es' := es2) (t' := t3) ho1 rfl
    exact wpAny_pure (hR _ (sb1.trans (Heap.SameBut.update _ a _)) ⟨_, es2, _, t3, ls2, ho2, hex, rfl, r2, q2.trans pl, nd, hb2, hf3, hr3, hl.imp id fun z => by rw [hl3]; exact z⟩)
  · exact wpAny_pure (hR _ sb1 ⟨_, es1, _, t2, ls, ho1, hex, rfl, r, pl, nd, hb1, hf2, hr, hl⟩)
/-- what a key put in leaves -/
def putS (ks : List κ) (k : κ) : List κ := if k ∈ ks then ks else ks ++ [k]
theorem putS_len (ks : List κ) (k : κ) : (putS ks k).length ≤ ks.length + 1 := by
  unfold putS; split
  · omega
  · simp
theorem putS_mem (ks : List κ) (k x : κ) : x ∈ putS ks k ↔ x ∈ ks ∨ x = k := by
  unfold putS; split
  · rename_i h
    exact ⟨.inl, fun z => z.elim id fun e => by rw [e]; exact h⟩
  · rw [List.mem_append, List.mem_singleton]
theorem addG {k : κ} {v : Value} {ks : List κ} {Q : Bool → Shared → Prop} (hkey : knd.is k v = true) (hsc : v.scannable = true) (R : SetG knd s.heap a ks) (room : ks.length + 1 < scanBound)
    (hQ : ∀ (b : Bool) h', Heap.SameBut a s.heap h' → SetG knd h' a (putS ks k) → Q b { s with heap := h' }) : wpAny (model P w) A (setAddHashed a v (knd.hash k)) Q E s := by
  obtain ⟨o, es, ep, t, ls, ho, hex, hd, r, pl, nd, hb, hf, hr, hl⟩ := R
  have hel := ents_elems r
  unfold setAddHashed setAddHashedIn
  refine wpAny_holding (wpAny_bind (wpAny_setState_of ho hd hf ?_))
  dsimp only
  rw [byScan_of hsc hb hel]
  simp only [↓reduceIte]
  unfold setAddByScan
  refine wpAny_bind ?_
  refine wpAny_bind (wpAny_rule ?_)
  refine wpAny_bind (wpAny_setScan_of hkey ho hd hf hel ?_)
  cases hfi : List.findIdx? (fun e => knd.is k e.2) es.toList with
  | some j =>
    dsimp only
    obtain ⟨hj, pj, _⟩ := List.findIdx?_eq_some_iff_getElem.mp hfi
    have hk : k ∈ ks := pl.mem_iff.mp ((ents_mem r k).mpr ⟨es.toList[j], List.getElem_mem hj, pj⟩)
    refine wpAny_pure (wpAny_pure ?_)
    exact hQ false s.heap (Heap.SameBut.refl a s.heap) ⟨o, es, ep, t, ls, ho, hex, hd, r, by unfold putS; rw [if_pos hk]; exact pl, by unfold putS; rw [if_pos hk]; exact nd, hb, hf, hr, hl⟩
  | none =>
    dsimp only
    have hnk : k ∉ ks := fun z => by
      obtain ⟨e, he, q⟩ := (ents_mem r k).mp (pl.mem_iff.mpr z)
      have c := List.findIdx?_eq_none_iff.mp hfi e he
      rw [q] at c
      cases c
    have hgw : ∀ (b : Bool) {s₁ : Shared} {Q' : Unit → Shared → Prop}, Q' () s₁ → wpAny (model P w) A (match b with | true => rule "set.scan.the-table-gave-way" | false => pure ()) Q' E s₁ :=
      fun b s₁ Q' q => by cases b <;> first | exact wpAny_pure q | exact wpAny_rule q
    have pm := layNew_perm t es (knd.hash k) v
    have hf1 := layNew_fits t es (knd.hash k) v
    have hr1 := layNew_ris t es (knd.hash k) v hr
    have hl1 := layNew_led t es (knd.hash k) v
    generalize layNew t es (knd.hash k) v = Z at pm hf1 hr1 hl1 ⊢
    obtain ⟨es1, t1, wd, gave⟩ := Z
    dsimp only at pm hf1 hr1 hl1 ⊢
    rw [Array.toList_push] at pm
    have r0 : Paired (Ent knd) (es.toList ++ [(knd.hash k, v)]) (ls ++ [k]) := Paired.snoc r ⟨hkey, rfl, hsc⟩
    obtain ⟨ls1, q1, r1⟩ := paired_perm pm r0
    have ep1 : putS ks k = ks ++ [k] := by unfold putS; rw [if_neg hnk]
    have pl1 : ls1.Perm (putS ks k) := by rw [ep1]; exact q1.trans (pl.append_right _)
    have nd1 : (putS ks k).Nodup := by
      rw [ep1, List.nodup_append]
      exact ⟨nd, by simp, fun x hx y hy e => hnk (by rw [← List.mem_singleton.mp hy, ← e]; exact hx)⟩
    have hsz : es1.size = ks.length + 1 := by
      rw [← Array.length_toList, Paired.length r1, pl1.length_eq, ep1]; simp
    have hb1 : es1.size < scanBound := by rw [hsz]; exact room
    have hled : w.params.followText "set-order" = true ∨ t1.led = true := hl.imp id fun z => by rw [hl1]; exact z
    refine wpAny_bind (hgw _ ?_)
    split
    · refine wpAny_bind ?_
      rw [hashByValue_scannable 8 hsc]
      refine wpAny_pure ?_
      refine tailG (knd := knd) ?_ ho hex hd r1 pl1 nd1 hb1 ?_ ?_ ?_ ?_
      · intro b s₁ Q' q; cases b <;> first | exact wpAny_pure q | exact wpAny_rule q
      · first | (split <;> first | exact hf1 | exact SetTable.fits_plain_off hf1) | exact hf1
      · first | (split <;> exact hr1) | exact hr1
      · first | (split <;> exact hled) | exact hled
      · intro h' sb z; dsimp only; exact wpAny_pure (hQ true h' sb z)
    · refine wpAny_bind (wpAny_pure ?_)
      simp only [↓reduceIte]
      refine tailG (knd := knd) ?_ ho hex hd r1 pl1 nd1 hb1 hf1 hr1 hled ?_
      · intro b s₁ Q' q; cases b <;> first | exact wpAny_pure q | exact wpAny_rule q
      · intro h' sb z; dsimp only; exact wpAny_pure (hQ true h' sb z)
theorem SetG.fresh {h : Heap} {a : Addr} (ho : h.get? a = some { cls := .type "set", dict := none, data := .set #[] 0 (.fresh 0 0 (!w.params.followText "set-order")) }) : SetG knd h a [] :=
  ⟨_, #[], 0, _, [], ho, ⟨rfl, rfl, rfl⟩, rfl, .nil, .refl _, List.nodup_nil, by decide, by rfl, List.Pairwise.nil, by
    show _ ∨ (!w.params.followText "set-order") = true
    cases w.params.followText "set-order"
    · exact .inr rfl
    · exact .inl rfl⟩
end
end K28
set_option Elab.async false
set_option linter.all false
set_option maxRecDepth 100000
set_option maxHeartbeats 8000000
/-! set(list of texts), sorted of it; sorted of a list, of a dict of texts, in any number. -/
namespace K28
open PySem PySem.Spec PyProof.Rows L2
section
variable {P : Program} {w : World} {κ : Type} [DecidableEq κ] {knd : PySem.KeyKind P w κ} {A : Around} {E : Value → Shared → Prop} {s : Shared}
/-- the keys so far -/
def grownS (xs : List κ) (i : Nat) : List κ := (xs.take i).foldl putS []
theorem grownS_succ {xs : List κ} {i : Nat} {x : κ} (h : xs[i]? = some x) : grownS xs (i + 1) = putS (grownS xs i) x := by
  unfold grownS
  rw [List.take_add_one, h, List.foldl_append]
  rfl
theorem grownS_len (xs : List κ) : ∀ i, (grownS xs i).length ≤ i
  | 0 => by unfold grownS; simp
  | i + 1 => by
    have ih := grownS_len xs i
    cases h : xs[i]? with
    | none =>
      have e : grownS xs (i + 1) = grownS xs i := by unfold grownS; rw [List.take_add_one, h]; simp
      rw [e]; omega
    | some x =>
      rw [grownS_succ h]
      have := putS_len (grownS xs i) x
      omega
theorem grownS_mem (xs : List κ) : ∀ i x, x ∈ grownS xs i ↔ x ∈ xs.take i
  | 0, x => by unfold grownS; simp
  | i + 1, x => by
    have ih := grownS_mem xs i x
    cases h : xs[i]? with
    | none =>
      have e : grownS xs (i + 1) = grownS xs i := by unfold grownS; rw [List.take_add_one, h]; simp
      rw [e, ih, List.take_add_one, h]; simp
    | some y =>
      rw [grownS_succ h, putS_mem, ih, List.take_add_one, h]; simp
theorem loopG {I : Addr} {fp wr : List Addr} {G : Array GenState → Array GenState → Prop} {n : Nat} {Pv : Nat → Value → Prop} {St : Nat → Shared → Prop} {R : Result → Shared → Prop}
    (W : WalksS P w A.in1 I fp wr G n Pv St) (S : Addr) (hSf : S ∉ fp) (xs : List κ) (hn : n = xs.length) (hb : xs.length + 1 < scanBound) (hval : ∀ i v, Pv i v → ∃ k, xs[i]? = some k ∧ knd.is k v = true ∧ v.scannable = true) :
    ∀ (k i : Nat) (s : Shared), n - i = k → i ≤ n → St i s → SetG knd s.heap S (grownS xs i) →
      (∀ s', Moved (S :: wr) G s s' → SetG knd s'.heap S (grownS xs n) → R (.ok (.ret .none)) s') →
      codeAny (model P w) A (.builtin "set.update.loop" ⟨[.ref S, .ref I], []⟩) R s := by
  have hSw : S ∉ wr := fun h => hSf (W.sub _ h)
  have hsub : ∀ b ∈ wr, b ∈ S :: wr := fun b hb => List.mem_cons_of_mem _ hb
  intro k
  induction k with
  | zero =>
    intro i s hk' hi hst hS hR
    have hin : i = n := by omega
    subst hin
    refine codeAny_builtin F.entry_set_update_loop ?_
    rw [Around.under_plainId F.plain_set_update_loop _]
    show wpAny _ A.in1 (pyNext (.ref I) >>= _) _ _ s
    refine wpAny_bind (W.done s _ _ hst fun s' hm => ?_)
    show wpAny _ A.in1 (ret Value.none) _ _ s'
    exact wpAny_pure (hR s' (hm.mono hsub) (hS.at fun o e => hm.heap S o hSw e))
  | succ k ih =>
    intro i s hk' hi hst hS hR
    have hlt : i < n := by omega
    refine codeAny_builtin F.entry_set_update_loop ?_
    rw [Around.under_plainId F.plain_set_update_loop _]
    show wpAny _ A.in1 (pyNext (.ref I) >>= _) _ _ s
    refine wpAny_bind (W.item i s _ _ hlt hst fun v s' hP hst' hm => ?_)
    obtain ⟨z, hz, hk, hsc⟩ := hval i v hP
    have hS' : SetG knd s'.heap S (grownS xs i) := hS.at fun o e => hm.heap S o hSw e
    have hlen := grownS_len xs i
    show wpAny _ A.in1 (holding [v] (setAdd S v) >>= _) _ _ s'
    refine wpAny_bind (wpAny_holding ?_)
    unfold setAdd
    refine wpAny_holding ?_
    refine wpAny_bind (knd.pyHash hk ?_)
    refine addG (knd := knd) (s := { s' with toks := s'.toks + 1 }) hk hsc hS' (by omega) fun b h' hsb hS2 => ?_
    rw [← grownS_succ hz] at hS2
    refine wpAny_pure ⟨plainId_quiet F.plain_set_update_loop _, ih (i + 1) _ (by omega) hlt (W.frame _ s' _ _ hst' (Nat.le_succ _) fun b hb o e => ?_) hS2 fun s'' hm'' hS'' => ?_⟩
    · rw [hsb.2 b (fun h : b = S => hSf (by rw [← h]; exact hb))]; exact e
    · refine hR s'' (Moved.trans W.gtrans ((hm.mono hsub).then_heap (Nat.le_succ _) fun b o hb e => ?_) hm'') hS''
      rw [hsb.2 b (fun h : b = S => hb (by rw [h]; exact List.mem_cons_self))]; exact e
/-- set(l), l a list of keys carried by value -/
theorem call_setG {l : Addr} {items : Array Value} (xs : List κ) {Q : Value → Shared → Prop} (hh : A.handled = none) (hl : s.heap.IsList l items) (hsz : items.size = xs.length) (hb : xs.length + 1 < scanBound)
    (hval : ∀ (i : Nat) (v : Value), items[i]? = some v → ∃ k, xs[i]? = some k ∧ knd.is k v = true ∧ v.scannable = true)
    (h : ∀ (h' : Heap) (tk : Nat), SetG knd h' s.heap.objs.size (grownS xs xs.length) → (∀ b o, s.heap.get? b = some o → h'.get? b = some o) → Q (.ref s.heap.objs.size) { s with heap := h', toks := tk }) :
    wpAny (model P w) A (call (.type "set") [.ref l]) Q E s := by
  obtain ⟨c, tl, hmro⟩ := F.called_set.mro
  have hmade := F.called_set.made
  have hsub := F.called_set.sub
  refine wpAny_call (codeAny_of_tree ?_)
  show wpAny _ _ (callAny (.type "set") _) _ _ _
  refine wpAny_pure ⟨Code.quiet_builtin _ (by decide +kernel), codeAny_builtin F.entry_type_call ?_⟩
  rw [Around.under_plain (weight_type_call_type "set" [.ref l] []) rfl]
  have h1 := F.called_set.notType
  have h2 := F.called_set.canCreate
  have hct := F.typeCall_set_1 (.ref l)
  repeat (any_goals (first | assumption | wp_step))
  refine codeAny_mono (code_set_led1 (.ref l) (E := E) (Q₁ := fun obj s₁ => obj = .ref s.heap.objs.size ∧ s₁ = { s with heap := s.heap.push { cls := .type "set", dict := none, data := .set #[] 0 (.fresh 0 0 (!w.params.followText "set-order")) } }) ⟨rfl, rfl⟩) fun r s₁ hr => ?_
  cases r with
  | error e => exact hr
  | ok fl =>
    cases fl with
    | ret obj =>
      obtain ⟨rfl, rfl⟩ := hr
      have hS : (s.heap.push { cls := .type "set", dict := none, data := .set #[] 0 (.fresh 0 0 (!w.params.followText "set-order")) }).get? s.heap.objs.size = some { cls := .type "set", dict := none, data := .set #[] 0 (.fresh 0 0 (!w.params.followText "set-order")) } := Heap.get?_push_size _ rfl
      have hT : Shared.TypeIs { s with heap := s.heap.push { cls := .type "set", dict := none, data := .set #[] 0 (.fresh 0 0 (!w.params.followText "set-order")) } } (.ref s.heap.objs.size) "set" := ⟨_, hS, rfl⟩
      have hli := F.called_set.init.lookup
      have hbi := F.called_set.init.bind (.ref s.heap.objs.size)
      repeat (any_goals (first | assumption | wp_step))
      refine codeAny_mono (codeAny_call_builtin (R := wants (fun r s₂ => r = .none ∧ ∃ h' tk, s₂ = { s with heap := h', toks := tk } ∧ SetG knd h' s.heap.objs.size (grownS xs xs.length) ∧
          (∀ b o, s.heap.get? b = some o → h'.get? b = some o)) E) F.called_set.init.plain F.entry_set_init (check_set_init_1 hT ?_)) fun r₂ s₂ hr₂ => ?_
      · obtain ⟨ol, hol, hcl, nl, hdl⟩ := hl
        obtain ⟨ocls, odict, odata, oslots⟩ := ol
        simp only at hcl hdl
        subst hcl; subst hdl
        have hol' : (s.heap.push { cls := .type "set", dict := none, data := .set #[] 0 (.fresh 0 0 (!w.params.followText "set-order")) }).get? l = some { cls := .type "list", dict := odict, data := .seq items nl, slots := oslots } := Heap.get?_push_of_some _ hol
        have hsls := F.sub_list_set
        have hslf := F.sub_list_frozenset
        have hne : (Value.type "list" == Value.type "dict") = false := by decide
        have hl1 : (s.heap.push { cls := .type "set", dict := none, data := .set #[] 0 (.fresh 0 0 (!w.params.followText "set-order")) }).IsList l items := ⟨_, hol', rfl, nl, rfl⟩
        unfold Builtin.«set.__init__» noKeywords Builtin.Frozenset.updateFrom
        generalize hPI : pyIter = PI
        wp_walk
        subst hPI
        refine wpAny_pyIter_list hl1 ?_
        refine wpAny_bind (wpAny_runValue ?_)
        have hlS : l < s.heap.objs.size := Heap.lt_size hol
        have hh3 : A.in1.in1.in1.handled = none := by simp [hh]
        have hneI : l ≠ (s.heap.push { cls := .type "set", dict := none, data := .set #[] 0 (.fresh 0 0 (!w.params.followText "set-order")) }).objs.size := by
          rw [Heap.size_push]; exact Nat.ne_of_lt (Nat.lt_succ_of_lt hlS)
        have hSf : s.heap.objs.size ∉ [(s.heap.push { cls := .type "set", dict := none, data := .set #[] 0 (.fresh 0 0 (!w.params.followText "set-order")) }).objs.size, l] := by
          rw [Heap.size_push]; simp only [List.mem_cons, List.mem_singleton, List.not_mem_nil, or_false, not_or]
          exact ⟨Nat.ne_of_lt (Nat.lt_succ_self _), Nat.ne_of_gt hlS⟩
        refine loopG (knd := knd) ((Walks.list hh3 _ l hneI items).toS) s.heap.objs.size
          hSf xs hsz hb hval (items.size - 0) 0 _ (by omega) (Nat.zero_le _)
          ⟨⟨_, Heap.get?_push_size _ rfl, rfl, rfl⟩, (hl1.push _)⟩ ?hS0 ?hR
        case hS0 =>
          exact SetG.fresh (Heap.get?_push_of_some _ hS)
        case hR =>
          intro s' hm hS'
          rw [hsz] at hS'
          obtain ⟨h', g2, d', tk', os'⟩ := s'
          have eg : g2 = s.gens := hm.gens
          have ed : d' = s.drawn := hm.drawn
          have eo : os' = s.os := hm.os
          subst eg; subst ed; subst eo
          show wpAny _ _ _ _ _ _
          refine wpAny_pure ?_
          show wpAny _ _ (ret Value.none) _ _ _
          refine wpAny_pure ⟨rfl, h', tk', rfl, hS', fun b o e => ?_⟩
          have hb0 : b < s.heap.objs.size := Heap.lt_size e
          have hb1 : b ≠ s.heap.objs.size := Nat.ne_of_lt hb0
          have hb2 : b ≠ (s.heap.push { cls := .type "set", dict := none, data := .set #[] 0 (.fresh 0 0 (!w.params.followText "set-order")) }).objs.size := by
            rw [Heap.size_push]; exact Nat.ne_of_lt (Nat.lt_succ_of_lt hb0)
          exact hm.heap b o (by simp only [List.mem_cons, List.mem_singleton, List.not_mem_nil, or_false, not_or]; exact ⟨hb1, hb2⟩) (Heap.get?_push_of_some _ (Heap.get?_push_of_some _ e))
      · cases r₂ with
        | error e => exact hr₂
        | ok fl₂ =>
          cases fl₂ with
          | ret r =>
            obtain ⟨rfl, h', tk, rfl, hS', hk'⟩ := hr₂
            repeat (any_goals (first | assumption | wp_step))
            exact h _ _ hS' hk'
          | _ => exact hr₂.elim
    | _ => exact hr.elim
end
/-! ### over the layer -/
/-- a set of texts, tracked -/
def setO (P : Program) (w : World) (a : Addr) (ks : List Str) : HO := .ext fun h => SetG (PySem.strKind P w) h a ks
section
variable {X : Cx}
theorem setO_ok {P : Program} {w : World} {H : Hp} {h : Heap} {a : Addr} {ks : List Str} (R : SetG (PySem.strKind P w) h a ks) : ObjOk P w H h a (setO P w a ks) := by
  have ⟨o, _, _, _, _, ho, _⟩ := R
  exact ⟨R, ⟨o, ho⟩, fun h1 h2 p k => SetG.at p k⟩
theorem str_val {us : List Value} {xs : List Str} (r : Vals (xs.map V.str) us) (w : World) (P : Program) : ∀ (i : Nat) (v : Value), us[i]? = some v → ∃ k, xs[i]? = some k ∧ (PySem.strKind P w).is k v = true ∧ v.scannable = true := by
  intro i v hv
  have hl := r.length
  rw [List.length_map] at hl
  have hi : i < xs.length := by rw [hl]; exact (List.getElem?_eq_some_iff.mp hv).1
  obtain ⟨u, hu, ru⟩ := r.get (i := i) (x := .str xs[i]) (by rw [List.getElem?_map, List.getElem?_eq_getElem hi]; rfl)
  rw [hv] at hu
  cases hu
  obtain ⟨t, rfl⟩ := ru
  exact ⟨xs[i], List.getElem?_eq_getElem hi, PySem.strKind_is P w _ _, rfl⟩
/-- set(xs), xs a list of texts -/
def rSetOfS (P : Program) (w : World) (K : PySem.W.Frag) : List V → Hp → VK → Prop := fun vs H Q => ∃ (a : Addr) (xs : List Str), vs = [.ref a] ∧ SqL K H a (xs.map V.str) ∧ xs.length ≤ 1000 ∧
  ∀ p ks, ks.Nodup → ks.length ≤ 1000 → (∀ x, x ∈ ks ↔ x ∈ xs) → H p = none → Q (.ref p) (upd H p (setO P w p ks))
theorem cr_setOfS (hc : X.calm = true) : CallR X (.type "set") (rSetOfS X.prog X.w X.K) := by
  intro pins s σ H vs us Q I r h
  obtain ⟨a, xs, rfl, hs, hl, q⟩ := h
  obtain ⟨its, rv, pl, hz⟩ := I.list hs
  rw [Vals.ref1 r]
  have hlen := rv.length
  rw [List.length_map] at hlen
  refine call_setG (knd := PySem.strKind X.prog X.w) xs (I.ok.hd hc) pl.isList (by simp [hlen]) (by unfold scanBound; omega) (fun i v hv => str_val rv X.w X.prog i v (by simpa using hv)) fun h' tk R hk => ?_
  have ⟨_, _, _, _, _, _, _, _, _, _, nd, _⟩ := R
  have hg := grownS_len xs xs.length
  exact ⟨.ref _, upd H s.heap.objs.size (setO X.prog X.w s.heap.objs.size (grownS xs xs.length)), I.laid (t' := tk) hk (Nat.le_refl _) (setO_ok R), rfl, q _ _ nd (by omega) (fun x => by rw [grownS_mem, List.take_length]) (I.hok.fresh (Nat.le_refl _))⟩

/-- sorted(v), where the items of v are gathered as texts -/
theorem sorted_by {pins : List (Addr × Obj)} {σ : L2.St} {s : Shared} {v : Value} {Q : VK} {E : Value → Shared → Prop}
    (h : wpAny (model X.prog X.w) X.A.in1 (collect v) (fun us s1 => ∃ H1 ks, Inv X pins σ H1 s1 ∧ StrsAre us ks ∧ ks.length ≤ sizeLine ∧ ∀ ys p, ys.Perm ks → sortedS ys = true → H1 p = none → Q (.ref p) (upd H1 p (.lst (ys.map V.str)))) E s) :
    wpAny (model X.prog X.w) X.A (call (.builtin "sorted") [v]) (EP X pins σ Q) E s := by
  refine Calls.call_function_entry PyProof.Rows.kind_sorted PyProof.Rows.plain_sorted PyProof.Rows.entry_sorted (PyProof.Rows.args_sorted1 _) ?_
  unfold Builtin.«sorted»
  refine wpAny_bind (m := checkCount "sorted" 1 1 _) (wpAny_pure ?_)
  refine wpAny_bind (wpAny_mono h (fun us s1 h1 => ?_) fun _ _ z => z)
  obtain ⟨H1, ks, I1, hS, hz, q⟩ := h1
  have hul : us.length ≤ sizeLine := by rw [hS.len_eq]; exact hz
  refine wpAny_bind (wpAny_newList ?_ hul)
  have hoL : (s1.heap.push (seqObj "list" us.toArray 0)).get? s1.heap.objs.size = some (seqObj "list" us.toArray 0) := Heap.get?_push_size _ rfl
  show wpAny _ _ _ _ _ { s1 with heap := s1.heap.push (seqObj "list" us.toArray 0) }
  refine wpAny_bind (wpAny_holding (wpAny_call_entry PyProof.Rows.slot_list_sort ⟨_, hoL, rfl⟩ PyProof.Rows.entry_list_sort
    (list_sort_treeKAny strKind_oneLt (s := { s1 with heap := s1.heap.push (seqObj "list" us.toArray 0) }) hoL hS.keysOf (fun v₁ v₂ rest e => keyKind_strs (by rw [← e]; exact hS)) hul fun st' hp hs => ⟨_, rfl, ?_⟩)
    (PyProof.Rows.args_list_sort _)))
  obtain ⟨ys, g1, g2, g3⟩ := sorted_out_str hS hp hs
  obtain ⟨e', he'⟩ := PyProof.Rows.sortedHeap_at (vs := us) (out := (arrOf st').map (·.2)) hoL
  have hlen : (ys.map V.str).length ≤ sizeLine := by rw [List.length_map, g2.length_eq]; exact hz
  refine wpAny_pure ⟨_, rfl, .ref s1.heap.objs.size, upd H1 s1.heap.objs.size (.lst (ys.map V.str)), I1.laid (t' := s1.toks) (fun b u e => ?_) (Nat.le_refl _)
    (show ObjOk X.prog X.w _ _ _ (.lst (ys.map V.str)) from ⟨hlen, ((arrOf st').map (·.2)).toList, e', vals_of_strs g1, by rw [Array.toArray_toList]; exact he'⟩), rfl, q ys _ g2 g3 (I1.hok.fresh (Nat.le_refl _))⟩
  have hb : b < s1.heap.objs.size := Heap.lt_size e
  rw [PyProof.Rows.sortedHeap_old (Nat.ne_of_lt hb) (by rw [size_push']; exact Nat.lt_succ_of_lt hb)]
  exact Heap.get?_push_of_some _ e
/-- sorted(s), s a set of texts -/
def rSortedSetS (P : Program) (w : World) : List V → Hp → VK → Prop := fun vs H Q => ∃ (a : Addr) (ks : List Str), vs = [.ref a] ∧ H a = some (setO P w a ks) ∧ ∀ ys p, ys.Perm ks → sortedS ys = true → H p = none → Q (.ref p) (upd H p (.lst (ys.map V.str)))
theorem cr_sortedSetS (hc : X.calm = true) : CallR X (.builtin "sorted") (rSortedSetS X.prog X.w) := by
  intro pins s σ H vs us Q I r h
  obtain ⟨a, ks, rfl, ha, q⟩ := h
  rw [Vals.ref1 r]
  obtain ⟨o, es, ep, t, ls, ho, hex, hd, re, pl, nd, hb, hf, hr, hl⟩ := (show SetG (PySem.strKind X.prog X.w) s.heap a ks from (I.hok a _ ha).1)
  refine sorted_by (collect_set (A := X.A.in1) (I.ok.hd hc) ⟨o, ho, hex.1, hd⟩ hf hb hr hl fun s1 vs k1 hz g1 o1 pm => ?_)
  have r2 : Paired (fun (v : Value) (k : Str) => (PySem.strKind X.prog X.w).is k v = true) (es.toList.map (·.2)) ls := by
    clear pl pm
    generalize es.toList = l at re
    induction re with
    | nil => exact .nil
    | cons h t ih => rw [List.map_cons]; exact .cons h.1 ih
  obtain ⟨ls', q1, r3⟩ := paired_perm pm r2
  have hS : StrsAre vs ls' := by
    clear q1 pm
    induction r3 with
    | nil => exact .nil
    | cons h t ih =>
      obtain ⟨tk, rfl⟩ := Value.isStrOf_shape h
      exact .cons _ _ ih
  have pk : ls'.Perm ks := q1.trans pl
  have hlen : ls'.length ≤ sizeLine := by
    rw [q1.length_eq, ← Paired.length re, Array.length_toList]
    exact fits_of_scanBound hb
  refine ⟨H, ls', I.call' (ch := []) o1 (Un.kept k1) (I.hok.kept k1) (by rw [g1]; exact I.bare) (fun _ z => nomatch z), hS, hlen, fun ys p h1 h2 h3 => q ys p (h1.trans pk) h2 h3⟩
/-- sorted(d), d a dict of texts, any number -/
def rSortedDS : List V → Hp → VK → Prop := fun vs H Q => ∃ (a : Addr) (kvs : List (Key × V)) (ks : List Str), vs = [.ref a] ∧ Rd H a (.dK kvs) ∧ kvs.map (·.1) = ks.map Sum.inr ∧
  ∀ ys p, ys.Perm ks → sortedS ys = true → H p = none → Q (.ref p) (upd H p (.lst (ys.map V.str)))
theorem cr_sortedDS (hc : X.calm = true) : CallR X (.builtin "sorted") rSortedDS := by
  intro pins s σ H vs us Q I r h
  obtain ⟨a, kvs, ks, rfl, ha, hks, q⟩ := h
  rw [Vals.ref1 r]
  obtain ⟨z, lo, vv, rel, dd⟩ := dk_rd I.hok ha
  obtain ⟨ep, hat⟩ := dd.dictAt
  have hkeys : vv.map (·.1) = ks.map Sum.inr := rel.keys.symm.trans hks
  have hl : vv.length = ks.length := by
    have e := congrArg List.length hkeys
    rw [List.length_map, List.length_map] at e
    exact e
  have h16 : vv.length ≤ sizeLine := by rw [← rel.length]; exact z
  refine sorted_by (PySem.W.kdu_collect (A := X.A.in1) (PySem.W.kdl_dict (knd := mixKind X.prog X.w) (kvs := vv) (ep := ep) lo) (I.ok.hd hc) hat h16 fun h' tk acc hk hacc => ?_)
  have hal : acc.toList.length = ks.length := by rw [Array.length_toList, hacc.1, hl]
  have hS : StrsAre acc.toList ks := L2.strs_at hal fun j v e => by
    obtain ⟨k, x, e1, e2⟩ := hacc.2 j v (by rw [← Array.getElem?_toList]; exact e)
    have e3 : (vv.map (·.1))[j]? = some k := by rw [List.getElem?_map, e1]; all_goals rfl
    rw [hkeys, List.getElem?_map] at e3
    cases e4 : ks[j]? with
    | none => rw [e4] at e3; cases e3
    | some y =>
      rw [e4] at e3
      have e5 : Sum.inr y = k := Option.some.inj e3
      subst e5
      obtain ⟨t, ev⟩ := Value.isStrOf_shape (x := y) (v := v) e2
      exact ⟨y, t, rfl, ev⟩
  exact ⟨H, ks, I.kept (t' := tk) hk, hS, by rw [← hl]; exact h16, q⟩
/-- sorted(xs), texts, any number -/
def rSortedLS (K : PySem.W.Frag) : List V → Hp → VK → Prop := fun vs H Q => ∃ (a : Addr) (xs : List Str), vs = [.ref a] ∧ SqL K H a (xs.map V.str) ∧ ∀ ys p, ys.Perm xs → sortedS ys = true → H p = none → Q (.ref p) (upd H p (.lst (ys.map V.str)))
theorem cr_sortedLS : CallR X (.builtin "sorted") (rSortedLS X.K) := by
  intro pins s σ H vs us Q I r h
  obtain ⟨a, xs, rfl, hs, q⟩ := h
  obtain ⟨its, rv, hl, hz⟩ := I.list hs
  rw [Vals.ref1 r]
  rw [List.length_map] at hz
  have hlen0 := rv.length
  rw [List.length_map] at hlen0
  refine PyProof.Rows.sorted_strsAny hl.isList rv.strs (by rw [← hlen0]; exact hz) fun out ys h1 h2 h3 => ?_
  obtain ⟨ep, he'⟩ := PyProof.Rows.sortedAll_at s.heap its out
  have hlen : (ys.map V.str).length ≤ sizeLine := by rw [List.length_map, h2.length_eq]; exact hz
  exact ⟨.ref _, upd H (s.heap.objs.size + 1) (.lst (ys.map V.str)), I.laid (t' := s.toks) (fun _ _ => PyProof.Rows.sortedAll_old) (Nat.le_succ _) ⟨hlen, out.toList, ep, vals_of_strs h1, he'⟩, rfl, q ys _ h2 h3 (I.hok.fresh (Nat.le_succ _))⟩
end
end K28
set_option Elab.async false
set_option linter.all false
set_option maxRecDepth 100000
set_option maxHeartbeats 8000000
/-! words_above. -/
namespace K28
open PySem PySem.Spec PyProof.Rows L2
/-- a told row: its steps, its state -/
def RowAt (due : List Int) (H : Hp) (p : Addr) (u : List Int) : Prop := ∃ tl st, H p = some (.tup [.ref tl, .ref st]) ∧ H tl = some (.tup (u.map V.int)) ∧ H st = some (.tup (s5V (run due u)))
def KT (H H' : Hp) : Prop := ∀ c ys, H c = some (.tup ys) → H' c = some (.tup ys)
theorem KT.refl (H : Hp) : KT H H := fun _ _ e => e
theorem KT.trans {H H1 H2 : Hp} (a : KT H H1) (b : KT H1 H2) : KT H H2 := fun c ys e => b c ys (a c ys e)
theorem KT.same {H H' : Hp} (s : Same H H') : KT H H' := fun c ys e => s _ _ e
theorem KT.put {H : Hp} {d : Addr} {o o' : HO} (h : H d = some o) (hn : ∀ ys, o ≠ .tup ys) : KT H (upd H d o') := fun c ys e => by
  rw [upd_ne (ne_of e h (fun z => hn ys z.symm))]; exact e
theorem KT.x {P : Program} {w : World} {H H' : Hp} {d : Addr} {xs : List (MK × Addr × Int)} (m : Memo P w H d xs) (s : SameX d H H') : KT H H' := fun c ys e =>
  s _ _ (ne_of e m.1 (fun z => nomatch z)) e
theorem RowAt.keeps {due : List Int} {H H' : Hp} {p : Addr} {u : List Int} (r : RowAt due H p u) (k : KT H H') : RowAt due H' p u :=
  let ⟨tl, st, h1, h2, h3⟩ := r; ⟨tl, st, k _ _ h1, k _ _ h2, k _ _ h3⟩
def cand (due : List Int) (n t : Nat) (u : List Int) (j : Nat) : List (List Int) := ((([1, -1] : List Int).take j).map fun x => u ++ [x]).filter fun v => decide (0 < L due (run due v) (n - 1 - t))
theorem cand_snoc (due : List Int) (n t : Nat) (u : List Int) (j : Nat) (x : Int) (h : ([1, -1] : List Int)[j]? = some x) :
    cand due n t u (j + 1) = cand due n t u j ++ (if 0 < L due (run due (u ++ [x])) (n - 1 - t) then [u ++ [x]] else []) := by
  unfold cand
  rw [List.take_add_one, h, List.map_append, List.filter_append]
  refine congr (congrArg HAppend.hAppend rfl) ?_
  show ([u ++ [x]].filter _) = _
  by_cases e : 0 < L due (run due (u ++ [x])) (n - 1 - t)
  · rw [if_pos e]; simp [e]
  · rw [if_neg e]; simp [e]
theorem front_flat (due : List Int) (n t : Nat) : front due n (t + 1) = (front due n t).flatMap fun u => cand due n t u 2 := by
  show ((front due n t).flatMap fun u => [u ++ [1], u ++ [-1]]).filter _ = _
  induction front due n t with
  | nil => rfl
  | cons u l ih => rw [List.flatMap_cons, List.filter_append, ih, List.flatMap_cons]; rfl
theorem take_flat {α β : Type} (f : α → List β) (l : List α) (i : Nat) (x : α) (h : l[i]? = some x) : (l.take (i + 1)).flatMap f = (l.take i).flatMap f ++ f x := by
  rw [List.take_add_one, h, List.flatMap_append]
  refine congr (congrArg HAppend.hAppend rfl) ?_
  show ([x].flatMap f) = _
  simp
theorem cand_len (due : List Int) (n t : Nat) (u : List Int) (j : Nat) : (cand due n t u j).length ≤ 2 := by
  unfold cand
  refine Nat.le_trans (List.length_filter_le _ _) ?_
  rw [List.length_map, List.length_take]
  exact Nat.min_le_right _ _
theorem flat_len (due : List Int) (n t : Nat) (j : Nat) : ∀ l : List (List Int), (l.flatMap fun u => cand due n t u j).length ≤ 2 * l.length
  | [] => Nat.le_refl _
  | u :: l => by
    rw [List.flatMap_cons, List.length_append, List.length_cons]
    have h1 := flat_len due n t j l
    have h2 := cand_len due n t u j
    omega
section
variable {P : Program} {w : World} {K : PySem.W.Frag} {mg : Str → Option Value} {base : Heap} {t1 t2 t3 t4 t5 : Tok}
def spWords : Sp := fun vs H Q _ => ∃ (f : Int) (u : List Int) (n : Nat), vs = [.str (W f u), .int ((n : Int) + 1)] ∧ 0 ≤ f ∧ f < 3 ∧ PM u ∧ 1 ≤ u.length ∧ u.length ≤ 11 ∧ 1 ≤ n ∧ n ≤ 9 ∧ (acc u n).length ≤ 500 ∧
  ∀ H' p ys, Same H H' → H p = none → H' p = some (.lst (ys.map V.str)) → ys.Perm ((acc u n).map (W f)) → sortedS ys = true → Q (.ref p) H'
theorem ok_words {f f1 f2 f3 f4 f5 f6 f7 : Addr} {fd d1 d2 d3 d4 d5 d6 d7 : FuncData} {k : Nat} (F : Fun K "words_above" "words_above" dWordsAbove f fd) (G : Gb mg t1 t2 t3 t4 t5)
    (G1 : FnOk P w K mg base CX0 k f1 d1 ["word", "size"] spNeedBase) (k1 : PySem.W.keepIn K (.ref f1) = true) (b1 : Binds K d1 ["word", "size"] []) (m1 : mg "need_base" = some (.ref f1))
    (G2 : FnOk P w K mg base CX0 k f2 d2 ["word"] spStepsOf) (k2 : PySem.W.keepIn K (.ref f2) = true) (b2 : Binds K d2 ["word"] []) (m2 : mg "steps_of" = some (.ref f2))
    (G3 : FnOk P w K mg base CX0 k f3 d3 ["due", "many"] (spNumber K)) (k3 : PySem.W.keepIn K (.ref f3) = true) (b3 : Binds K d3 ["due", "many"] []) (m3 : mg "number_above" = some (.ref f3))
    (G4 : FnOk P w K mg base CX0 k f4 d4 [] spBegin) (k4 : PySem.W.keepIn K (.ref f4) = true) (b4 : Binds K d4 [] []) (m4 : mg "begin_state" = some (.ref f4))
    (G5 : FnOk P w K mg base CX0 k f5 d5 ["due", "state", "step"] (spReadStep K)) (k5 : PySem.W.keepIn K (.ref f5) = true) (b5 : Binds K d5 ["due", "state", "step"] []) (m5 : mg "read_step" = some (.ref f5))
    (G6 : FnOk P w K mg base CX0 k f6 d6 ["known", "due", "state", "many"] (spLeft P w K 9)) (k6 : PySem.W.keepIn K (.ref f6) = true) (b6 : Binds K d6 ["known", "due", "state", "many"] []) (m6 : mg "left_of" = some (.ref f6))
    (G7 : FnOk P w K mg base CX0 k f7 d7 ["first", "steps"] (spWordOf K)) (k7 : PySem.W.keepIn K (.ref f7) = true) (b7 : Binds K d7 ["first", "steps"] []) (m7 : mg "word_of" = some (.ref f7)) :
    FnOk P w K mg base CX0 (k + 1) f fd ["word", "size"] spWords := by
  refine F.ok scWordsAbove (fun vs H Q E h => ?_) (fun cdv A outer s H vs Q E hr h => ?_)
  · obtain ⟨a, u, n, rfl, _⟩ := h; rfl
  · obtain ⟨fi, u, n, rfl, h0, h3, pm, hl1, hl2, hn1, hn2, hacc, q⟩ := h
    have nd := scWordsAbove.nd
    refine ⟨_, pss_cons (ps_expr (pe_call G1 hr (by rfl) m1 k1 b1 .nil pass0 (pa_cons (pv 0) (pa_cons (pv 1) pa_nil))))
      (pss_cons (ps_set (i := 2) nd rfl (.inl rfl) (pe_call G2 hr (by rfl) m2 k2 b2 .nil pass0 (pa_cons (pv 0) pa_nil)))
      (pss_cons (ps_if (pt_cmpR op_gt (pe_call G3 hr (by rfl) m3 k3 b3 .nil pass0 (pa_cons (pv 2) (pa_cons (pe_op op_sub (pv 1) pe_int) pa_nil))) (pe_glob (v := .int 500) (by rfl) G.MLIST ⟨_, rfl⟩) (nomark _)) pss_never pss_nil)
      (pss_cons (ps_par (i := 3) (j := 4) rfl nd rfl rfl (by decide) rfl rfl (pa_cons pe_memo0 (pa_cons (pe_lst (pa_cons (pe_tup (pa_cons (pe_tup pa_nil) (pa_cons (pe_call0 G4 hr (by rfl) m4 k4 b4 .nil pass0) pa_nil))) pa_nil)) pa_nil)) rfl)
      (pss_cons (ps_for PassesOwn.never rfl (pi_range1 (by rfl) G.range_ (pa_cons (pe_op op_sub (pv 1) pe_int) pa_nil)) (pg_name (i := 5) nd rfl (.inl rfl))
        (pss_cons (ps_set (i := 6) nd rfl (.inl rfl) (pe_lst pa_nil))
        (pss_cons (ps_for PassesOwn.never rfl (pi_list (pv 4)) (pg_tup rfl (pgs_cons (pg_name (i := 7) nd rfl (.inl rfl)) (pgs_cons (pg_name (i := 8) nd rfl (.inl rfl)) pgs_nil)))
          (pss_one (ps_for PassesOwn.never rfl (pi_tup (pe_tup (pa_cons pe_int (pa_cons (pe_un un_neg pe_int) pa_nil)))) (pg_name (i := 9) nd rfl (.inl rfl))
            (pss_cons (ps_set (i := 10) nd rfl (.inl rfl) (pe_call G5 hr (by rfl) m5 k5 b5 .nil pass0 (pa_cons (pv 2) (pa_cons (pv 8) (pa_cons (pv 9) pa_nil)))))
            (pss_one (ps_if (pt_cmpR op_gt (pe_call G6 hr (by rfl) m6 k6 b6 .nil pass0 (pa_cons (pv 3) (pa_cons (pv 2) (pa_cons (pv 10) (pa_cons (pe_op op_sub (pe_op op_sub (pv 1) pe_int) (pv 5)) pa_nil))))) pe_int (nomark _))
              (pss_one (ps_expr (pe_bm PySem.F.plainAttrs_list PySem.F.slot_list_append PySem.F.type_list_append mt_append (pv 6) (pa_cons (pe_tup (pa_cons (pe_tup (pa_star (pv 7) (pa_cons (pv 9) pa_nil))) (pa_cons (pv 10) pa_nil))) pa_nil)))) pss_nil))))))
        (pss_one (ps_set (i := 4) nd rfl (.inl rfl) (pv 6))))))
      (pss_one (ps_ret (pe_callB cr_sortedLS (by rfl) G.sorted_ (by decide +kernel) (pa_cons (pe_lc (own := [("told", 7), ("state", 8)]) (g := gTup K 2 (gCons (gName 7) (gCons (gName 8) gNil))) (tt := tYes) rfl nd
        (pi_list (pv 4)) (blkOk_by (N := ["word", "size", "due", "known", "found", "turn", "longer", "told", "state", "step", "there"]) (sc := defScope dWordsAbove) (by decide +kernel))
        (fun _ _ _ _ _ => pg_tup rfl (pgs_cons (pg_name (i := 7) nd rfl (.inl rfl)) (pgs_cons (pg_name (i := 8) nd rfl (.inl rfl)) pgs_nil))) (fun _ _ _ _ _ => pts_nil)
        (fun _ _ _ _ _ => pe_call G7 hr (by rfl) m7 k7 b7 .nil pass0 (pa_cons (pe_ix ix_str (pv 0) pe_int (fun _ _ => rfl)) (pa_cons (pv 7) pa_nil)))) pa_nil)))))))), ?_⟩
    refine ⟨_, rfl, _, rfl, fi, u, (n : Int) + 1, rfl, h0, h3, pm, hl1, hl2, by omega, by omega, fun H1 s1 => ?_⟩
    refine ⟨_, rfl, fi, u, rfl, h0, h3, pm, by omega, fun H2 a s2 na ha => ?_⟩
    have esz : (n : Int) + 1 - 1 = (n : Int) := by omega
    refine ⟨_, rfl, _, rfl, _, _, rfl, rfl, a, u, n, (by show [V.ref a, V.int ((n : Int) + 1 - 1)] = _; rw [esz]), SqL.of ha, hl2, hn2, fun H3 s3 => ?_⟩
    refine ⟨_, _, rfl, rfl, _, rfl, dF (by show ¬ ((500 : Int) < ((acc u n).length : Nat)); omega) ?_⟩
    have ha3 := s3 _ _ ha
    have s123 : Same H H3 := s1.trans (s2.trans s3)
    refine fun d ndd => ⟨(by show 0 ≤ sizeLine; decide), fun p0 np0 => ⟨rfl, fun p1 np1 => ⟨(by show 2 ≤ sizeLine; decide), fun p2 np2 => ⟨(by show 1 ≤ sizeLine; decide), fun F0 nF0 => ⟨_, _, rfl, ?_⟩⟩⟩⟩⟩
    have hs4 : Same H3 (upd (upd (upd (upd (upd H3 d (memoO P w d [])) p0 (.tup [])) p1 (.tup (s5V s0))) p2 (.tup [.ref p0, .ref p1])) F0 (.lst [.ref p2])) := (same_upd ndd).trans ((same_upd np0).trans ((same_upd np1).trans ((same_upd np2).trans (same_upd nF0))))
    have hF4 : (upd (upd (upd (upd (upd H3 d (memoO P w d [])) p0 (.tup [])) p1 (.tup (s5V s0))) p2 (.tup [.ref p0, .ref p1])) F0 (.lst [.ref p2])) F0 = some (.lst [.ref p2]) := upd_same
    have hR4 : RowAt u (upd (upd (upd (upd (upd H3 d (memoO P w d [])) p0 (.tup [])) p1 (.tup (s5V s0))) p2 (.tup [.ref p0, .ref p1])) F0 (.lst [.ref p2])) p2 [] :=
      ⟨p0, p1, same_upd nF0 _ _ upd_same, same_upd nF0 _ _ (same_upd np2 _ _ (same_upd np1 _ _ upd_same)), same_upd nF0 _ _ (same_upd np2 _ _ upd_same)⟩
    have hM4 : Memo P w (upd (upd (upd (upd (upd H3 d (memoO P w d [])) p0 (.tup [])) p1 (.tup (s5V s0))) p2 (.tup [.ref p0, .ref p1])) F0 (.lst [.ref p2])) d [] :=
      ⟨same_upd nF0 _ _ (same_upd np2 _ _ (same_upd np1 _ _ (same_upd np0 _ _ upd_same))), (fun x hx => nomatch hx)⟩
    refine ⟨_, rfl, _, _, rfl, rfl, (n : Int) + 1 - 1, rfl, by omega, by omega, ?_⟩
    rw [show ((n : Int) + 1 - 1).toNat = n by omega]
    refine for_range (fun t σ H' => ∃ (Fa : Addr) (y5 y6 y7 y8 y9 y10 : Option V) (ls : List (Addr × List Int)) (xs : List (MK × Addr × Int)),
      σ = [some (.str (W fi u)), some (.int ((n : Int) + 1)), some (.ref a), some (.ref d), some (.ref Fa), y5, y6, y7, y8, y9, y10] ∧ Same H3 H' ∧ H' Fa = some (.lst (ls.map fun x => V.ref x.1)) ∧
      ls.map (·.2) = front u n t ∧ (∀ x ∈ ls, RowAt u H' x.1 x.2) ∧ Memo P w H' d xs ∧ MemoOk u xs ∧ xs.length ≤ t * 2 ^ n)
      ⟨F0, none, none, none, none, none, none, [(p2, [])], [], rfl, hs4, hF4, rfl, (fun x hx => (by rw [List.mem_singleton.mp hx]; exact hR4)), hM4, (fun x hx => nomatch hx), Nat.zero_le _⟩ (fun t σ H5 ht hP => ?_) (fun σ H5 hP => ?_)
    · obtain ⟨Fa, y5, y6, y7, y8, y9, y10, ls, xs, rfl, sm5, hF5, els, rows5, memo5, ok5, len5⟩ := hP
      refine ⟨(by show 0 ≤ sizeLine; decide), fun Lg nLg => ?_⟩
      have nLgd : Lg ≠ d := (ne_of_none memo5.1 nLg).symm
      have fl : (front u n t).length ≤ 2 ^ t := front_len n t
      have lls : ls.length = (front u n t).length := by rw [← els, List.length_map]
      have p2t : 2 ^ t ≤ 256 := Nat.le_trans (Nat.pow_le_pow_right (by decide) (by omega : t ≤ 8)) (by decide)
      have p2n : 2 ^ n ≤ 512 := Nat.le_trans (Nat.pow_le_pow_right (by decide) hn2) (by decide)
      have eC : 2 ^ (n - t) = 2 ^ (n - 1 - t) + 2 ^ (n - 1 - t) := by rw [show n - t = (n - 1 - t) + 1 by omega]; exact neg_pow2 _
      have eD : 2 ^ t * 2 ^ (n - t) = 2 ^ n := by rw [← Nat.pow_add]; congr 1; omega
      have mulC : ∀ i, i ≤ 2 ^ t → i * 2 ^ (n - t) ≤ 2 ^ n := fun i hi => by rw [← eD]; exact Nat.mul_le_mul_right _ hi
      have mulT : t * 2 ^ n ≤ 8 * 512 := Nat.mul_le_mul (by omega) p2n
      refine ⟨_, rfl, Fa, rfl, ⟨_, SqL.of (same_upd nLg _ _ hF5)⟩, ?_⟩
      refine for_list (xs := ls.map fun x => V.ref x.1) (fun i σ H' => ∃ (y7 y8 y9 y10 : Option V) (ms : List (Addr × List Int)) (xs' : List (MK × Addr × Int)),
        σ = [some (.str (W fi u)), some (.int ((n : Int) + 1)), some (.ref a), some (.ref d), some (.ref Fa), some (.int (0 + (t : Int))), some (.ref Lg), y7, y8, y9, y10] ∧ Same H3 H' ∧ KT H5 H' ∧ H' Fa = some (.lst (ls.map fun x => V.ref x.1)) ∧
        H' Lg = some (.lst (ms.map fun x => V.ref x.1)) ∧ ms.map (·.2) = ((front u n t).take i).flatMap (fun v => cand u n t v 2) ∧ (∀ x ∈ ms, RowAt u H' x.1 x.2) ∧ Memo P w H' d xs' ∧ MemoOk u xs' ∧ xs'.length ≤ t * 2 ^ n + i * 2 ^ (n - t))
        ⟨y7, y8, y9, y10, [], xs, rfl, sm5.trans (same_upd nLg), KT.same (same_upd nLg), same_upd nLg _ _ hF5, upd_same, rfl, (fun x hx => nomatch hx), Memo_same memo5 (same_upd nLg), ok5, by omega⟩
        (fun i σ H6 _ hP => ?_) (fun i x σ H6 hx hP => ?_) (fun σ H6 hP => ?_)
      · obtain ⟨y7, y8, y9, y10, ms, xs', rfl, sm6, kt6, hF6, hL6, ems, rows6, memo6, ok6, len6⟩ := hP
        exact SqL.of hF6
      · obtain ⟨y7, y8, y9, y10, ms, xs', rfl, sm6, kt6, hF6, hL6, ems, rows6, memo6, ok6, len6⟩ := hP
        rw [List.getElem?_map] at hx
        obtain ⟨⟨pr, v⟩, er, ex⟩ := Option.map_eq_some_iff.mp hx
        subst ex
        have hi : i < ls.length := (List.getElem?_eq_some_iff.mp er).1
        have ev : (front u n t)[i]? = some v := by rw [← els, List.getElem?_map, er]; rfl
        obtain ⟨tl, st, r1, r2, r3⟩ := (rows5 _ (List.mem_of_getElem? er)).keeps kt6
        refine ⟨pr, _, rfl, SqT.of r1, rfl, _, _, rfl, _, _, rfl, rfl, ?_⟩
        refine ⟨1, rfl, (by show 2 ≤ sizeLine; decide), fun pt npt => ⟨pt, rfl, ⟨_, SqT.of upd_same⟩, ?_⟩⟩
        have mulI := mulC (i + 1) (by omega)
        have mulE : (i + 1) * 2 ^ (n - t) = i * 2 ^ (n - t) + 2 ^ (n - t) := by rw [Nat.add_mul, Nat.one_mul]
        refine for_tup (xs := [.int 1, .int (-1)]) (fun j σ H' => ∃ (y9 y10 : Option V) (ms : List (Addr × List Int)) (xs' : List (MK × Addr × Int)),
          σ = [some (.str (W fi u)), some (.int ((n : Int) + 1)), some (.ref a), some (.ref d), some (.ref Fa), some (.int (0 + (t : Int))), some (.ref Lg), some (.ref tl), some (.ref st), y9, y10] ∧ Same H3 H' ∧ KT H6 H' ∧ H' Fa = some (.lst (ls.map fun x => V.ref x.1)) ∧
          H' Lg = some (.lst (ms.map fun x => V.ref x.1)) ∧ H' pt = some (.tup [.int 1, .int (-1)]) ∧ ms.map (·.2) = ((front u n t).take i).flatMap (fun v => cand u n t v 2) ++ cand u n t v j ∧ (∀ x ∈ ms, RowAt u H' x.1 x.2) ∧ Memo P w H' d xs' ∧ MemoOk u xs' ∧
          xs'.length ≤ t * 2 ^ n + i * 2 ^ (n - t) + j * 2 ^ (n - 1 - t))
          ⟨y9, y10, ms, xs', rfl, sm6.trans (same_upd npt), KT.same (same_upd npt), same_upd npt _ _ hF6, same_upd npt _ _ hL6, upd_same, by rw [ems]; exact (List.append_nil _).symm, fun x hx => (rows6 x hx).keeps (KT.same (same_upd npt)), Memo_same memo6 (same_upd npt), ok6, by omega⟩
          (fun j σ H7 _ hP => ?_) (fun j x σ H7 hx2 hP => ?_) (fun σ H7 hP => ?_)
        · obtain ⟨y9, y10, ms, xs', rfl, sm7, kt7, hF7, hL7, hpt, ems, rows7, memo7, ok7, len7⟩ := hP
          exact SqT.of hpt
        · obtain ⟨y9, y10, ms, xs', rfl, sm7, kt7, hF7, hL7, hpt, ems, rows7, memo7, ok7, len7⟩ := hP
          have hx3 : (([1, -1] : List Int).map V.int)[j]? = some x := hx2
          rw [List.getElem?_map] at hx3
          obtain ⟨c, ec, ex⟩ := Option.map_eq_some_iff.mp hx3
          subst ex
          have hj : j < 2 := (List.getElem?_eq_some_iff.mp ec).1
          have mulJ : j * 2 ^ (n - 1 - t) ≤ 2 ^ (n - 1 - t) := by
            have : j ≤ 1 := by omega
            exact Nat.le_trans (Nat.mul_le_mul_right _ this) (by omega)
          have mulJ2 : (j + 1) * 2 ^ (n - 1 - t) = j * 2 ^ (n - 1 - t) + 2 ^ (n - 1 - t) := by rw [Nat.add_mul, Nat.one_mul]
          have ha7 := sm7 _ _ ha3
          refine ⟨_, rfl, _, rfl, _, rfl, a, st, u, run u v, c, rfl, SqL.of ha7, SqT.of (kt7 _ _ r3), hl2, fun H8 r sm nr hr1 => ?_⟩
          rw [← run_snoc] at hr1
          have memo8 := Memo_same memo7 sm
          have ecs := cand_snoc u n t v j c ec
          refine ⟨_, rfl, _, rfl, _, rfl, _, rfl, _, _, rfl, rfl, _, rfl, _, _, rfl, rfl, d, a, r, u, run u (v ++ [c]), n - 1 - t, xs', ?_, by omega, SqL.of (sm _ _ ha7), hl2, hr1, memo8, ok7, by omega, fun H9 xs9 sx memo9 ok9 len9 _ => ?_⟩
          · show [V.ref d, V.ref a, V.ref r, V.int ((n : Int) + 1 - 2 - (0 + (t : Int)))] = _
            rw [show (n : Int) + 1 - 2 - (0 + (t : Int)) = ((n - 1 - t : Nat) : Int) by omega]
          · have kt9 : KT H7 H9 := (KT.same sm).trans (KT.x memo8 sx)
            have nF : ∀ {b xs}, H7 b = some (.lst xs) → H9 b = some (.lst xs) := fun e => sx _ _ (ne_of (sm _ _ e) memo8.1 (fun z => nomatch z)) (sm _ _ e)
            have sm9 : Same H3 H9 := fun b o e => sx _ _ (ne_of_none e ndd) (sm _ _ (sm7 _ _ e))
            have hL9 := nF hL7
            have mlen : ms.length ≤ 600 := by
              have e1 : ms.length = (ms.map (·.2)).length := (List.length_map ..).symm
              rw [e1, ems, List.length_append]
              have f1 := flat_len u n t 2 ((front u n t).take i)
              have f2 := cand_len u n t v j
              rw [List.length_take] at f1
              omega
            refine ⟨_, _, rfl, rfl, _, rfl, dE (fun z => ?_) (fun z => ?_)⟩
            · have z' : 0 < L u (run u (v ++ [c])) (n - 1 - t) := by
                have z2 : (0 : Int) < ((L u (run u (v ++ [c])) (n - 1 - t) : Nat) : Int) := z
                omega
              rw [if_pos z'] at ecs
              refine ⟨_, rfl, .inl ⟨rfl, _, SqL.of hL9⟩, _, rfl, tl, v.map V.int, rfl, SqT.of (kt9 _ _ (kt7 _ _ r2)), _, rfl, ?_, fun p5 np5 => ⟨_, rfl, (by show 2 ≤ sizeLine; decide), fun p6 np6 => ?_⟩⟩
              · have lv := (front_mem n t v (List.mem_of_getElem? ev)).2
                rw [List.length_append, List.length_map, lv]
                exact small200 (by simp only [List.length_cons, List.length_nil]; omega)
              · have hL10 := same_upd (o := .tup [.ref p5, .ref r]) np6 _ _ (same_upd (o := .tup (v.map V.int ++ [.int c])) np5 _ _ hL9)
                refine ⟨Lg, _, _, rfl, rfl, hL10, ?_, ?_⟩
                · rw [List.length_map]; exact small1000 (by omega)
                · have sA : Same H9 (upd (upd H9 p5 (.tup (v.map V.int ++ [.int c]))) p6 (.tup [.ref p5, .ref r])) := (same_upd np5).trans (same_upd np6)
                  have hp6 : (upd (upd H9 p5 (.tup (v.map V.int ++ [.int c]))) p6 (.tup [.ref p5, .ref r])) p6 = some (.tup [.ref p5, .ref r]) := upd_same
                  have hp5 : (upd (upd H9 p5 (.tup (v.map V.int ++ [.int c]))) p6 (.tup [.ref p5, .ref r])) p5 = some (.tup ((v ++ [c]).map V.int)) := by
                    rw [List.map_append]
                    exact same_upd np6 _ _ upd_same
                  have hr10 : (upd (upd H9 p5 (.tup (v.map V.int ++ [.int c]))) p6 (.tup [.ref p5, .ref r])) r = some (.tup (s5V (run u (v ++ [c])))) := sA _ _ (KT.x memo8 sx _ _ hr1)
                  generalize (upd (upd H9 p5 (.tup (v.map V.int ++ [.int c]))) p6 (.tup [.ref p5, .ref r])) = H10 at sA hp5 hp6 hr10 hL10
                  have ktp : ∀ {o' : HO}, KT H10 (upd H10 Lg o') := KT.put hL10 (fun ys z => nomatch z)
                  have ktx : ∀ {o' : HO}, KT H7 (upd H10 Lg o') := fun {o'} => (kt9.trans (KT.same sA)).trans ktp
                  have memo10 := Memo_same memo9 sA
                  refine ⟨_, _, ms ++ [(p6, v ++ [c])], xs9, rfl, same_ext (sm9.trans sA) (sm5.free nLg), kt7.trans ktx, ?_, ?_, ktx _ _ hpt, ?_, ?_, ?_, ok9, by omega⟩
                  · rw [upd_ne (ne_of_none hF5 nLg)]
                    exact sA _ _ (nF hF7)
                  · rw [upd_same, List.map_append]
                    rfl
                  · rw [List.map_append, ems, ecs, ← List.append_assoc]
                    rfl
                  · intro y hy
                    rcases List.mem_append.mp hy with hy | hy
                    · exact (rows7 y hy).keeps ktx
                    · rw [List.mem_singleton.mp hy]
                      exact ⟨p5, r, ktp _ _ hp6, ktp _ _ hp5, ktp _ _ hr10⟩
                  · refine ⟨by rw [upd_ne nLgd.symm]; exact memo10.1, fun y hy => (memo10.2 y hy).keeps ktp⟩
            · have z' : ¬ 0 < L u (run u (v ++ [c])) (n - 1 - t) := by
                have z2 : ¬ (0 : Int) < ((L u (run u (v ++ [c])) (n - 1 - t) : Nat) : Int) := z
                omega
              rw [if_neg z', List.append_nil] at ecs
              refine ⟨_, _, ms, xs9, rfl, sm9, kt7.trans kt9, nF hF7, hL9, kt9 _ _ hpt, by rw [ecs]; exact ems, fun x hx => (rows7 x hx).keeps kt9, memo9, ok9, by omega⟩
        · obtain ⟨y9, y10, ms, xs', rfl, sm7, kt7, hF7, hL7, hpt, ems, rows7, memo7, ok7, len7⟩ := hP
          refine ⟨_, _, _, _, ms, xs', rfl, sm7, kt6.trans kt7, hF7, hL7, ?_, rows7, memo7, ok7, ?_⟩
          · rw [ems, take_flat _ _ _ _ ev]
            rfl
          · have len8 : xs'.length ≤ t * 2 ^ n + i * 2 ^ (n - t) + 2 * 2 ^ (n - 1 - t) := len7
            omega
      · obtain ⟨y7, y8, y9, y10, ms, xs', rfl, sm6, kt6, hF6, hL6, ems, rows6, memo6, ok6, len6⟩ := hP
        refine ⟨_, rfl, ?_⟩
        refine ⟨Lg, _, _, _, _, _, _, ms, xs', rfl, sm6, hL6, ?_, rows6, memo6, ok6, ?_⟩
        · rw [ems, List.length_map, lls, List.take_length, front_flat]
        · rw [List.length_map, lls] at len6
          have e1 := mulC _ fl
          have e2 : (t + 1) * 2 ^ n = t * 2 ^ n + 2 ^ n := by rw [Nat.add_mul, Nat.one_mul]
          omega
    · obtain ⟨Fa, y5, y6, y7, y8, y9, y10, ls, xs, rfl, sm5, hF5, els, rows5, memo5, ok5, len5⟩ := hP
      refine ⟨_, rfl, Fa, rfl, ⟨_, SqL.of hF5⟩, fun D nD => ?_⟩
      have fl : (front u n n).length ≤ 500 := by rw [front_end n hn1]; exact hacc
      refine lc_list (xs := ls.map fun x => V.ref x.1) (fun i H' => Same H5 H' ∧ H' D = some (.lst (((front u n n).take i).map fun v => V.str (W fi v))))
        ⟨same_upd nD, upd_same⟩ (fun i H6 _ hP => SqL.of (hP.1 _ _ hF5)) (fun i x H6 hx hP => ?_) (fun H6 hP => ?_)
      · obtain ⟨sm6, hD⟩ := hP
        rw [List.getElem?_map] at hx
        obtain ⟨⟨pr, v⟩, er, ex⟩ := Option.map_eq_some_iff.mp hx
        subst ex
        have ev : (front u n n)[i]? = some v := by rw [← els, List.getElem?_map, er]; rfl
        have hi : i < (front u n n).length := (List.getElem?_eq_some_iff.mp ev).1
        obtain ⟨tl, st, r1, r2, r3⟩ := (rows5 _ (List.mem_of_getElem? er)).keeps (KT.same sm6)
        have lv := (front_mem n n v (List.mem_of_getElem? ev)).2
        refine ⟨pr, _, rfl, SqT.of r1, rfl, _, _, rfl, _, _, rfl, rfl, ?_⟩
        refine ⟨rfl, _, rfl, W fi u, 0, code fi, rfl, rfl, by rw [W_len]; exact small200 (by omega), ?_, _, rfl, fi, v, tl, rfl, h0, h3, SqT.of r2, by omega, fun H7 sm7 => ?_⟩
        · have e0 := codes_get u fi 0 h0 h3 (Nat.zero_le _)
          rw [List.take_zero, at3_nil h0 h3] at e0
          exact atI_nat (j := 0) e0
        · refine ⟨_, sm7 _ _ hD, ?_, same_ext (sm6.trans sm7) nD, ?_⟩
          · rw [List.length_map, List.length_take]; exact small1000 (by omega)
          · rw [upd_same, List.take_add_one, ev, List.map_append]
            rfl
      · obtain ⟨sm6, hD⟩ := hP
        have lls : ls.length = (front u n n).length := by rw [← els, List.length_map]
        rw [List.length_map, lls, List.take_length, front_end n hn1] at hD
        refine ⟨D, (acc u n).map (W fi), rfl, SqL.of (by rw [hD, List.map_map]; rfl), fun ys p hp hs np => ?_⟩
        have smA := s123.trans (sm5.trans sm6)
        exact q _ p ys (smA.trans (same_upd np)) (smA.free np) upd_same hp hs
end
end K28
set_option Elab.async false
set_option linter.all false
set_option maxRecDepth 100000
set_option maxHeartbeats 8000000
/-! _law_taken, _law_pick. -/
namespace K28
open PySem PySem.Spec PyProof.Rows L2
/-- the drawing row at p over the script at a -/
def RowP (H : Hp) (p a : Addr) : Prop := ∃ i s c : Int, H p = some (.lst [.ref a, .int i, .int s, .int c]) ∧ 0 ≤ i ∧ 0 ≤ s ∧ s < 2147483647
theorem SqL_row {K : PySem.W.Frag} {H H' : Hp} {a b p : Addr} {ns : List Int} {ys : List V} (h : SqL K H a (ns.map V.int)) (hp : H p = some (.lst (.ref b :: ys))) (s : SameX p H H') : SqL K H' a (ns.map V.int) := by
  have ne : (V.ref b :: ys) ≠ ns.map V.int := fun z => by
    cases ns with
    | nil => cases z
    | cons n r => injection z with z1 z2; cases z1
  exact h.elim (fun z => .inl (z.elim (fun e => .inl (s _ _ (fun y => by rw [y, hp] at e; injection e with e; injection e with e; exact ne e) e)) fun ⟨o, e⟩ => .inr ⟨o, s _ _ (fun y => by rw [y, hp] at e; cases e) e⟩)) .inr
theorem sameX_upd {H : Hp} {p : Addr} {o : HO} : SameX p H (upd H p o) := fun b x hb e => by rw [upd_ne hb]; exact e
section
variable {P : Program} {w : World} {K : PySem.W.Frag} {mg : Str → Option Value} {base : Heap} {t1 t2 t3 t4 t5 : Tok}
def spTaken (K : PySem.W.Frag) : Sp := fun vs H Q _ => ∃ (p a : Addr) (ns : List Int) (m : Int), vs = [.ref p, .int m] ∧ 1 ≤ m ∧ m ≤ 1000 ∧ SqL K H a (ns.map V.int) ∧ RowP H p a ∧
  ∀ H' r, 0 ≤ r → r < m → SameX p H H' → RowP H' p a → Q (.int r) H'
theorem ok_taken {f : Addr} {fd : FuncData} {k : Nat} (F : Fun K "_law_taken" "_law_taken" dTaken f fd) (G : Gb mg t1 t2 t3 t4 t5) : FnOk P w K mg base CX0 (k + 1) f fd ["_law_row", "_law_many"] (spTaken K) := by
  refine F.ok scTaken (fun vs H Q E h => ?_) (fun cdv A outer sh H vs Q E hr h => ?_)
  · obtain ⟨p, a, ns, m, rfl, _⟩ := h; rfl
  · obtain ⟨p, a, ns, m, rfl, hm1, hm2, hs, ⟨i, s, c, hp, hi, hs0, hs1⟩, q⟩ := h
    have nd := scTaken.nd
    refine ⟨_, pss_cons (ps_if (pt_cmpR op_gt (pe_ix ix_list (pv 0) pe_int (fun _ _ => rfl)) pe_int (nomark _))
        (pss_cons (ps_set (i := 2) nd rfl (.inl rfl) (pe_op op_mod (pe_callTy call_int1 (by rfl) G.int_ (by decide +kernel) (pa_cons (pe_ix ix_list (pv 0) pe_int (fun _ _ => rfl)) pa_nil)) (pv 1)))
        (pss_cons (ps_asg (pe_op op_fdiv (pe_ix ix_list (pv 0) pe_int (fun _ _ => rfl)) (pv 1)) (pg_sub (pv 0) pe_int set_list))
        (pss_one (ps_ret (pv 2))))) pss_nil)
      (pss_cons (ps_asg (pe_op op_add (pe_ix ix_list (pv 0) pe_int (fun _ _ => rfl)) pe_int) (pg_sub (pv 0) pe_int set_list))
      (pss_cons (ps_if (pt_cmpR op_gt (pe_ix ix_list (pv 0) pe_int (fun _ _ => rfl)) (pe_callB call_len_seq (by rfl) G.len_ PySem.boot_len (pa_cons (pe_ix ix_list (pv 0) pe_int (fun _ _ => rfl)) pa_nil)) (nomark _))
        (pss_cons (ps_asg (pe_op op_mod (pe_callTy call_int1 (by rfl) G.int_ (by decide +kernel) (pa_cons (pe_op op_add (pe_op op_mul (pe_ix ix_list (pv 0) pe_int (fun _ _ => rfl)) pe_int) pe_int) pa_nil)) pe_int) (pg_sub (pv 0) pe_int set_list))
        (pss_one (ps_ret (pe_op op_mod (pe_callTy call_int1 (by rfl) G.int_ (by decide +kernel) (pa_cons (pe_op op_fdiv (pe_ix ix_list (pv 0) pe_int (fun _ _ => rfl)) pe_int) pa_nil)) (pv 1))))) pss_nil)
      (pss_cons (ps_set (i := 3) nd rfl (.inl rfl) (pe_ix ix_list (pe_ix ix_list (pv 0) pe_int (fun _ _ => rfl)) (pe_op op_sub (pe_ix ix_list (pv 0) pe_int (fun _ _ => rfl)) pe_int) (fun _ _ => rfl)))
      (pss_cons (ps_asg (pe_op op_mod (pe_callTy call_int1 (by rfl) G.int_ (by decide +kernel) (pa_cons (pe_op op_add (pe_op op_add (pe_op op_mul (pe_ix ix_list (pv 0) pe_int (fun _ _ => rfl)) pe_int) (pv 3)) pe_int) pa_nil)) pe_int) (pg_sub (pv 0) pe_int set_list))
      (pss_cons (ps_if (pt_cmpR op_ge (pv 3) (pe_op op_pow pe_int pe_int) (nomark _)) (pss_one (ps_asg (pe_op op_fdiv (pv 3) (pv 1)) (pg_sub (pv 0) pe_int set_list))) pss_nil)
      (pss_one (ps_ret (pe_op op_mod (pe_callTy call_int1 (by rfl) G.int_ (by decide +kernel) (pa_cons (pv 3) pa_nil)) (pv 1))))))))), ?_⟩
    have fin : ∀ (H' : Hp) (i' s' c' r : Int), SameX p H H' → H' p = some (.lst [.ref a, .int i', .int s', .int c']) → 0 ≤ i' → 0 ≤ s' → s' < 2147483647 → Q (.int (r % m)) H' := fun H' i' s' c' r sx hp' h1 h2 h3 =>
      q H' _ (Int.emod_nonneg _ (by omega)) (Int.emod_lt_of_pos _ (by omega)) sx ⟨i', s', c', hp', h1, h2, h3⟩
    refine ⟨_, rfl, p, _, _, _, rfl, rfl, SqL.of hp, rfl, _, _, rfl, rfl, _, rfl, dE (fun z => ?_) (fun z => ?_)⟩
    · refine ⟨_, rfl, p, _, _, _, rfl, rfl, SqL.of hp, rfl, .inl ⟨_, rfl, _, rfl, _, _, rfl, rfl, (by omega), ?_⟩⟩
      refine ⟨_, rfl, p, _, _, _, rfl, rfl, SqL.of hp, rfl, _, rfl, _, _, rfl, rfl, ⟨by omega, by omega⟩, _, rfl, p, _, _, 3, rfl, rfl, hp, rfl, ?_⟩
      exact ⟨_, rfl, fin _ i s _ c sameX_upd upd_same hi hs0 hs1⟩
    · refine ⟨_, rfl, p, _, _, _, rfl, rfl, SqL.of hp, rfl, _, _, rfl, rfl, _, rfl, p, _, _, 1, rfl, rfl, hp, rfl, ?_⟩
      have hp1 : (upd H p (.lst [.ref a, .int (i + 1), .int s, .int c])) p = some (.lst [.ref a, .int (i + 1), .int s, .int c]) := upd_same
      have sx1 : SameX p H (upd H p (.lst [.ref a, .int (i + 1), .int s, .int c])) := sameX_upd
      have hs' := SqL_row hs hp sx1
      have sx2 : ∀ o o2 : HO, SameX p H (upd (upd H p o) p o2) := fun o o2 b x hb e => by rw [upd_ne hb, upd_ne hb]; exact e
      have sx3 : ∀ o o2 o3 : HO, SameX p H (upd (upd (upd H p o) p o2) p o3) := fun o o2 o3 b x hb e => by rw [upd_ne hb, upd_ne hb, upd_ne hb]; exact e
      have m0 : ∀ x : Int, 0 ≤ x % 2147483647 ∧ x % 2147483647 < 2147483647 := fun x => ⟨Int.emod_nonneg _ (by decide), Int.emod_lt_of_pos _ (by decide)⟩
      refine ⟨_, rfl, p, _, _, _, rfl, rfl, SqL.of hp1, rfl, _, rfl, p, _, _, _, rfl, rfl, SqL.of hp1, rfl, a, ns.map V.int, rfl, .inl hs', _, _, rfl, rfl, _, rfl, dE (fun y => ?_) (fun y => ?_)⟩
      · refine ⟨_, rfl, p, _, _, _, rfl, rfl, SqL.of hp1, rfl, _, _, rfl, rfl, .inl ⟨by omega, by omega⟩, _, _, rfl, rfl, .inl ⟨_, rfl, _, _, rfl, rfl, (by show (0 : Int) < 2147483647; decide), _, rfl, p, _, _, 2, rfl, rfl, hp1, rfl, ?_⟩⟩
        refine ⟨_, rfl, p, _, _, _, rfl, rfl, SqL.of upd_same, rfl, _, _, rfl, rfl, ⟨by decide, by decide⟩, .inl ⟨_, rfl, _, rfl, _, _, rfl, rfl, (by omega), ?_⟩⟩
        exact fin _ (i + 1) _ c _ (sx2 _ _) upd_same (by omega) (m0 _).1 (m0 _).2
      · have hlt : i < ns.length := by
          have y' : ¬ (((ns.map V.int).length : Nat) : Int) < i + 1 := y
          rw [List.length_map] at y'
          omega
        obtain ⟨j, rfl⟩ : ∃ j : Nat, i = (j : Int) := ⟨i.toNat, by omega⟩
        have hj : j < ns.length := by omega
        have hat : atI (ns.map V.int) ((j : Int) + 1 - 1) = some (.int ns[j]) := by
          rw [show (j : Int) + 1 - 1 = (j : Int) by omega]
          refine atI_nat ?_
          rw [List.getElem?_map, List.getElem?_eq_getElem hj]
          rfl
        generalize ns[j] = cell at hat
        refine ⟨_, rfl, p, _, _, _, rfl, rfl, SqL.of hp1, rfl, _, rfl, p, _, _, _, rfl, rfl, SqL.of hp1, rfl, _, _, rfl, rfl, a, ns.map V.int, _, _, rfl, rfl, hs', hat, ?_⟩
        refine ⟨_, rfl, p, _, _, _, rfl, rfl, SqL.of hp1, rfl, _, _, rfl, rfl, .inl ⟨by omega, by omega⟩, _, rfl, _, _, rfl, rfl, _, _, rfl, rfl, .inl ⟨_, rfl, _, _, rfl, rfl, (by show (0 : Int) < 2147483647; decide), _, rfl, p, _, _, 2, rfl, rfl, hp1, rfl, ?_⟩⟩
        refine ⟨_, rfl, _, _, rfl, rfl, ⟨by decide, by decide, by decide⟩, _, _, rfl, rfl, _, rfl, dE (fun x => ?_) (fun x => ?_)⟩
        · refine ⟨_, rfl, _, rfl, _, _, rfl, rfl, ⟨by omega, by omega⟩, _, rfl, p, _, _, 3, rfl, rfl, upd_same, rfl, ?_⟩
          refine ⟨_, rfl, .inl ⟨_, rfl, _, rfl, _, _, rfl, rfl, (by omega), ?_⟩⟩
          exact fin _ ((j : Int) + 1) _ _ _ (sx3 _ _ _) upd_same (by omega) (m0 _).1 (m0 _).2
        · refine ⟨_, rfl, .inl ⟨_, rfl, _, rfl, _, _, rfl, rfl, (by omega), ?_⟩⟩
          exact fin _ ((j : Int) + 1) _ c _ (sx2 _ _) upd_same (by omega) (m0 _).1 (m0 _).2
def spPick (K : PySem.W.Frag) : Sp := fun vs H Q _ => ∃ (p a : Addr) (ns : List Int), SqL K H a (ns.map V.int) ∧ RowP H p a ∧
  ((∃ (L : Addr) (ms : List Int), vs = [.ref p, .ref L] ∧ 1 ≤ ms.length ∧ ms.length ≤ 1000 ∧ SqL K H L (ms.map V.int) ∧ ∀ H' x, x ∈ ms → SameX p H H' → RowP H' p a → Q (.int x) H') ∨
   (vs = [.ref p, .str "abc"] ∧ ∀ H' (c : Int), 0 ≤ c → c < 3 → SameX p H H' → RowP H' p a → Q (.str (sign (code c))) H'))
theorem ok_pick {f f1 : Addr} {fd d1 : FuncData} {k : Nat} (F : Fun K "_law_pick" "_law_pick" dPick f fd) (G : Gb mg t1 t2 t3 t4 t5)
    (G1 : FnOk P w K mg base CX0 k f1 d1 ["_law_row", "_law_many"] (spTaken K)) (k1 : PySem.W.keepIn K (.ref f1) = true) (b1 : Binds K d1 ["_law_row", "_law_many"] []) (m1 : mg "_law_taken" = some (.ref f1)) :
    FnOk P w K mg base CX0 (k + 1) f fd ["_law_row", "_law_things"] (spPick K) := by
  refine F.ok scPick (fun vs H Q E h => ?_) (fun cdv A outer sh H vs Q E hr h => ?_)
  · obtain ⟨p, a, ns, _, _, h⟩ := h
    rcases h with ⟨L, ms, rfl, _⟩ | ⟨rfl, _⟩ <;> rfl
  · obtain ⟨p, a, ns, hs, hrow, h⟩ := h
    rcases h with ⟨L, ms, rfl, h1, h2, hL, q⟩ | ⟨rfl, q⟩
    · refine ⟨_, pss_one (ps_ret (pe_ix ix_list (pv 1) (pe_call G1 hr (by rfl) m1 k1 b1 .nil pass0 (pa_cons (pv 0) (pa_cons (pe_callB call_len_seq (by rfl) G.len_ PySem.boot_len (pa_cons (pv 1) pa_nil)) pa_nil))) (fun _ _ => rfl))), ?_⟩
      obtain ⟨i, s, c, hp, _⟩ := id hrow
      refine ⟨_, rfl, _, rfl, _, rfl, L, ms.map V.int, rfl, .inl hL, p, a, ns, ((ms.map V.int).length : Nat), rfl, by rw [List.length_map]; omega, by rw [List.length_map]; omega, hs, hrow, fun H' r h0 h3 sx rp => ?_⟩
      obtain ⟨j, rfl⟩ : ∃ j : Nat, r = (j : Int) := ⟨r.toNat, by omega⟩
      have hj : j < ms.length := by rw [List.length_map] at h3; omega
      refine ⟨L, ms.map V.int, _, .int ms[j], rfl, rfl, SqL_row hL hp sx, atI_nat (by rw [List.getElem?_map, List.getElem?_eq_getElem hj]; rfl), q H' _ (List.getElem_mem hj) sx rp⟩
    · refine ⟨_, pss_one (ps_ret (pe_ix ix_str (pv 1) (pe_call G1 hr (by rfl) m1 k1 b1 .nil pass0 (pa_cons (pv 0) (pa_cons (pe_callB call_len_str (by rfl) G.len_ PySem.boot_len (pa_cons (pv 1) pa_nil)) pa_nil))) (fun _ _ => rfl))), ?_⟩
      have e3 : ("abc" : Str).length = 3 := by decide +kernel
      refine ⟨_, rfl, _, rfl, _, rfl, "abc", rfl, by rw [e3]; decide, p, a, ns, (("abc" : Str).length : Nat), rfl, by rw [e3]; decide, by rw [e3]; decide, hs, hrow, fun H' r h0 h3 sx rp => ?_⟩
      rw [e3] at h3
      have e := Int.toNat_of_nonneg h0
      refine ⟨"abc", r, code r, rfl, rfl, by rw [e3]; decide, by rw [← e]; refine atI_nat ?_; rw [e]; exact letter_at h0 h3, q H' r h0 h3 sx rp⟩
end
end K28
set_option Elab.async false
set_option linter.all false
set_option maxRecDepth 100000
set_option maxHeartbeats 8000000
/-! _law_word, _law_any. -/
namespace K28
open PySem PySem.Spec PyProof.Rows L2
theorem W_snoc (f : Int) (u : List Int) (x : Int) (h0 : 0 ≤ f) (h3 : f < 3) : W f u ++ sign (code (at3 f (u ++ [x]))) = W f (u ++ [x]) := by
  refine TL.ext_tl ?_
  rw [TL.tl_append]
  show codes f u ++ [code (at3 f (u ++ [x]))] = codes f (u ++ [x])
  rw [codes_snoc _ _ _ h0 h3]
section
variable {P : Program} {w : World} {K : PySem.W.Frag} {mg : Str → Option Value} {base : Heap} {t1 t2 t3 t4 t5 : Tok}
def spLawWord (K : PySem.W.Frag) : Sp := fun vs H Q _ => ∃ (f : Int) (u : List Int) (a : Addr), vs = [.str (sign (code f)), .ref a] ∧ 0 ≤ f ∧ f < 3 ∧ SqL K H a (u.map V.int) ∧ u.length ≤ 199 ∧ Q (.str (W f u)) H
theorem ok_lawWord {f : Addr} {fd : FuncData} {k : Nat} (F : Fun K "_law_word" "_law_word" dLawWord f fd) (G : Gb mg t1 t2 t3 t4 t5) : FnOk P w K mg base CX0 (k + 1) f fd ["_law_first", "_law_line"] (spLawWord K) := by
  refine F.ok scLawWord (fun vs H Q E h => ?_) (fun cdv A outer s H vs Q E hr h => ?_)
  · obtain ⟨a, u, p, rfl, _⟩ := h; rfl
  · obtain ⟨a, u, p, rfl, h0, h3, ht, hl, q⟩ := h
    have nd := scLawWord.nd
    refine ⟨_, pss_cons (ps_par (i := 2) (j := 3) rfl nd rfl rfl (by decide) rfl rfl (pa_cons (pe_idx (K0 := K) rfl pe_str (pa_cons (pv 0) pa_nil)) (pa_cons (pv 0) pa_nil)) rfl)
      (pss_cons (ps_for PassesOwn.never rfl (pi_list (pv 1)) (pg_name (i := 4) nd rfl (.inl rfl))
        (pss_cons (ps_set (i := 2) nd rfl (.inl rfl) (pe_op op_mod (pe_op op_add (pv 2) (pv 4)) pe_int))
          (pss_one (ps_set (i := 3) nd rfl (.inl rfl) (pe_op op_add_str (pv 3) (pe_ix ix_str pe_str (pv 2) (fun _ _ => rfl)))))))
      (pss_one (ps_ret (pv 3)))), ?_⟩
    refine ⟨rfl, _, rfl, a, rfl, rfl, h0, h3, _, rfl, _, _, rfl, ?_⟩
    refine ⟨.ref p, rfl, p, rfl, ⟨_, ht⟩, for_list (xs := u.map V.int) (fun i σ H' => ∃ y, σ = [some (.str (sign (code a))), some (.ref p), some (.int (at3 a (u.take i))), some (.str (W a (u.take i))), y] ∧ H' = H)
      ⟨none, by rw [List.take_zero, at3_nil h0 h3]; rfl, rfl⟩ (fun i σ H' _ hP => ?_) (fun i x σ H1 hx hP => ?_) (fun σ H1 hP => ?_)⟩
    · obtain ⟨y, rfl, rfl⟩ := hP
      exact ht
    · obtain ⟨y, rfl, rfl⟩ := hP
      rw [List.getElem?_map] at hx
      obtain ⟨j, ej, ex⟩ := Option.map_eq_some_iff.mp hx
      subst ex
      obtain ⟨hi, ej2⟩ := List.getElem?_eq_some_iff.mp ej
      have st := step_at (f := a) ej
      have r2 := at3_range a (u.take (i + 1))
      have etk : u.take (i + 1) = u.take i ++ [j] := by rw [List.take_add_one, ej]; rfl
      refine ⟨_, rfl, _, rfl, _, _, rfl, rfl, _, _, rfl, rfl, (by show (0 : Int) < 3; decide), ?_⟩
      have r3 : (0 : Int) ≤ at3 a (u.take i ++ [j]) ∧ at3 a (u.take i ++ [j]) < 3 := at3_range _ _
      have st2 : (at3 a (u.take i) + j) % 3 = at3 a (u.take i ++ [j]) := (at3_snoc a j (u.take i)).symm
      have e := Int.toNat_of_nonneg r3.1
      refine ⟨_, rfl, _, rfl, "abc", at3 a (u.take i ++ [j]), code (at3 a (u.take i ++ [j])), rfl, congrArg V.int st2, by decide +kernel, by rw [← e]; refine atI_nat ?_; rw [e]; exact letter_at r3.1 r3.2, W a (u.take i), _, rfl, rfl, ?_, some (.int j), ?_, rfl⟩
      · rw [W_len, List.length_take]
        refine small200 ?_
        have e1 : (sign (code (at3 a (u.take i ++ [j])))).length = 1 := rfl
        show min i u.length + 1 + (sign (code (at3 a (u.take i ++ [j])))).length ≤ 1000
        rw [e1]
        omega
      · rw [etk, ← W_snoc a (u.take i) j h0 h3, ← st2]
        rfl
    · obtain ⟨y, rfl, rfl⟩ := hP
      refine ⟨_, rfl, ?_⟩
      rw [List.length_map, List.take_length]
      exact q
def spAny (K : PySem.W.Frag) : Sp := fun vs H Q _ => ∃ (p a : Addr) (ns : List Int) (m : Int), vs = [.ref p, .int m] ∧ 2 ≤ m ∧ m ≤ 6 ∧ SqL K H a (ns.map V.int) ∧ RowP H p a ∧
  ∀ H' f u, 0 ≤ f → f < 3 → PM u → 1 ≤ u.length → u.length ≤ 5 → SameX p H H' → RowP H' p a → Q (.str (W f u)) H'
theorem ok_any {f f1 f2 f3 : Addr} {fd d1 d2 d3 : FuncData} {k : Nat} (F : Fun K "_law_any" "_law_any" dAny f fd) (G : Gb mg t1 t2 t3 t4 t5)
    (G1 : FnOk P w K mg base CX0 k f1 d1 ["_law_row", "_law_many"] (spTaken K)) (k1 : PySem.W.keepIn K (.ref f1) = true) (b1 : Binds K d1 ["_law_row", "_law_many"] []) (m1 : mg "_law_taken" = some (.ref f1))
    (G2 : FnOk P w K mg base CX0 k f2 d2 ["_law_row", "_law_things"] (spPick K)) (k2 : PySem.W.keepIn K (.ref f2) = true) (b2 : Binds K d2 ["_law_row", "_law_things"] []) (m2 : mg "_law_pick" = some (.ref f2))
    (G3 : FnOk P w K mg base CX0 k f3 d3 ["_law_first", "_law_line"] (spLawWord K)) (k3 : PySem.W.keepIn K (.ref f3) = true) (b3 : Binds K d3 ["_law_first", "_law_line"] []) (m3 : mg "_law_word" = some (.ref f3)) :
    FnOk P w K mg base CX0 (k + 1) f fd ["_law_row", "_law_most"] (spAny K) := by
  refine F.ok scAny (fun vs H Q E h => ?_) (fun cdv A outer sh H vs Q E hr h => ?_)
  · obtain ⟨p, a, ns, m, rfl, _⟩ := h; rfl
  · obtain ⟨p, a, ns, m, rfl, hm1, hm2, hs, hrow, q⟩ := h
    have nd := scAny.nd
    refine ⟨_, pss_cons (ps_set (i := 2) nd rfl (.inl rfl) (pe_op op_add pe_int (pe_call G1 hr (by rfl) m1 k1 b1 .nil pass0 (pa_cons (pv 0) (pa_cons (pe_op op_sub (pv 1) pe_int) pa_nil)))))
      (pss_one (ps_ret (pe_call G3 hr (by rfl) m3 k3 b3 .nil pass0 (pa_cons (pe_call G2 hr (by rfl) m2 k2 b2 .nil pass0 (pa_cons (pv 0) (pa_cons pe_str pa_nil)))
        (pa_cons (pe_lc (own := [("_law_turn", 3)]) (g := gName 3) (tt := tYes) rfl nd (pi_range1 (by rfl) G.range_ (pa_cons (pv 2) pa_nil)) (blkOk_by (N := ["_law_row", "_law_most", "_law_many", "_law_turn"]) (sc := defScope dAny) (by decide +kernel))
          (fun _ _ _ _ _ => pg_name (i := 3) nd rfl (.inl rfl)) (fun _ _ _ _ _ => pts_nil)
          (fun _ _ _ _ _ => pe_call G2 hr (by rfl) m2 k2 b2 .nil pass0 (pa_cons (pv 0) (pa_cons (pe_lst (pa_cons pe_int (pa_cons (pe_un un_neg pe_int) pa_nil))) pa_nil)))) pa_nil))))), ?_⟩
    refine ⟨_, rfl, _, rfl, _, _, rfl, rfl, p, a, ns, m - 1, rfl, by omega, by omega, hs, hrow, fun H1 r hr0 hr1 sx1 row1 => ?_⟩
    refine ⟨1, r, rfl, rfl, ?_⟩
    have hs1 : SqL K H1 a (ns.map V.int) := by obtain ⟨i, s, c, hp, _⟩ := hrow; exact SqL_row hs hp sx1
    refine ⟨_, rfl, p, a, ns, hs1, row1, .inr ⟨rfl, fun H2 c hc0 hc3 sx2 row2 => ?_⟩⟩
    have hs2 : SqL K H2 a (ns.map V.int) := by obtain ⟨i, s, c, hp, _⟩ := row1; exact SqL_row hs1 hp sx2
    refine ⟨_, rfl, _, rfl, by omega, by omega, fun D nD => ?_⟩
    have npD : D ≠ p := by obtain ⟨i, s, c, hp, _⟩ := row2; exact (ne_of_none hp nD).symm
    refine lc_range (fun i H' => SameX p H2 H' ∧ RowP H' p a ∧ SqL K H' a (ns.map V.int) ∧ ∃ us, PM us ∧ us.length = i ∧ H' D = some (.lst (us.map V.int))) ⟨sameX (same_upd nD), ?_, SqL_same hs2 (same_upd nD), [], PM.nil, rfl, upd_same⟩ (fun i H3 hi hP => ?_) (fun H3 hP => ?_)
    · obtain ⟨i, s, c, hp, z⟩ := row2
      exact ⟨i, s, c, same_upd nD _ _ hp, z⟩
    · obtain ⟨sx3, row3, hs3, us, pm, hl, hD⟩ := hP
      refine ⟨rfl, _, rfl, 1, rfl, (by show 2 ≤ sizeLine; decide), fun L nL => ?_⟩
      have row4 : RowP (upd H3 L (.lst [.int 1, .int (-1)])) p a := by
        obtain ⟨i, s, c, hp, z⟩ := row3
        exact ⟨i, s, c, same_upd nL _ _ hp, z⟩
      refine ⟨p, a, ns, SqL_same hs3 (same_upd nL), row4, .inl ⟨L, [1, -1], rfl, by decide, by decide, SqL.of upd_same, fun H5 x hx sx5 row5 => ?_⟩⟩
      have hD5 : H5 D = some (.lst (us.map V.int)) := sx5 _ _ npD (same_upd nL _ _ hD)
      have hs5 : SqL K H5 a (ns.map V.int) := by obtain ⟨i, s, c, hp, _⟩ := row4; exact SqL_row (SqL_same hs3 (same_upd nL)) hp sx5
      have sxn : ∀ o, SameX p H2 (upd H5 D o) := fun o b o2 hb e => by
        rw [upd_ne (ne_of_none e nD)]
        exact sx5 _ _ hb (same_upd nL _ _ (sx3 _ _ hb e))
      have hsn : ∀ o, SqL K (upd H5 D o) a (ns.map V.int) := fun o => by obtain ⟨i, s, c, hp, _⟩ := row2; exact SqL_row hs2 hp (sxn o)
      refine ⟨_, hD5, ?_, sxn _, ?_, hsn _, us ++ [x], ?_, by rw [List.length_append, hl]; rfl, ?_⟩
      · rw [List.length_map, hl]; exact small1000 (by omega)
      · obtain ⟨i, s, c, hp, z⟩ := row5
        exact ⟨i, s, c, by rw [upd_ne npD.symm]; exact hp, z⟩
      · refine pm.app (.cons ?_ .nil)
        simpa using hx
      · rw [upd_same, List.map_append]
        rfl
    · obtain ⟨sx3, row3, hs3, us, pm, hl, hD⟩ := hP
      refine ⟨c, us, D, rfl, hc0, hc3, SqL.of hD, by omega, ?_⟩
      exact q _ c us hc0 hc3 pm (by omega) (by omega) (sx1.trans (sx2.trans sx3)) row3
end
end K28
set_option Elab.async false
set_option linter.all false
set_option maxRecDepth 100000
set_option maxHeartbeats 8000000
/-! _law_put. -/
namespace K28
open PySem PySem.Spec PyProof.Rows L2
theorem take_two {α : Type} {l : List α} {j : Nat} {x y : α} (h1 : l[j]? = some x) (h2 : l[j + 1]? = some y) : (l.drop j).take 2 = [x, y] := by
  obtain ⟨a1, e1⟩ := List.getElem?_eq_some_iff.mp h1
  obtain ⟨a2, e2⟩ := List.getElem?_eq_some_iff.mp h2
  rw [List.drop_eq_getElem_cons a1, List.drop_eq_getElem_cons a2, e1, e2]
  rfl
theorem third_one {p x : Int} (h0 : 0 ≤ p) (h3 : p < 3) (hx : x = 1 ∨ x = -1) : ([97, 98, 99] : List Nat).filter (fun c => !decide (c ∈ [code p, code ((p + x) % 3)])) = [code ((p - x) % 3)] := by
  have e : p = 0 ∨ p = 1 ∨ p = 2 := by omega
  rcases e with rfl | rfl | rfl <;> rcases hx with rfl | rfl <;> decide +kernel
theorem filter_snoc {α : Type} (q : α → Bool) (l : List α) (i : Nat) (x : α) (h : l[i]? = some x) : (l.take (i + 1)).filter q = (l.take i).filter q ++ (if q x = true then [x] else []) := by
  rw [List.take_add_one, h, List.filter_append]
  refine congr (congrArg HAppend.hAppend rfl) ?_
  show ([x].filter q) = _
  by_cases e : q x = true
  · rw [if_pos e]; simp [e]
  · rw [if_neg e]; simp [e]
section
variable {P : Program} {w : World} {K : PySem.W.Frag} {mg : Str → Option Value} {base : Heap} {t1 t2 t3 t4 t5 : Tok}
def spPut : Sp := fun vs H Q _ => ∃ (f : Int) (a b : List Int) (x : Int), vs = [.str (W f (a ++ x :: b)), .int (a.length : Nat)] ∧ 0 ≤ f ∧ f < 3 ∧ (x = 1 ∨ x = -1) ∧ (a ++ x :: b).length ≤ 198 ∧ ∀ H', Same H H' → Q (.str (W f (a ++ -x :: -x :: b))) H'
theorem ok_put {f : Addr} {fd : FuncData} {k : Nat} (F : Fun K "_law_put" "_law_put" dPut f fd) (G : Gb mg t1 t2 t3 t4 t5) : FnOk P w K mg base CX0 (k + 1) f fd ["_law_word_here", "_law_place"] spPut := by
  refine F.ok scPut (fun vs H Q E h => ?_) (fun cdv A outer s H vs Q E hr h => ?_)
  · obtain ⟨f, a, b, x, rfl, _⟩ := h; rfl
  · obtain ⟨fi, a, b, x, rfl, h0, h3, hx, hl, q⟩ := h
    have nd := scPut.nd
    refine ⟨_, pss_cons (ps_set (i := 2) nd rfl (.inl rfl) (pe_ix ix_list (pe_lc (own := [("_law_sign", 3)]) (g := gName 3) rfl nd (pi_str pe_str) (blkOk_by (N := ["_law_word_here", "_law_place", "_law_third", "_law_sign"]) (sc := defScope dPut) (by decide +kernel))
        (fun _ _ _ _ _ => pg_name (i := 3) nd rfl (.inl rfl)) (fun _ _ _ _ _ => pts_one (pt_cmpR op_notIn_sign (pv 3) (pe_slice sl_str (pv 0) (po_some (pv 1)) (po_some (pe_op op_add (pv 1) pe_int))) (by rfl)))
        (fun _ _ _ _ _ => pv 3)) pe_int (fun _ _ => rfl)))
      (pss_one (ps_ret (pe_op op_add_str (pe_op op_add_str (pe_slice sl_str (pv 0) po_none (po_some (pe_op op_add (pv 1) pe_int))) (pv 2)) (pe_slice sl_str (pv 0) (po_some (pe_op op_add (pv 1) pe_int)) po_none)))), ?_⟩
    have hlen : a.length + b.length + 1 ≤ 198 := by simp at hl; omega
    have hz : (W fi (a ++ x :: b)).length = a.length + b.length + 2 := by rw [W_len]; simp; omega
    have r := at3_range fi a
    have g1 := codes_get (a ++ x :: b) fi a.length h0 h3 (by simp)
    have g2 := codes_get (a ++ x :: b) fi (a.length + 1) h0 h3 (by simp)
    have ea : (a ++ x :: b).take a.length = a := List.take_left ..
    have ex : (a ++ x :: b)[a.length]? = some x := by simp
    rw [step_at ex, ea] at g2
    rw [ea] at g1
    have ecut : cutS (W fi (a ++ x :: b)) (some (a.length : Nat)) (some ((a.length : Nat) + 2 : Int)) = ⟨[code (at3 fi a), code ((at3 fi a + x) % 3)].toArray⟩ := by
      have e1 := cut_mid (W fi (a ++ x :: b)) a.length (a.length + 2) (by rw [hz]; omega) (by omega)
      have e2 : a.length + 2 - a.length = 2 := by omega
      rw [e2, W_list, take_two g1 g2] at e1
      exact e1
    refine ⟨"abc", rfl, fun D nD => ?_⟩
    refine lc_it walk_str (fun i H' => Same H H' ∧ H' D = some (.lst (((([97, 98, 99] : List Nat).take i).filter (fun c => !decide (c ∈ [code (at3 fi a), code ((at3 fi a + x) % 3)]))).map fun c => V.str (sign c)))) ⟨same_upd nD, upd_same⟩ (fun _ _ _ _ => trivial) (fun i v H1 H2 hi hP hY => ?_) (fun H1 hP => ?_)
    · obtain ⟨sm, hD⟩ := hP
      obtain ⟨rfl, c, hc, rfl⟩ := hY
      rw [← Array.getElem?_toList, abc_list] at hc
      have ef := filter_snoc (fun c => !decide (c ∈ [code (at3 fi a), code ((at3 fi a + x) % 3)])) [97, 98, 99] i c hc
      refine ⟨rfl, _, rfl, _, rfl, _, rfl, _, rfl, _, rfl, _, _, rfl, rfl, _, rfl, W fi (a ++ x :: b), rfl, by rw [hz]; exact small200 (by omega), c, _, rfl, rfl, _, rfl, ?_⟩
      rw [ecut]
      refine ite2 (fun z => ?_) (fun z => ?_)
      · have z' : (fun c => !decide (c ∈ [code (at3 fi a), code ((at3 fi a + x) % 3)])) c = true := z
        rw [if_pos z'] at ef
        refine ⟨_, rfl, _, hD, ?_, same_ext sm nD, ?_⟩
        · rw [List.length_map]
          refine small1000 (Nat.le_trans (List.length_filter_le _ _) ?_)
          rw [List.length_take]
          exact Nat.le_trans (Nat.min_le_right _ _) (by decide)
        · rw [upd_same, ef, List.map_append]
          rfl
      · have z' : ¬ (fun c => !decide (c ∈ [code (at3 fi a), code ((at3 fi a + x) % 3)])) c = true := z
        rw [if_neg z', List.append_nil] at ef
        refine ⟨sm, ?_⟩
        rw [ef]
        exact hD
    · obtain ⟨sm, hD⟩ := hP
      have es : ("abc" : Str).cps.size = 3 := by decide +kernel
      rw [es, show ([97, 98, 99] : List Nat).take 3 = [97, 98, 99] from rfl, third_one r.1 r.2 hx] at hD
      refine ⟨D, _, 0, .str (sign (code ((at3 fi a - x) % 3))), rfl, rfl, SqL.of hD, rfl, ?_⟩
      have e1 : cutS (W fi (a ++ x :: b)) none (some ((a.length : Nat) + 1 : Int)) = ⟨((codes fi (a ++ x :: b)).take (a.length + 1)).toArray⟩ := cut_to (W fi (a ++ x :: b)) (a.length + 1) (by rw [hz]; omega)
      have e2 : cutS (W fi (a ++ x :: b)) (some ((a.length : Nat) + 1 : Int)) none = ⟨((codes fi (a ++ x :: b)).drop (a.length + 1)).toArray⟩ := cut_from (W fi (a ++ x :: b)) (a.length + 1) (by rw [hz]; omega)
      have l1 : (codes fi (a ++ x :: b)).length = a.length + b.length + 2 := by rw [codes_len]; simp; omega
      refine ⟨_, rfl, _, rfl, _, _, rfl, rfl, _, rfl, W fi (a ++ x :: b), rfl, by rw [hz]; exact small200 (by omega), _, rfl, _, _, rfl, rfl, ?_, ?_⟩
      · rw [e1]
        show ((codes fi (a ++ x :: b)).take (a.length + 1)).toArray.size + 1 ≤ sizeLine
        rw [List.size_toArray, List.length_take]
        exact small200 (by omega)
      · refine ⟨_, rfl, _, rfl, _, _, rfl, rfl, _, rfl, W fi (a ++ x :: b), rfl, by rw [hz]; exact small200 (by omega), _, _, rfl, rfl, ?_, ?_⟩
        · rw [e1, e2]
          rw [PySem.Str.length_append]
          show ((codes fi (a ++ x :: b)).take (a.length + 1)).toArray.size + 1 + ((codes fi (a ++ x :: b)).drop (a.length + 1)).toArray.size ≤ sizeLine
          rw [List.size_toArray, List.size_toArray, List.length_take, List.length_drop]
          exact small200 (by omega)
        · rw [e1, e2]
          have e3 : (⟨((codes fi (a ++ x :: b)).take (a.length + 1)).toArray⟩ : Str) ++ sign (code ((at3 fi a - x) % 3)) ++ ⟨((codes fi (a ++ x :: b)).drop (a.length + 1)).toArray⟩ = W fi (a ++ -x :: -x :: b) := by
            refine TL.ext_tl ?_
            rw [TL.tl_append, TL.tl_append]
            show (codes fi (a ++ x :: b)).take (a.length + 1) ++ [code ((at3 fi a - x) % 3)] ++ (codes fi (a ++ x :: b)).drop (a.length + 1) = codes fi (a ++ -x :: -x :: b)
            rw [codes_put fi a b x h0 h3 hx, List.append_assoc]
            rfl
          rw [e3]
          exact q _ sm
end
end K28
set_option Elab.async false
set_option linter.all false
set_option maxRecDepth 100000
set_option maxHeartbeats 8000000
/-! _law_ups. -/
namespace K28
open PySem PySem.Spec PyProof.Rows L2
def upAt (u : List Int) (i : Nat) : List Int := u.take i ++ -(u.getD i 0) :: -(u.getD i 0) :: u.drop (i + 1)
theorem upAt_of {u : List Int} {i : Nat} (h : i < u.length) : u = u.take i ++ u.getD i 0 :: u.drop (i + 1) := by
  have e : u.getD i 0 = u[i] := by rw [List.getD_eq_getElem?_getD, List.getElem?_eq_getElem h]; rfl
  rw [e, ← List.drop_eq_getElem_cons h, List.take_append_drop]
theorem up_iff (u v : List Int) : Up u v ↔ ∃ i, i < u.length ∧ v = upAt u i := by
  constructor
  · rintro ⟨a, x, b, rfl, rfl⟩
    refine ⟨a.length, by simp, ?_⟩
    have e1 : (a ++ x :: b).getD a.length 0 = x := by simp
    have e2 : (a ++ x :: b).take a.length = a := List.take_left ..
    have e3 : (a ++ x :: b).drop (a.length + 1) = b := by
      rw [← List.drop_drop, List.drop_left]
      rfl
    unfold upAt
    rw [e1, e2, e3]
  · rintro ⟨i, hi, rfl⟩
    exact ⟨u.take i, u.getD i 0, u.drop (i + 1), upAt_of hi, rfl⟩
section
variable {P : Program} {w : World} {K : PySem.W.Frag} {mg : Str → Option Value} {base : Heap} {t1 t2 t3 t4 t5 : Tok}
def spUps : Sp := fun vs H Q _ => ∃ (f : Int) (u : List Int), vs = [.str (W f u)] ∧ 0 ≤ f ∧ f < 3 ∧ PM u ∧ u.length ≤ 198 ∧
  ∀ (H' : Hp) (p : Addr) (ys : List Str), Same H H' → H p = none → H' p = some (.lst (ys.map V.str)) → (∀ z, z ∈ ys ↔ ∃ v, Up u v ∧ z = W f v) → Q (.ref p) H'
theorem ok_ups {f f1 : Addr} {fd d1 : FuncData} {k : Nat} (F : Fun K "_law_ups" "_law_ups" dUps f fd) (G : Gb mg t1 t2 t3 t4 t5)
    (G1 : FnOk P w K mg base CX0 k f1 d1 ["_law_word_here", "_law_place"] spPut) (k1 : PySem.W.keepIn K (.ref f1) = true) (b1 : Binds K d1 ["_law_word_here", "_law_place"] []) (m1 : mg "_law_put" = some (.ref f1)) :
    FnOk P w K mg base CX0 (k + 1) f fd ["_law_word_here"] spUps := by
  refine F.ok scUps (fun vs H Q E h => ?_) (fun cdv A outer s H vs Q E hr h => ?_)
  · obtain ⟨f, u, rfl, _⟩ := h; rfl
  · obtain ⟨fi, u, rfl, h0, h3, pm, hl, q⟩ := h
    have nd := scUps.nd
    refine ⟨_, pss_one (ps_ret (pe_callB (cr_sortedSetS rfl) (by rfl) G.sorted_ (by decide +kernel) (pa_cons (pe_callTy (cr_setOfS rfl) (by rfl) G.set_ (by decide +kernel) (pa_cons
      (pe_lc (own := [("_law_place", 1)]) (g := gName 1) (tt := tYes) rfl nd (pi_range1 (by rfl) G.range_ (pa_cons (pe_op op_sub (pe_callB call_len_str (by rfl) G.len_ PySem.boot_len (pa_cons (pv 0) pa_nil)) pe_int) pa_nil))
        (blkOk_by (N := ["_law_word_here", "_law_place"]) (sc := defScope dUps) (by decide +kernel))
        (fun _ _ _ _ _ => pg_name (i := 1) nd rfl (.inl rfl)) (fun _ _ _ _ _ => pts_nil)
        (fun _ _ _ _ _ => pe_call G1 hr (by rfl) m1 k1 b1 .nil pass0 (pa_cons (pv 0) (pa_cons (pv 1) pa_nil)))) pa_nil)) pa_nil))), ?_⟩
    refine ⟨_, rfl, W fi u, rfl, by rw [W_len]; exact small200 (by omega), _, _, rfl, rfl, _, rfl, by rw [W_len]; omega, by rw [W_len]; omega, fun D nD => ?_⟩
    rw [show (((W fi u).length : Nat) : Int) - 1 = ((u.length : Nat) : Int) by rw [W_len]; omega, Int.toNat_natCast]
    refine lc_range (fun i H' => Same H H' ∧ H' D = some (.lst (((List.range i).map fun k => W fi (upAt u k)).map V.str))) ⟨same_upd nD, upd_same⟩ (fun i H1 hi hP => ?_) (fun H1 hP => ?_)
    · obtain ⟨sm, hD⟩ := hP
      have eu := upAt_of hi
      have lt : (u.take i).length = i := by rw [List.length_take]; omega
      have pmx := pm (u.getD i 0) (by rw [List.getD_eq_getElem?_getD, List.getElem?_eq_getElem hi]; exact List.getElem_mem hi)
      refine ⟨rfl, _, rfl, _, rfl, fi, u.take i, u.drop (i + 1), u.getD i 0, ?_, h0, h3, pmx, by rw [← eu]; exact hl, fun H2 sm2 => ?_⟩
      · rw [← eu, lt]
        show [V.str (W fi u), V.int (0 + (i : Int))] = _
        rw [Int.zero_add]
      · refine ⟨_, sm2 _ _ hD, ?_, same_ext (sm.trans sm2) nD, ?_⟩
        · rw [List.length_map, List.length_map, List.length_range]; exact small1000 (by omega)
        · rw [upd_same, List.range_succ, List.map_append, List.map_append]
          rfl
    · obtain ⟨sm, hD⟩ := hP
      refine ⟨D, (List.range u.length).map (fun k => W fi (upAt u k)), rfl, SqL.of hD, by rw [List.length_map, List.length_range]; omega, fun S ks nd1 _ mem nS => ?_⟩
      refine ⟨S, ks, rfl, upd_same, fun ys p hp hs np => ?_⟩
      refine q _ p ys (sm.trans ((same_upd nS).trans (same_upd np))) ((sm.trans (same_upd nS)).free np) upd_same (fun z => ?_)
      rw [hp.mem_iff, mem, List.mem_map]
      constructor
      · rintro ⟨i, hi, rfl⟩
        exact ⟨_, (up_iff u _).mpr ⟨i, List.mem_range.mp hi, rfl⟩, rfl⟩
      · rintro ⟨v, hv, rfl⟩
        obtain ⟨i, hi, rfl⟩ := (up_iff u v).mp hv
        exact ⟨i, List.mem_range.mpr hi, rfl⟩
end
end K28
set_option Elab.async false
set_option linter.all false
set_option maxRecDepth 100000
set_option maxHeartbeats 8000000
/-! _law_alike. -/
namespace K28
open PySem PySem.Spec PyProof.Rows L2
theorem kit_not {K : PySem.W.Frag} {t : String} (h1 : kitB t "tuple" = some false) (h2 : kitB t "list" = some false) : PySem.W.kitAny K (.type t) [.type "tuple", .type "list"] = some false :=
  kitAny_cons (kit_ty h1) (fun _ => kitAny_cons (kit_ty h2) (fun _ => kitAny_nil) (fun z => nomatch z)) (fun z => nomatch z)
theorem kit_lst {K : PySem.W.Frag} {t : String} (h1 : kitB t "tuple" = some false) (h2 : kitB t "list" = some true) : PySem.W.kitAny K (.type t) [.type "tuple", .type "list"] = some true :=
  kitAny_cons (kit_ty h1) (fun _ => kitAny_cons (kit_ty h2) (fun z => nomatch z) (fun _ => rfl)) (fun z => nomatch z)
theorem ix_listK {X : Cx} {K0 : PySem.W.Frag} (h : X.K = K0) : IxR X (rIxL K0) := by subst h; exact ix_list
theorem two_cls : Paired ClsV [.ty "tuple", .ty "list"] [.type "tuple", .type "list"] := .cons (.ty "tuple") (.cons (.ty "list") .nil)
section
variable {P : Program} {w : World} {K : PySem.W.Frag} {mg : Str → Option Value} {base : Heap} {t1 t2 t3 t4 t5 : Tok}
def spAlike0 : Sp := fun vs H Q _ => ∃ v : V, vs = [v, v] ∧ ((∃ n, v = .int n) ∨ ∃ z, v = .str z) ∧ ∀ H', Same H H' → Q (.bl true) H'
theorem ok_alike0 {f : Addr} {fd : FuncData} {k : Nat} (F : Fun K "_law_alike" "_law_alike" dAlike f fd) (G : Gb mg t1 t2 t3 t4 t5) : FnOk P w K mg base CX0 (k + 1) f fd ["_law_found", "_law_due"] spAlike0 := by
  refine F.ok scAlike (fun vs H Q E h => ?_) (fun cdv A outer s H vs Q E hr h => ?_)
  · obtain ⟨v, rfl, _⟩ := h; rfl
  · obtain ⟨v, rfl, hv, q⟩ := h
    have nd := scAlike.nd
    refine ⟨_, pss_cons (ps_if (pt_val (pe_callB call_isiT (by rfl) G.isin (by decide +kernel) (pa_cons (pv 1) (pa_cons (pe_tup (pa_cons (pe_bltn (v := .ty "tuple") (by rfl) G.tuple_ (by decide +kernel) rfl) (pa_cons (pe_bltn (v := .ty "list") (by rfl) G.list_ (by decide +kernel) rfl) pa_nil))) pa_nil)))) pss_never pss_nil)
      (pss_cons (ps_if (PW.pt (pw_or (pt_cmpR op_isN (pv 1) pe_non (by rfl)) (pw_or1 (pt_val (pe_callB call_isi (by rfl) G.isin (by decide +kernel) (pa_cons (pv 1) (pa_cons (pe_bltn (v := .ty "str") (by rfl) G.str_ (by decide +kernel) rfl) pa_nil)))))))
        (pss_one (ps_ret (pe_and (pe_cmpR op_eq (pv 0) (pv 1) (nomark _)) (pe_one (pe_cmpR op_eq (pe_callB call_isi (by rfl) G.isin (by decide +kernel) (pa_cons (pv 0) (pa_cons (pe_bltn (v := .ty "str") (by rfl) G.str_ (by decide +kernel) rfl) pa_nil))) (pe_callB call_isi (by rfl) G.isin (by decide +kernel) (pa_cons (pv 1) (pa_cons (pe_bltn (v := .ty "str") (by rfl) G.str_ (by decide +kernel) rfl) pa_nil))) (nomark _)))))) pss_nil)
      (pss_one (ps_ret (pe_and (pe_callB call_isi (by rfl) G.isin (by decide +kernel) (pa_cons (pv 0) (pa_cons (pe_bltn (v := .ty "int") (by rfl) G.int_ (by decide +kernel) rfl) pa_nil))) (pe_and (pe_cmpR op_eq (pe_callB call_isi (by rfl) G.isin (by decide +kernel) (pa_cons (pv 0) (pa_cons (pe_bltn (v := .ty "bool") (by rfl) G.bool_ (by decide +kernel) rfl) pa_nil))) (pe_callB call_isi (by rfl) G.isin (by decide +kernel) (pa_cons (pv 1) (pa_cons (pe_bltn (v := .ty "bool") (by rfl) G.bool_ (by decide +kernel) rfl) pa_nil))) (nomark _)) (pe_one (pe_cmpR op_eq (pv 0) (pv 1) (nomark _)))))))), ?_⟩
    have dd : ∀ (v : V) (H' : Hp), Same H H' → Q (.bl (decide (v = v))) H' := fun v H' sm => by rw [decide_eq_true rfl]; exact q H' sm
    rcases hv with ⟨n, rfl⟩ | ⟨z, rfl⟩
    · refine ⟨_, rfl, (by show 2 ≤ sizeLine; decide), fun tp ntp => ⟨.int n, tp, _, .type "int", _, false, rfl, upd_same, two_cls, .base (.int n), kit_not (by decide +kernel) (by decide +kernel), _, rfl, iteF ?_⟩⟩
      refine ⟨_, rfl, rfl, _, rfl, dF (fun z => nomatch z) ?_⟩
      refine ⟨_, rfl, .int n, .ty "str", .type "int", .type "str", false, rfl, .ty "str", .base (.int n), kit_ty (by decide +kernel), _, rfl, iteF ?_⟩
      refine ⟨_, rfl, .int n, .ty "int", .type "int", .type "int", true, rfl, .ty "int", .base (.int n), kit_ty (by decide +kernel), true, rfl, iteT ?_⟩
      refine ⟨_, rfl, .int n, .ty "bool", .type "int", .type "bool", false, rfl, .ty "bool", .base (.int n), kit_ty (by decide +kernel), _, rfl, .int n, .ty "bool", .type "int", .type "bool", false, rfl, .ty "bool", .base (.int n), kit_ty (by decide +kernel), rfl, _, rfl, dT rfl ?_⟩
      exact ⟨_, rfl, _, rfl, rfl, dd _ _ (same_upd ntp)⟩
    · refine ⟨_, rfl, (by show 2 ≤ sizeLine; decide), fun tp ntp => ⟨.str z, tp, _, .type "str", _, false, rfl, upd_same, two_cls, .base (.str z), kit_not (by decide +kernel) (by decide +kernel), _, rfl, iteF ?_⟩⟩
      refine ⟨_, rfl, rfl, _, rfl, dF (fun z => nomatch z) ?_⟩
      refine ⟨_, rfl, .str z, .ty "str", .type "str", .type "str", true, rfl, .ty "str", .base (.str z), kit_ty (by decide +kernel), _, rfl, iteT ?_⟩
      refine ⟨_, rfl, _, rfl, rfl, _, rfl, dT rfl ?_⟩
      exact ⟨_, rfl, .str z, .ty "str", .type "str", .type "str", true, rfl, .ty "str", .base (.str z), kit_ty (by decide +kernel), _, rfl, .str z, .ty "str", .type "str", .type "str", true, rfl, .ty "str", .base (.str z), kit_ty (by decide +kernel), rfl, dd _ _ (same_upd ntp)⟩
def spAlike1 : Sp := fun vs H Q _ => ∃ (a b : Addr) (zs : List Str), vs = [.ref a, .ref b] ∧ zs.length ≤ 1000 ∧ H a = some (.lst (zs.map V.str)) ∧ H b = some (.lst (zs.map V.str)) ∧ ∀ H', Same H H' → Q (.bl true) H'
theorem ok_alike1 {f : Addr} {fd : FuncData} {k : Nat} (F : Fun K "_law_alike" "_law_alike" dAlike f fd) (G : Gb mg t1 t2 t3 t4 t5)
    (G1 : FnOk P w K mg base CX0 k f fd ["_law_found", "_law_due"] spAlike0) (k1 : PySem.W.keepIn K (.ref f) = true) (b1 : Binds K fd ["_law_found", "_law_due"] []) (m1 : mg "_law_alike" = some (.ref f)) :
    FnOk P w K mg base CX0 (k + 1) f fd ["_law_found", "_law_due"] spAlike1 := by
  refine F.ok scAlike (fun vs H Q E h => ?_) (fun cdv A outer s H vs Q E hr h => ?_)
  · obtain ⟨a, b, zs, rfl, _⟩ := h; rfl
  · obtain ⟨a, b, zs, rfl, hzl, ha, hb, q⟩ := h
    have nd := scAlike.nd
    have hu := hr.units
    refine ⟨_, pss_cons (ps_if (pt_val (pe_callB call_isiT (by rfl) G.isin (by decide +kernel) (pa_cons (pv 1) (pa_cons (pe_tup (pa_cons (pe_bltn (v := .ty "tuple") (by rfl) G.tuple_ (by decide +kernel) rfl) (pa_cons (pe_bltn (v := .ty "list") (by rfl) G.list_ (by decide +kernel) rfl) pa_nil))) pa_nil))))
        (pss_cons (ps_if (PW.pt (pw_or (pt_not (pt_val (pe_callB call_isiT (by rfl) G.isin (by decide +kernel) (pa_cons (pv 0) (pa_cons (pe_tup (pa_cons (pe_bltn (v := .ty "tuple") (by rfl) G.tuple_ (by decide +kernel) rfl) (pa_cons (pe_bltn (v := .ty "list") (by rfl) G.list_ (by decide +kernel) rfl) pa_nil))) pa_nil))))) (pw_or1 (pt_cmpR op_ne (pe_callB call_isi (by rfl) G.isin (by decide +kernel) (pa_cons (pv 0) (pa_cons (pe_bltn (v := .ty "list") (by rfl) G.list_ (by decide +kernel) rfl) pa_nil))) (pe_callB call_isi (by rfl) G.isin (by decide +kernel) (pa_cons (pv 1) (pa_cons (pe_bltn (v := .ty "list") (by rfl) G.list_ (by decide +kernel) rfl) pa_nil))) (nomark _))))) pss_never pss_nil)
        (pss_cons (ps_if (pt_cmpR op_ne (pe_callB call_len_seq (by rfl) G.len_ PySem.boot_len (pa_cons (pv 0) pa_nil)) (pe_callB call_len_seq (by rfl) G.len_ PySem.boot_len (pa_cons (pv 1) pa_nil)) (nomark _)) pss_never pss_nil)
        (pss_one (ps_ret (pe_cmpR (op_eqV hu) (pe_lc (own := [("_law_k", 2)]) (g := gName 2) rfl nd (pi_range1 (by rfl) G.range_ (pa_cons (pe_callB call_len_seq (by rfl) G.len_ PySem.boot_len (pa_cons (pv 1) pa_nil)) pa_nil)) (blkOk_by (N := ["_law_found", "_law_due", "_law_k"]) (sc := defScope dAlike) (by decide +kernel))
          (fun _ _ _ _ _ => pg_name (i := 2) nd rfl (.inl rfl)) (fun _ _ _ _ _ => pts_one (pt_not (pt_val (pe_call G1 hr (by rfl) m1 k1 b1 .nil pass0 (pa_cons (pe_ix (ix_listK (K0 := K) rfl) (pv 0) (pv 2) (fun _ _ => rfl)) (pa_cons (pe_ix (ix_listK (K0 := K) rfl) (pv 1) (pv 2) (fun _ _ => rfl)) pa_nil))))))
          (fun _ _ _ _ _ => pv 2)) (pe_lst pa_nil) (nomark _)))))) pss_nil) pss_never, ?_⟩
    refine ⟨_, rfl, (by show 2 ≤ sizeLine; decide), fun tp ntp => ⟨.ref b, tp, _, .type "list", _, true, rfl, upd_same, two_cls, .base (.lst (same_upd ntp _ _ hb)), kit_lst (by decide +kernel) (by decide +kernel), _, rfl, iteT ?_⟩⟩
    have ha1 := same_upd (o := .tup [.ty "tuple", .ty "list"]) ntp _ _ ha
    have hb1 := same_upd (o := .tup [.ty "tuple", .ty "list"]) ntp _ _ hb
    refine ⟨_, rfl, (by show 2 ≤ sizeLine; decide), fun tp2 ntp2 => ⟨.ref a, tp2, _, .type "list", _, true, rfl, upd_same, two_cls, .base (.lst (same_upd ntp2 _ _ ha1)), kit_lst (by decide +kernel) (by decide +kernel), _, rfl, iteF ?_⟩⟩
    have ha2 := same_upd (o := .tup [.ty "tuple", .ty "list"]) ntp2 _ _ ha1
    have hb2 := same_upd (o := .tup [.ty "tuple", .ty "list"]) ntp2 _ _ hb1
    have s2 : Same H (upd (upd H tp (.tup [.ty "tuple", .ty "list"])) tp2 (.tup [.ty "tuple", .ty "list"])) := (same_upd ntp).trans (same_upd ntp2)
    refine ⟨_, rfl, .ref a, .ty "list", .type "list", .type "list", true, rfl, .ty "list", .base (.lst ha2), kit_ty (by decide +kernel), _, rfl, .ref b, .ty "list", .type "list", .type "list", true, rfl, .ty "list", .base (.lst hb2), kit_ty (by decide +kernel), rfl, _, rfl, iteNS rfl ?_⟩
    refine ⟨_, rfl, a, _, rfl, .inl (SqL.of ha2), _, rfl, b, _, rfl, .inl (SqL.of hb2), rfl, _, rfl, iteNS rfl ?_⟩
    refine ⟨_, rfl, b, _, rfl, .inl (SqL.of hb2), _, rfl, by omega, ?_, fun D nD => ?_⟩
    · rw [List.length_map]; omega
    rw [Int.toNat_natCast]
    refine lc_range (fun i H' => Same H H' ∧ Same (upd (upd H tp (.tup [.ty "tuple", .ty "list"])) tp2 (.tup [.ty "tuple", .ty "list"])) H' ∧ H' D = some (.lst [])) ⟨s2.trans (same_upd nD), same_upd nD, upd_same⟩ (fun i H1 hi hP => ?_) (fun H1 hP => ?_)
    · obtain ⟨sm, sm2, hD⟩ := hP
      rw [List.length_map] at hi
      have e1 : (zs.map V.str)[i]? = some (.str zs[i]) := by rw [List.getElem?_map, List.getElem?_eq_getElem hi]; rfl
      have e2 : atI (zs.map V.str) (0 + (i : Int)) = some (.str zs[i]) := by rw [Int.zero_add]; exact atI_nat e1
      refine ⟨rfl, _, rfl, _, rfl, a, _, _, _, rfl, rfl, SqL.of (sm _ _ ha), e2, _, rfl, _, rfl, b, _, _, _, rfl, rfl, SqL.of (sm _ _ hb), e2, .str zs[i], rfl, .inr ⟨_, rfl⟩, fun H2 sm3 => ⟨_, rfl, iteF ⟨sm.trans sm3, sm2.trans sm3, sm3 _ _ hD⟩⟩⟩
    · obtain ⟨sm, sm2, hD⟩ := hP
      refine ⟨(by show 0 ≤ sizeLine; decide), fun E1 nE => ?_⟩
      exact ⟨1, by decide, .inl ⟨D, E1, [], [], rfl, rfl, SqL.of (same_upd nE _ _ hD), SqL.of upd_same, .nil⟩, q _ (sm.trans (same_upd nE))⟩
end
end K28
set_option Elab.async false
set_option linter.all false
/-! sorted texts are one; lists without twins of the same members. -/
namespace K28
open PySem PySem.Spec PyProof.Rows
def leS (a b : Str) : Prop := a.cps.toList ≤ b.cps.toList
theorem leS_iff (a b : Str) : ltCps b.cps.toList a.cps.toList = false ↔ leS a b := by
  rw [ltCps_eq, decide_eq_false_iff_not]
  exact Iff.rfl
theorem leS_trans {a b c : Str} (h : leS a b) (k : leS b c) : leS a c := List.le_trans h k
theorem leS_anti {a b : Str} (h : leS a b) (k : leS b a) : a = b := PySem.Str.ext' (Array.toList_inj.mp (List.le_antisymm h k))
theorem pw_rising : ∀ (p : Str) (l : List Str), risingS p l = true → (p :: l).Pairwise leS
  | p, [], _ => List.pairwise_singleton _ _
  | p, x :: r, h => by
    have h' : (!ltCps x.cps.toList p.cps.toList && risingS x r) = true := h
    rw [Bool.and_eq_true, Bool.not_eq_true'] at h'
    have ih := pw_rising x r h'.2
    have h1 : leS p x := (leS_iff p x).mp h'.1
    refine .cons (fun c hc => ?_) ih
    rcases List.mem_cons.mp hc with rfl | hc
    · exact h1
    · exact leS_trans h1 (List.rel_of_pairwise_cons ih hc)
theorem pw_sorted : ∀ l : List Str, sortedS l = true → l.Pairwise leS
  | [], _ => .nil
  | x :: r, h => pw_rising x r h
theorem sorted_one {ys zs : List Str} (hp : ys.Perm zs) (h1 : sortedS ys = true) (h2 : sortedS zs = true) : ys = zs :=
  List.Perm.eq_of_pairwise (le := leS) (fun _ _ _ _ a b => leS_anti a b) (pw_sorted _ h1) (pw_sorted _ h2) hp
theorem perm_same {α : Type} [DecidableEq α] {l m : List α} (h1 : l.Nodup) (h2 : m.Nodup) (h : ∀ x, x ∈ l ↔ x ∈ m) : l.Perm m := (List.perm_ext_iff_of_nodup h1 h2).mpr h
theorem nodup_le {α : Type} : ∀ {l m : List α}, l.Nodup → (∀ x ∈ l, x ∈ m) → l.length ≤ m.length
  | [], m, _, _ => Nat.zero_le _
  | x :: l, m, h, k => by
    obtain ⟨a, b, rfl⟩ := List.append_of_mem (k x List.mem_cons_self)
    have hx := List.nodup_cons.mp h
    have ih := nodup_le (m := a ++ b) hx.2 (fun y hy => by
      have hm := k y (List.mem_cons_of_mem _ hy)
      have hne : y ≠ x := fun e => hx.1 (e ▸ hy)
      rcases List.mem_append.mp hm with q | q
      · exact List.mem_append_left _ q
      · rcases List.mem_cons.mp q with q | q
        · exact absurd q hne
        · exact List.mem_append_right _ q)
    rw [List.length_append] at ih
    rw [List.length_append, List.length_cons, List.length_cons]
    omega
end K28
set_option Elab.async false
set_option linter.all false
set_option maxRecDepth 100000
set_option maxHeartbeats 8000000
/-! the law. -/
namespace K28
open PySem PySem.Spec PyProof.Rows L2
/-- the keys of a dict of texts -/
def DKeys (kvs : List (Key × V)) (ks : List Str) : Prop := kvs.map (·.1) = ks.map Sum.inr ∧ ks.Nodup
theorem DKeys.len {kvs : List (Key × V)} {ks : List Str} (h : DKeys kvs ks) : kvs.length = ks.length := by
  have e := congrArg List.length h.1
  rw [List.length_map, List.length_map] at e
  exact e
theorem DKeys.put {kvs : List (Key × V)} {ks : List Str} (h : DKeys kvs ks) (z : Str) (v : V) : ∃ ks', DKeys (putK kvs (Sum.inr z) v) ks' ∧ ∀ y, y ∈ ks' ↔ y ∈ ks ∨ y = z := by
  unfold putK
  by_cases e : (kvs.any fun kv => decide (kv.1 = (Sum.inr z : Key))) = true
  · rw [if_pos e]
    refine ⟨ks, ⟨?_, h.2⟩, fun y => ⟨.inl, ?_⟩⟩
    · rw [List.map_map, ← h.1]
      refine List.map_congr_left fun p _ => ?_
      show (if p.1 = (Sum.inr z : Key) then (p.1, v) else p).1 = p.1
      split <;> rfl
    · rintro (hy | rfl)
      · exact hy
      · obtain ⟨p, hp, e2⟩ := List.any_eq_true.mp e
        have e3 : p.1 = (Sum.inr y : Key) := of_decide_eq_true e2
        have hm : (Sum.inr y : Key) ∈ ks.map Sum.inr := by
          rw [← h.1, ← e3]
          exact List.mem_map_of_mem hp
        obtain ⟨x, hx, ex⟩ := List.mem_map.mp hm
        cases ex
        exact hx
  · rw [if_neg e]
    refine ⟨ks ++ [z], ⟨by rw [List.map_append, List.map_append, h.1]; rfl, ?_⟩, fun y => by rw [List.mem_append, List.mem_singleton]⟩
    refine List.nodup_append.mpr ⟨h.2, by simp, fun a ha b hb eab => e ?_⟩
    have hb' := List.mem_singleton.mp hb
    have hm : (Sum.inr z : Key) ∈ kvs.map (·.1) := by
      rw [h.1, ← hb', ← eab]
      exact List.mem_map_of_mem ha
    obtain ⟨p, hp, e2⟩ := List.mem_map.mp hm
    exact List.any_eq_true.mpr ⟨p, hp, decide_eq_true e2⟩


theorem seqs_len : ∀ n, (seqs n).length = 2 ^ n
  | 0 => rfl
  | n + 1 => by
    have ih := seqs_len n
    have e : ∀ l : List (List Int), (l.flatMap fun u => [u ++ [1], u ++ [-1]]).length = 2 * l.length := by
      intro l
      induction l with
      | nil => rfl
      | cons u l ih => rw [List.flatMap_cons, List.length_append, ih]; simp; omega
    show ((seqs n).flatMap fun u => [u ++ [1], u ++ [-1]]).length = _
    rw [e, ih, Nat.pow_succ]; omega
theorem rim_few {f : Int} {m : Nat} {ks : List Str} (hm : m ≤ 9) (nd : ks.Nodup) (h : ∀ z ∈ ks, ∃ v, PM v ∧ v.length = m ∧ z = W f v) : ks.length ≤ 512 := by
  have h1 : ks.length ≤ ((seqs m).map (W f)).length := nodup_le nd fun z hz => by
    obtain ⟨v, p, l, rfl⟩ := h z hz
    exact List.mem_map_of_mem (mem_seqs.mpr ⟨p, l⟩)
  rw [List.length_map, seqs_len] at h1
  exact Nat.le_trans h1 (Nat.le_trans (Nat.pow_le_pow_right (by decide) hm) (by decide))
theorem max_size {x : Int} (h : x ≤ 10) : ∃ n : Nat, (if x > 2 then x else 2) = (n : Int) + 1 ∧ 1 ≤ n ∧ n ≤ 9 := by
  by_cases c : x > 2
  · rw [if_pos c]; exact ⟨(x - 1).toNat, by omega, by omega, by omega⟩
  · rw [if_neg c]; exact ⟨1, rfl, by decide, by decide⟩
theorem map_get {kvs : List (Key × V)} {ks : List Str} (h : DKeys kvs ks) {i : Nat} {kk : Key} {vv : V} (e : kvs[i]? = some (kk, vv)) : ∃ z, kk = Sum.inr z ∧ ks[i]? = some z := by
  have e1 : (kvs.map (·.1))[i]? = some kk := by rw [List.getElem?_map, e]; rfl
  rw [h.1, List.getElem?_map] at e1
  obtain ⟨z, ez, e2⟩ := Option.map_eq_some_iff.mp e1
  exact ⟨z, e2.symm, ez⟩
section
variable {P : Program} {w : World} {K : PySem.W.Frag} {mg : Str → Option Value} {base : Heap} {t1 t2 t3 t4 t5 : Tok}
def spLaw (K : PySem.W.Frag) : Sp := fun vs H Q _ => ∃ (a : Addr) (ns : List Int), vs = [.ref a] ∧ SqL K H a (ns.map V.int) ∧ ∀ H', Q (.bl true) H'
theorem ok_law {f f1 f2 f3 f4 f5 f6 f7 : Addr} {fd d1 d2 d3 d4 d5 d6 d7 : FuncData} {k : Nat} (F : Fun K "law" "law" dLaw f fd) (G : Gb mg t1 t2 t3 t4 t5)
    (G1 : FnOk P w K mg base CX0 k f1 d1 ["_law_row", "_law_many"] (spTaken K)) (k1 : PySem.W.keepIn K (.ref f1) = true) (b1 : Binds K d1 ["_law_row", "_law_many"] []) (m1 : mg "_law_taken" = some (.ref f1))
    (G2 : FnOk P w K mg base CX0 k f2 d2 ["_law_row", "_law_things"] (spPick K)) (k2 : PySem.W.keepIn K (.ref f2) = true) (b2 : Binds K d2 ["_law_row", "_law_things"] []) (m2 : mg "_law_pick" = some (.ref f2))
    (G3 : FnOk P w K mg base CX0 k f3 d3 ["_law_row", "_law_most"] (spAny K)) (k3 : PySem.W.keepIn K (.ref f3) = true) (b3 : Binds K d3 ["_law_row", "_law_most"] []) (m3 : mg "_law_any" = some (.ref f3))
    (G4 : FnOk P w K mg base CX0 k f4 d4 ["_law_word_here"] spUps) (k4 : PySem.W.keepIn K (.ref f4) = true) (b4 : Binds K d4 ["_law_word_here"] []) (m4 : mg "_law_ups" = some (.ref f4))
    (G5 : FnOk P w K mg base CX0 k f5 d5 ["_law_found", "_law_due"] spAlike0) (G5' : FnOk P w K mg base CX0 k f5 d5 ["_law_found", "_law_due"] spAlike1) (k5 : PySem.W.keepIn K (.ref f5) = true) (b5 : Binds K d5 ["_law_found", "_law_due"] []) (m5 : mg "_law_alike" = some (.ref f5))
    (G6 : FnOk P w K mg base CX0 k f6 d6 ["word", "size"] spCount) (k6 : PySem.W.keepIn K (.ref f6) = true) (b6 : Binds K d6 ["word", "size"] []) (m6 : mg "count_above" = some (.ref f6))
    (G7 : FnOk P w K mg base CX0 k f7 d7 ["word", "size"] spWords) (k7 : PySem.W.keepIn K (.ref f7) = true) (b7 : Binds K d7 ["word", "size"] []) (m7 : mg "words_above" = some (.ref f7)) :
    FnOk P w K mg base CX0 (k + 1) f fd ["_law_script"] (spLaw K) := by
  refine F.ok scLaw (fun vs H Q E h => ?_) (fun cdv A outer sh H vs Q E hr h => ?_)
  · obtain ⟨a, ns, rfl, _⟩ := h; rfl
  · obtain ⟨a, ns, rfl, hs, q⟩ := h
    have nd := scLaw.nd
    have hu := hu_of hr
    refine ⟨_, pss_cons (ps_set (i := 1) nd rfl (.inl rfl) (pe_lst (pa_cons (pv 0) (pa_cons pe_int (pa_cons pe_int (pa_cons pe_int pa_nil))))))
      (pss_cons (ps_set (i := 2) nd rfl (.inl rfl) (pe_call G3 hr (by rfl) m3 k3 b3 .nil pass0 (pa_cons (pv 1) (pa_cons (pe_call G2 hr (by rfl) m2 k2 b2 .nil pass0 (pa_cons (pv 1) (pa_cons (pe_lst (pa_cons pe_int (pa_cons pe_int pa_nil))) pa_nil))) pa_nil))))
      (pss_cons (ps_set (i := 3) nd rfl (.inl rfl) (pe_callB (call_max2 rfl) (by rfl) G.max_ (by decide +kernel) (pa_cons pe_int (pa_cons (pe_op op_sub (pe_op op_add (pe_callB call_len_str (by rfl) G.len_ PySem.boot_len (pa_cons (pv 2) pa_nil))
        (pe_call G1 hr (by rfl) m1 k1 b1 .nil pass0 (pa_cons (pv 1) (pa_cons pe_int pa_nil)))) pe_int) pa_nil))))
      (pss_cons (ps_set (i := 4) nd rfl (.inl rfl) (pe_ifExp (pt_cmpR op_ge (pv 3) (pe_callB call_len_str (by rfl) G.len_ PySem.boot_len (pa_cons (pv 2) pa_nil)) (nomark _))
        (pe_disp (pps_cons (pv 2) pe_bl pps_nil) rfl rfl (List.cons_ne_nil _ _) (by decide)) pe_dnewK))
      (pss_cons (ps_for PassesOwn.never rfl (pi_range1 (by rfl) G.range_ (pa_cons (pe_op op_sub (pv 3) (pe_callB call_len_str (by rfl) G.len_ PySem.boot_len (pa_cons (pv 2) pa_nil))) pa_nil)) (pg_name (i := 5) nd rfl (.inl rfl))
        (pss_cons (ps_set (i := 6) nd rfl (.inl rfl) pe_dnewK)
        (pss_cons (ps_lock (ps_for PassesOwn.never rfl (pi_keys (pv 4)) (pg_name (i := 7) nd rfl (.inl rfl))
          (pss_one (ps_for PassesOwn.never rfl (pi_list (pe_call G4 hr (by rfl) m4 k4 b4 .nil pass0 (pa_cons (pv 7) pa_nil))) (pg_name (i := 8) nd rfl (.inl rfl))
            (pss_one (ps_dput hu (pv 6) (pv 8) pe_bl rfl))))))
        (pss_one (ps_set (i := 4) nd rfl (.inl rfl) (pv 6))))))
      (pss_cons (ps_if (pt_not (pt_val (pe_call G5 hr (by rfl) m5 k5 b5 .nil pass0 (pa_cons (pe_call G6 hr (by rfl) m6 k6 b6 .nil pass0 (pa_cons (pv 2) (pa_cons (pv 3) pa_nil)))
        (pa_cons (pe_callB call_lenD (by rfl) G.len_ PySem.boot_len (pa_cons (pv 4) pa_nil)) pa_nil))))) pss_never pss_nil)
      (pss_one (ps_ret (pe_or (pe_cmpR op_gt (pe_callB call_lenD (by rfl) G.len_ PySem.boot_len (pa_cons (pv 4) pa_nil)) pe_int (nomark _)) (pe_one (pe_call G5' hr (by rfl) m5 k5 b5 .nil pass0
        (pa_cons (pe_call G7 hr (by rfl) m7 k7 b7 .nil pass0 (pa_cons (pv 2) (pa_cons (pv 3) pa_nil))) (pa_cons (pe_callB (cr_sortedDS rfl) (by rfl) G.sorted_ (by decide +kernel) (pa_cons (pv 4) pa_nil)) pa_nil)))))))))))), ?_⟩
    refine ⟨_, rfl, (by show 4 ≤ sizeLine; decide), fun p np => ?_⟩
    have row1 : RowP (upd H p (.lst [.ref a, .int 0, .int 4928, .int 0])) p a := ⟨0, 4928, 0, upd_same, by decide, by decide, by decide⟩
    have hs1 := SqL_same hs (same_upd (o := .lst [.ref a, .int 0, .int 4928, .int 0]) np)
    refine ⟨_, rfl, _, rfl, (by show 2 ≤ sizeLine; decide), fun L nL => ?_⟩
    have row2 : RowP (upd (upd H p (.lst [.ref a, .int 0, .int 4928, .int 0])) L (.lst [.int 4, .int 6])) p a := ⟨0, 4928, 0, same_upd nL _ _ upd_same, by decide, by decide, by decide⟩
    have hs2 := SqL_same hs1 (same_upd (o := .lst [.int 4, .int 6]) nL)
    refine ⟨p, a, ns, hs2, row2, .inl ⟨L, [4, 6], rfl, by decide, by decide, SqL.of upd_same, fun H3 m hm sx3 row3 => ?_⟩⟩
    have hs3 : SqL K H3 a (ns.map V.int) := by obtain ⟨i, s, c, hp, _⟩ := row2; exact SqL_row hs2 hp sx3
    have hm46 : m = 4 ∨ m = 6 := by simpa using hm
    refine ⟨p, a, ns, m, rfl, by omega, by omega, hs3, row3, fun H4 fi u h0 h3 pm l1 l2 sx4 row4 => ?_⟩
    have hs4 : SqL K H4 a (ns.map V.int) := by obtain ⟨i, s, c, hp, _⟩ := row3; exact SqL_row hs3 hp sx4
    have wl : (W fi u).length = u.length + 1 := W_len fi u
    have wsz : (W fi u).length ≤ sizeLine := by rw [wl]; exact small200 (by omega)
    refine ⟨_, rfl, W fi u, rfl, wsz, _, rfl, p, a, ns, 6, rfl, by decide, by decide, hs4, row4, fun H5 r r0 r6 sx5 row5 => ⟨_, _, rfl, rfl, _, _, rfl, rfl, _, _, rfl, ?_⟩⟩
    obtain ⟨n, en, hn1, hn9⟩ := max_size (x := ((W fi u).length : Int) + r - 1) (by rw [wl]; omega)
    rw [en]
    refine ⟨_, rfl, _, rfl, W fi u, rfl, wsz, _, _, rfl, rfl, _, rfl, dE (fun c => ?g1) (fun c => ?g2)⟩
    case' g1 =>
      have big : u.length ≤ n := by
        have c' : (n : Int) + 1 ≥ ((W fi u).length : Nat) := c
        rw [wl] at c'
        omega
      refine fun d nd6 => ⟨_, rfl, upd_same, [(Sum.inr (W fi u), .bl true)], rfl, (by show 1 ≤ 15; decide), ?_⟩
      have dk6 : DKeys [((Sum.inr (W fi u) : Key), V.bl true)] [W fi u] := ⟨rfl, by simp⟩
      have mem6 : ∀ z, z ∈ [W fi u] ↔ ∃ w, u.length ≤ n ∧ Rim u 0 w ∧ z = W fi w := fun z => by
        rw [List.mem_singleton]
        exact ⟨fun e => ⟨u, big, rfl, e⟩, fun ⟨w, _, e1, e2⟩ => by rw [e2, show w = u from e1]⟩
    case' g2 =>
      have big : ¬ u.length ≤ n := by
        have c' : ¬ (n : Int) + 1 ≥ ((W fi u).length : Nat) := c
        rw [wl] at c'
        omega
      refine fun d nd6 => ?_
      have dk6 : DKeys [] [] := ⟨rfl, .nil⟩
      have mem6 : ∀ z : Str, z ∈ ([] : List Str) ↔ ∃ w, u.length ≤ n ∧ Rim u 0 w ∧ z = W fi w := fun z =>
        ⟨fun e => (nomatch e), fun ⟨w, e, _⟩ => absurd e big⟩
    all_goals
      refine ⟨_, rfl, _, rfl, W fi u, rfl, wsz, _, _, rfl, rfl, _, rfl, by rw [wl]; omega, by rw [wl]; omega, ?_⟩
      rw [show ((n : Int) + 1 - ((W fi u).length : Nat)).toNat = n - u.length by rw [wl]; omega]
      refine for_range (fun t σ H' => ∃ (d : Addr) (kvs : List (Key × V)) (ks : List Str) (y5 y6 y7 y8 : Option V), σ = [some (.ref a), some (.ref p), some (.str (W fi u)), some (.int ((n : Int) + 1)), some (.ref d), y5, y6, y7, y8] ∧
        H' d = some (.dK kvs) ∧ DKeys kvs ks ∧ (∀ z, z ∈ ks ↔ ∃ w, u.length ≤ n ∧ Rim u t w ∧ z = W fi w)) ⟨d, _, _, none, none, none, none, rfl, upd_same, dk6, mem6⟩ (fun t σ H7 ht hP => ?_) (fun σ H7 hP => ?_)
      · obtain ⟨d, kvs, ks, y5, y6, y7, y8, rfl, hd7, dk7, mem7⟩ := hP
        refine fun e ne => ?_
        have ned : d ≠ e := ne_of_none hd7 ne
        refine ⟨d, .dK kvs, (by rw [upd_ne ned]; exact hd7), trivial, fun od => ?_⟩
        have he0 : (upd (upd H7 e (.dK [])) d (.frz od (.dK kvs))) e = some (.dK []) := by rw [upd_ne ned.symm, upd_same]
        refine ⟨_, rfl, d, od, rfl, .inl ⟨kvs, upd_same, ?_⟩⟩
        refine for_it walk_keys (fun i σ H' => ∃ (y7 y8 : Option V) (kvs' : List (Key × V)) (ks' : List Str), σ = [some (.ref a), some (.ref p), some (.str (W fi u)), some (.int ((n : Int) + 1)), some (.ref d), some (.int (0 + (t : Int))), some (.ref e), y7, y8] ∧
          H' d = some (.frz od (.dK kvs)) ∧ H' e = some (.dK kvs') ∧ DKeys kvs' ks' ∧ (∀ z, z ∈ ks' ↔ ∃ w v, PM w ∧ w.length = u.length + t ∧ W fi w ∈ ks.take i ∧ Up w v ∧ z = W fi v))
          ⟨y7, y8, [], [], rfl, upd_same, he0, ⟨rfl, .nil⟩, fun z => ⟨fun e => (nomatch e), fun ⟨w, v, _, _, e, _⟩ => (nomatch e)⟩⟩ (fun i σ H8 _ hP => ?_) (fun i x σ H8 H9 hi hP hY => ?_) (fun σ H8 hP => ?_)
        · obtain ⟨y7, y8, kvs', ks', rfl, hd8, he8, dk8, mem8⟩ := hP
          exact hd8
        · obtain ⟨y7, y8, kvs', ks', rfl, hd8, he8, dk8, mem8⟩ := hP
          obtain ⟨rfl, kk, vv, hk, rfl⟩ := hY
          obtain ⟨z, rfl, hz⟩ := map_get dk7 hk
          obtain ⟨wv, _, rw1, rfl⟩ := (mem7 z).mp (List.mem_of_getElem? hz)
          obtain ⟨_, pmw, lw⟩ := (rim_iff pm t wv).mp rw1
          refine ⟨_, rfl, fi, wv, rfl, h0, h3, pmw, by omega, fun H10 pl ys sm10 npl hpl memU => ⟨pl, rfl, ⟨_, SqL.of hpl⟩, ?_⟩⟩
          refine for_list (xs := ys.map V.str) (fun j σ H' => ∃ (y8 : Option V) (kvs' : List (Key × V)) (ks' : List Str), σ = [some (.ref a), some (.ref p), some (.str (W fi u)), some (.int ((n : Int) + 1)), some (.ref d), some (.int (0 + (t : Int))), some (.ref e), some (.str (W fi wv)), y8] ∧
            H' d = some (.frz od (.dK kvs)) ∧ H' e = some (.dK kvs') ∧ H' pl = some (.lst (ys.map V.str)) ∧ DKeys kvs' ks' ∧ (∀ z, z ∈ ks' ↔ (∃ w v, PM w ∧ w.length = u.length + t ∧ W fi w ∈ ks.take i ∧ Up w v ∧ z = W fi v) ∨ z ∈ ys.take j))
            ⟨y8, kvs', ks', rfl, sm10 _ _ hd8, sm10 _ _ he8, hpl, dk8, fun z => by rw [mem8 z]; exact ⟨.inl, fun q => q.elim id (fun q => nomatch q)⟩⟩ (fun j σ H11 _ hP => ?_) (fun j x σ H11 hx hP => ?_) (fun σ H11 hP => ?_)
          · obtain ⟨y8, kvs', ks', rfl, hd11, he11, hp11, dk11, mem11⟩ := hP
            exact SqL.of hp11
          · obtain ⟨y8, kvs', ks', rfl, hd11, he11, hp11, dk11, mem11⟩ := hP
            rw [List.getElem?_map] at hx
            obtain ⟨z, ez, rfl⟩ := Option.map_eq_some_iff.mp hx
            obtain ⟨ks2, dk2, mem2⟩ := dk11.put z (.bl true)
            have few : ks'.length ≤ 512 := rim_few (f := fi) (m := u.length + t + 1) (by omega) dk11.2 (fun z hz => by
              rcases (mem11 z).mp hz with ⟨w2, v2, p2, l2, _, up2, e2⟩ | hz
              · exact ⟨v2, up2.pm p2, by rw [up2.len, l2], e2⟩
              · obtain ⟨v2, up2, e2⟩ := (memU z).mp (List.mem_of_mem_take hz)
                exact ⟨v2, up2.pm pmw, by rw [up2.len, lw], e2⟩)
            refine ⟨_, rfl, _, rfl, e, _, rfl, DPut.k (k := Sum.inr z) he11 (by rw [dk11.len]; exact small1000 (by omega)), some (.str z), putK kvs' (Sum.inr z) (.bl true), ks2, rfl, ?_, upd_same, ?_, dk2, fun y => ?_⟩
            · rw [upd_ne ned]; exact hd11
            · rw [upd_ne (ne_of hp11 he11 (fun z => nomatch z))]; exact hp11
            · rw [mem2, mem11, List.take_add_one, ez, List.mem_append]
              show _ ↔ _ ∨ (_ ∨ y ∈ [z])
              rw [List.mem_singleton, or_assoc]
          · obtain ⟨y8, kvs', ks', rfl, hd11, he11, hp11, dk11, mem11⟩ := hP
            refine ⟨_, _, kvs', ks', rfl, hd11, he11, dk11, fun z => ?_⟩
            rw [List.length_map, List.take_length] at mem11
            rw [mem11 z, memU z, List.take_add_one, hz]
            constructor
            · rintro (⟨w2, v2, p2, l2, m2, up2, e2⟩ | ⟨v2, up2, e2⟩)
              · exact ⟨w2, v2, p2, l2, List.mem_append_left _ m2, up2, e2⟩
              · exact ⟨wv, v2, pmw, lw, List.mem_append_right _ (List.mem_singleton.mpr rfl), up2, e2⟩
            · rintro ⟨w2, v2, p2, l2, m2, up2, e2⟩
              rcases List.mem_append.mp m2 with m2 | m2
              · exact .inl ⟨w2, v2, p2, l2, m2, up2, e2⟩
              · have ew := W_inj h0 h3 p2 pmw (List.mem_singleton.mp m2)
                subst ew
                exact .inr ⟨v2, up2, e2⟩
        · obtain ⟨y7, y8, kvs', ks', rfl, hd8, he8, dk8, mem8⟩ := hP
          refine ⟨hd8, _, rfl, e, kvs', ks', _, _, _, _, rfl, ?_, dk8, fun z => ?_⟩
          · rw [upd_ne ned.symm]; exact he8
          · rw [mem8 z, dk7.len, List.take_length]
            constructor
            · rintro ⟨w2, v2, p2, l2, m2, up2, e2⟩
              obtain ⟨w3, b3, r3, e3⟩ := (mem7 _).mp m2
              obtain ⟨_, p3, _⟩ := (rim_iff pm t w3).mp r3
              have ew := W_inj h0 h3 p2 p3 e3
              subst ew
              exact ⟨v2, b3, ⟨w2, r3, up2⟩, e2⟩
            · rintro ⟨v2, b3, ⟨w3, r3, up3⟩, e2⟩
              obtain ⟨_, p3, l3⟩ := (rim_iff pm t w3).mp r3
              exact ⟨w3, v2, p3, l3, (mem7 _).mpr ⟨w3, b3, r3, rfl⟩, up3, e2⟩
      · obtain ⟨d, kvs, ks, y5, y6, y7, y8, rfl, hd7, dk7, mem7⟩ := hP
        have memA : ∀ z, z ∈ ks ↔ z ∈ (acc u n).map (W fi) := fun z => by
          rw [mem7 z, List.mem_map]
          constructor
          · rintro ⟨w2, b2, r2, e2⟩
            obtain ⟨sp, p2, l2⟩ := (rim_iff pm _ w2).mp r2
            exact ⟨w2, acc_mem.mpr ⟨p2, by omega, sp⟩, e2.symm⟩
          · rintro ⟨w2, a2, e2⟩
            obtain ⟨p2, l2, sp⟩ := acc_mem.mp a2
            have b2 := sp.len
            exact ⟨w2, by omega, (rim_iff pm _ w2).mpr ⟨sp, p2, by omega⟩, e2.symm⟩
        have ndA : ((acc u n).map (W fi)).Nodup := by
          refine List.Pairwise.map _ ?_ (List.Pairwise.and_mem.mp (acc_nodup (due := u) n))
          rintro x y ⟨hx, hy, hne⟩ e
          exact hne (W_inj h0 h3 (acc_mem.mp hx).1 (acc_mem.mp hy).1 e)
        have perm : ks.Perm ((acc u n).map (W fi)) := perm_same dk7.2 ndA memA
        have elen : kvs.length = (acc u n).length := by rw [dk7.len, perm.length_eq, List.length_map]
        refine ⟨_, rfl, _, rfl, fi, u, n, rfl, h0, h3, pm, l1, by omega, hn1, hn9, fun H8 sm8 => ?_⟩
        refine ⟨_, rfl, d, kvs, rfl, sm8 _ _ hd7, .int ((acc u n).length : Nat), (by rw [elen]; rfl), .inl ⟨_, rfl⟩, fun H9 sm9 => ⟨_, rfl, iteF ?_⟩⟩
        have hd9 := sm9 _ _ (sm8 _ _ hd7)
        refine ⟨_, rfl, d, kvs, rfl, hd9, _, _, rfl, rfl, _, rfl, dE (fun c => q _) (fun c => ?_)⟩
        have c' : ¬ ((kvs.length : Nat) : Int) > 500 := c
        refine ⟨_, rfl, _, rfl, fi, u, n, rfl, h0, h3, pm, l1, by omega, hn1, hn9, by omega, fun H10 pw ys sm10 npw hpw permy sy => ?_⟩
        refine ⟨_, rfl, d, kvs, ks, rfl, .inl (sm10 _ _ hd9), dk7.1, fun zs pz permz sz npz => ?_⟩
        have eyz : zs = ys := sorted_one (permz.trans (perm.trans permy.symm)) sz sy
        subst eyz
        exact ⟨pw, pz, zs, rfl, by rw [permz.length_eq, ← dk7.len]; omega, same_upd npz _ _ hpw, upd_same, fun H' _ => q H'⟩
end
end K28
set_option Elab.async false
set_option linter.all false
set_option maxRecDepth 100000
set_option maxHeartbeats 8000000
/-! What the top has written; the promises put together. -/
namespace K28
open PySem PySem.Spec PyProof.Rows L2
theorem all_mk {l : PySem.W.OpenLaw} {w : World} {K : PySem.W.Frag} {h : Heap} {mg : Str → Option Value} {fa f9 f10 f11 f12 f13 f14 f15 f16 f21 f22 f23 f24 f25 f26 f27 f28 f29 f31 f32 f33 f34 f35 f36 f37 f38 : Addr} {t1 t2 t3 t4 t5 : Tok} (X : K.In h) (GN : h.Ns mainGlobals mg) (hfa : mg "law" = some (.ref fa))
    {od9 an9 : Option Addr} {sl9 : Array (Option Value)} {oc9 kV9 dc9 pm9 cd9 ct9 : Value}
    {od10 an10 : Option Addr} {sl10 : Array (Option Value)} {oc10 kV10 dc10 pm10 cd10 ct10 : Value}
    {od11 an11 : Option Addr} {sl11 : Array (Option Value)} {oc11 kV11 dc11 pm11 cd11 ct11 : Value}
    {od12 an12 : Option Addr} {sl12 : Array (Option Value)} {oc12 kV12 dc12 pm12 cd12 ct12 : Value}
    {od13 an13 : Option Addr} {sl13 : Array (Option Value)} {oc13 kV13 dc13 pm13 cd13 ct13 : Value}
    {od14 an14 : Option Addr} {sl14 : Array (Option Value)} {oc14 kV14 dc14 pm14 cd14 ct14 : Value}
    {od15 an15 : Option Addr} {sl15 : Array (Option Value)} {oc15 kV15 dc15 pm15 cd15 ct15 : Value}
    {od16 an16 : Option Addr} {sl16 : Array (Option Value)} {oc16 kV16 dc16 pm16 cd16 ct16 : Value}
    {od21 an21 : Option Addr} {sl21 : Array (Option Value)} {oc21 kV21 dc21 pm21 cd21 ct21 : Value}
    {od22 an22 : Option Addr} {sl22 : Array (Option Value)} {oc22 kV22 dc22 pm22 cd22 ct22 : Value}
    {od23 an23 : Option Addr} {sl23 : Array (Option Value)} {oc23 kV23 dc23 pm23 cd23 ct23 : Value}
    {od24 an24 : Option Addr} {sl24 : Array (Option Value)} {oc24 kV24 dc24 pm24 cd24 ct24 : Value}
    {od25 an25 : Option Addr} {sl25 : Array (Option Value)} {oc25 kV25 dc25 pm25 cd25 ct25 : Value}
    {od26 an26 : Option Addr} {sl26 : Array (Option Value)} {oc26 kV26 dc26 pm26 cd26 ct26 : Value}
    {od27 an27 : Option Addr} {sl27 : Array (Option Value)} {oc27 kV27 dc27 pm27 cd27 ct27 : Value}
    {od28 an28 : Option Addr} {sl28 : Array (Option Value)} {oc28 kV28 dc28 pm28 cd28 ct28 : Value}
    {od29 an29 : Option Addr} {sl29 : Array (Option Value)} {oc29 kV29 dc29 pm29 cd29 ct29 : Value}
    {od31 an31 : Option Addr} {sl31 : Array (Option Value)} {oc31 kV31 dc31 pm31 cd31 ct31 : Value}
    {od32 an32 : Option Addr} {sl32 : Array (Option Value)} {oc32 kV32 dc32 pm32 cd32 ct32 : Value}
    {od33 an33 : Option Addr} {sl33 : Array (Option Value)} {oc33 kV33 dc33 pm33 cd33 ct33 : Value}
    {od34 an34 : Option Addr} {sl34 : Array (Option Value)} {oc34 kV34 dc34 pm34 cd34 ct34 : Value}
    {od35 an35 : Option Addr} {sl35 : Array (Option Value)} {oc35 kV35 dc35 pm35 cd35 ct35 : Value}
    {od36 an36 : Option Addr} {sl36 : Array (Option Value)} {oc36 kV36 dc36 pm36 cd36 ct36 : Value}
    {od37 an37 : Option Addr} {sl37 : Array (Option Value)} {oc37 kV37 dc37 pm37 cd37 ct37 : Value}
    {od38 an38 : Option Addr} {sl38 : Array (Option Value)} {oc38 kV38 dc38 pm38 cd38 ct38 : Value}
    (a9 : PySem.W.nsIn K mainGlobals "is_int" = some (some (.ref f9))) (l9 : K.lookup f9 = some ⟨oc9, od9, .func (PySem.W.fnOf "is_int" "is_int" (defArgs dIsInt) (defBody dIsInt) (defScope dIsInt) .none kV9 dc9 pm9 an9 cd9 ct9), sl9⟩) (c9 : PySem.W.codeIn K cd9 "is_int" = true) (k9 : PySem.W.keepIn K (.ref f9) = true)
    (a10 : PySem.W.nsIn K mainGlobals "is_in" = some (some (.ref f10))) (l10 : K.lookup f10 = some ⟨oc10, od10, .func (PySem.W.fnOf "is_in" "is_in" (defArgs dIsIn) (defBody dIsIn) (defScope dIsIn) .none kV10 dc10 pm10 an10 cd10 ct10), sl10⟩) (c10 : PySem.W.codeIn K cd10 "is_in" = true) (k10 : PySem.W.keepIn K (.ref f10) = true)
    (a11 : PySem.W.nsIn K mainGlobals "need_number" = some (some (.ref f11))) (l11 : K.lookup f11 = some ⟨oc11, od11, .func (PySem.W.fnOf "need_number" "need_number" (defArgs dNeedNumber) (defBody dNeedNumber) (defScope dNeedNumber) .none kV11 dc11 pm11 an11 cd11 ct11), sl11⟩) (c11 : PySem.W.codeIn K cd11 "need_number" = true) (k11 : PySem.W.keepIn K (.ref f11) = true)
    (a12 : PySem.W.nsIn K mainGlobals "need_word" = some (some (.ref f12))) (l12 : K.lookup f12 = some ⟨oc12, od12, .func (PySem.W.fnOf "need_word" "need_word" (defArgs dNeedWord) (defBody dNeedWord) (defScope dNeedWord) .none kV12 dc12 pm12 an12 cd12 ct12), sl12⟩) (c12 : PySem.W.codeIn K cd12 "need_word" = true) (k12 : PySem.W.keepIn K (.ref f12) = true)
    (a13 : PySem.W.nsIn K mainGlobals "need_short" = some (some (.ref f13))) (l13 : K.lookup f13 = some ⟨oc13, od13, .func (PySem.W.fnOf "need_short" "need_short" (defArgs dNeedShort) (defBody dNeedShort) (defScope dNeedShort) .none kV13 dc13 pm13 an13 cd13 ct13), sl13⟩) (c13 : PySem.W.codeIn K cd13 "need_short" = true) (k13 : PySem.W.keepIn K (.ref f13) = true)
    (a14 : PySem.W.nsIn K mainGlobals "need_limited" = some (some (.ref f14))) (l14 : K.lookup f14 = some ⟨oc14, od14, .func (PySem.W.fnOf "need_limited" "need_limited" (defArgs dNeedLimited) (defBody dNeedLimited) (defScope dNeedLimited) .none kV14 dc14 pm14 an14 cd14 ct14), sl14⟩) (c14 : PySem.W.codeIn K cd14 "need_limited" = true) (k14 : PySem.W.keepIn K (.ref f14) = true)
    (a15 : PySem.W.nsIn K mainGlobals "steps_of" = some (some (.ref f15))) (l15 : K.lookup f15 = some ⟨oc15, od15, .func (PySem.W.fnOf "steps_of" "steps_of" (defArgs dStepsOf) (defBody dStepsOf) (defScope dStepsOf) .none kV15 dc15 pm15 an15 cd15 ct15), sl15⟩) (c15 : PySem.W.codeIn K cd15 "steps_of" = true) (k15 : PySem.W.keepIn K (.ref f15) = true)
    (a16 : PySem.W.nsIn K mainGlobals "word_of" = some (some (.ref f16))) (l16 : K.lookup f16 = some ⟨oc16, od16, .func (PySem.W.fnOf "word_of" "word_of" (defArgs dWordOf) (defBody dWordOf) (defScope dWordOf) .none kV16 dc16 pm16 an16 cd16 ct16), sl16⟩) (c16 : PySem.W.codeIn K cd16 "word_of" = true) (k16 : PySem.W.keepIn K (.ref f16) = true)
    (a21 : PySem.W.nsIn K mainGlobals "begin_state" = some (some (.ref f21))) (l21 : K.lookup f21 = some ⟨oc21, od21, .func (PySem.W.fnOf "begin_state" "begin_state" (defArgs dBeginState) (defBody dBeginState) (defScope dBeginState) .none kV21 dc21 pm21 an21 cd21 ct21), sl21⟩) (c21 : PySem.W.codeIn K cd21 "begin_state" = true) (k21 : PySem.W.keepIn K (.ref f21) = true)
    (a22 : PySem.W.nsIn K mainGlobals "read_step" = some (some (.ref f22))) (l22 : K.lookup f22 = some ⟨oc22, od22, .func (PySem.W.fnOf "read_step" "read_step" (defArgs dReadStep) (defBody dReadStep) (defScope dReadStep) .none kV22 dc22 pm22 an22 cd22 ct22), sl22⟩) (c22 : PySem.W.codeIn K cd22 "read_step" = true) (k22 : PySem.W.keepIn K (.ref f22) = true)
    (a23 : PySem.W.nsIn K mainGlobals "is_done" = some (some (.ref f23))) (l23 : K.lookup f23 = some ⟨oc23, od23, .func (PySem.W.fnOf "is_done" "is_done" (defArgs dIsDone) (defBody dIsDone) (defScope dIsDone) .none kV23 dc23 pm23 an23 cd23 ct23), sl23⟩) (c23 : PySem.W.codeIn K cd23 "is_done" = true) (k23 : PySem.W.keepIn K (.ref f23) = true)
    (a24 : PySem.W.nsIn K mainGlobals "grow" = some (some (.ref f24))) (l24 : K.lookup f24 = some ⟨oc24, od24, .func (PySem.W.fnOf "grow" "grow" (defArgs dGrow) (defBody dGrow) (defScope dGrow) .none kV24 dc24 pm24 an24 cd24 ct24), sl24⟩) (c24 : PySem.W.codeIn K cd24 "grow" = true) (k24 : PySem.W.keepIn K (.ref f24) = true)
    (a25 : PySem.W.nsIn K mainGlobals "need_base" = some (some (.ref f25))) (l25 : K.lookup f25 = some ⟨oc25, od25, .func (PySem.W.fnOf "need_base" "need_base" (defArgs dNeedBase) (defBody dNeedBase) (defScope dNeedBase) .none kV25 dc25 pm25 an25 cd25 ct25), sl25⟩) (c25 : PySem.W.codeIn K cd25 "need_base" = true) (k25 : PySem.W.keepIn K (.ref f25) = true)
    (a26 : PySem.W.nsIn K mainGlobals "number_above" = some (some (.ref f26))) (l26 : K.lookup f26 = some ⟨oc26, od26, .func (PySem.W.fnOf "number_above" "number_above" (defArgs dNumberAbove) (defBody dNumberAbove) (defScope dNumberAbove) .none kV26 dc26 pm26 an26 cd26 ct26), sl26⟩) (c26 : PySem.W.codeIn K cd26 "number_above" = true) (k26 : PySem.W.keepIn K (.ref f26) = true)
    (a27 : PySem.W.nsIn K mainGlobals "count_above" = some (some (.ref f27))) (l27 : K.lookup f27 = some ⟨oc27, od27, .func (PySem.W.fnOf "count_above" "count_above" (defArgs dCountAbove) (defBody dCountAbove) (defScope dCountAbove) .none kV27 dc27 pm27 an27 cd27 ct27), sl27⟩) (c27 : PySem.W.codeIn K cd27 "count_above" = true) (k27 : PySem.W.keepIn K (.ref f27) = true)
    (a28 : PySem.W.nsIn K mainGlobals "words_above" = some (some (.ref f28))) (l28 : K.lookup f28 = some ⟨oc28, od28, .func (PySem.W.fnOf "words_above" "words_above" (defArgs dWordsAbove) (defBody dWordsAbove) (defScope dWordsAbove) .none kV28 dc28 pm28 an28 cd28 ct28), sl28⟩) (c28 : PySem.W.codeIn K cd28 "words_above" = true) (k28 : PySem.W.keepIn K (.ref f28) = true)
    (a29 : PySem.W.nsIn K mainGlobals "left_of" = some (some (.ref f29))) (l29 : K.lookup f29 = some ⟨oc29, od29, .func (PySem.W.fnOf "left_of" "left_of" (defArgs dLeftOf) (defBody dLeftOf) (defScope dLeftOf) .none kV29 dc29 pm29 an29 cd29 ct29), sl29⟩) (c29 : PySem.W.codeIn K cd29 "left_of" = true) (k29 : PySem.W.keepIn K (.ref f29) = true)
    (a31 : PySem.W.nsIn K mainGlobals "_law_taken" = some (some (.ref f31))) (l31 : K.lookup f31 = some ⟨oc31, od31, .func (PySem.W.fnOf "_law_taken" "_law_taken" (defArgs dTaken) (defBody dTaken) (defScope dTaken) .none kV31 dc31 pm31 an31 cd31 ct31), sl31⟩) (c31 : PySem.W.codeIn K cd31 "_law_taken" = true) (k31 : PySem.W.keepIn K (.ref f31) = true)
    (a32 : PySem.W.nsIn K mainGlobals "_law_pick" = some (some (.ref f32))) (l32 : K.lookup f32 = some ⟨oc32, od32, .func (PySem.W.fnOf "_law_pick" "_law_pick" (defArgs dPick) (defBody dPick) (defScope dPick) .none kV32 dc32 pm32 an32 cd32 ct32), sl32⟩) (c32 : PySem.W.codeIn K cd32 "_law_pick" = true) (k32 : PySem.W.keepIn K (.ref f32) = true)
    (a33 : PySem.W.nsIn K mainGlobals "_law_alike" = some (some (.ref f33))) (l33 : K.lookup f33 = some ⟨oc33, od33, .func (PySem.W.fnOf "_law_alike" "_law_alike" (defArgs dAlike) (defBody dAlike) (defScope dAlike) .none kV33 dc33 pm33 an33 cd33 ct33), sl33⟩) (c33 : PySem.W.codeIn K cd33 "_law_alike" = true) (k33 : PySem.W.keepIn K (.ref f33) = true)
    (a34 : PySem.W.nsIn K mainGlobals "_law_word" = some (some (.ref f34))) (l34 : K.lookup f34 = some ⟨oc34, od34, .func (PySem.W.fnOf "_law_word" "_law_word" (defArgs dLawWord) (defBody dLawWord) (defScope dLawWord) .none kV34 dc34 pm34 an34 cd34 ct34), sl34⟩) (c34 : PySem.W.codeIn K cd34 "_law_word" = true) (k34 : PySem.W.keepIn K (.ref f34) = true)
    (a35 : PySem.W.nsIn K mainGlobals "_law_any" = some (some (.ref f35))) (l35 : K.lookup f35 = some ⟨oc35, od35, .func (PySem.W.fnOf "_law_any" "_law_any" (defArgs dAny) (defBody dAny) (defScope dAny) .none kV35 dc35 pm35 an35 cd35 ct35), sl35⟩) (c35 : PySem.W.codeIn K cd35 "_law_any" = true) (k35 : PySem.W.keepIn K (.ref f35) = true)
    (a36 : PySem.W.nsIn K mainGlobals "_law_put" = some (some (.ref f36))) (l36 : K.lookup f36 = some ⟨oc36, od36, .func (PySem.W.fnOf "_law_put" "_law_put" (defArgs dPut) (defBody dPut) (defScope dPut) .none kV36 dc36 pm36 an36 cd36 ct36), sl36⟩) (c36 : PySem.W.codeIn K cd36 "_law_put" = true) (k36 : PySem.W.keepIn K (.ref f36) = true)
    (a37 : PySem.W.nsIn K mainGlobals "_law_ups" = some (some (.ref f37))) (l37 : K.lookup f37 = some ⟨oc37, od37, .func (PySem.W.fnOf "_law_ups" "_law_ups" (defArgs dUps) (defBody dUps) (defScope dUps) .none kV37 dc37 pm37 an37 cd37 ct37), sl37⟩) (c37 : PySem.W.codeIn K cd37 "_law_ups" = true) (k37 : PySem.W.keepIn K (.ref f37) = true)
    (a38 : PySem.W.nsIn K mainGlobals "law" = some (some (.ref f38))) (l38 : K.lookup f38 = some ⟨oc38, od38, .func (PySem.W.fnOf "law" "law" (defArgs dLaw) (defBody dLaw) (defScope dLaw) .none kV38 dc38 pm38 an38 cd38 ct38), sl38⟩) (c38 : PySem.W.codeIn K cd38 "law" = true) (k38 : PySem.W.keepIn K (.ref f38) = true)
    (v0 : PySem.W.nsIn K mainGlobals "LETTERS" = some (some (.str "abc" t1)))
    (v1 : PySem.W.nsIn K mainGlobals "MOST_LETTERS" = some (some (.int 200 t2)))
    (v2 : PySem.W.nsIn K mainGlobals "MOST_BASE" = some (some (.int 12 t3)))
    (v3 : PySem.W.nsIn K mainGlobals "MOST_GROWN" = some (some (.int 60 t4)))
    (v4 : PySem.W.nsIn K mainGlobals "MOST_LISTED" = some (some (.int 500 t5)))
    (z0 : PySem.W.nsIn K mainGlobals "isinstance" = some none)
    (z1 : PySem.W.nsIn K mainGlobals "int" = some none)
    (z2 : PySem.W.nsIn K mainGlobals "bool" = some none)
    (z3 : PySem.W.nsIn K mainGlobals "str" = some none)
    (z4 : PySem.W.nsIn K mainGlobals "len" = some none)
    (z5 : PySem.W.nsIn K mainGlobals "enumerate" = some none)
    (z6 : PySem.W.nsIn K mainGlobals "zip" = some none)
    (z7 : PySem.W.nsIn K mainGlobals "max" = some none)
    (z8 : PySem.W.nsIn K mainGlobals "sum" = some none)
    (z9 : PySem.W.nsIn K mainGlobals "range" = some none)
    (z10 : PySem.W.nsIn K mainGlobals "sorted" = some none)
    (z11 : PySem.W.nsIn K mainGlobals "set" = some none)
    (z12 : PySem.W.nsIn K mainGlobals "tuple" = some none)
    (z13 : PySem.W.nsIn K mainGlobals "list" = some none)
    : ∃ fd : FuncData, (∀ (s : Shared) (v : Value), BindsTo s fd ⟨[v], []⟩ [("_law_script", v)]) ∧ ∀ base : Heap, K.In base → base.Ns mainGlobals mg → FnOk l.prog w K mg base CX0 12 fa fd ["_law_script"] (spLaw K) := by
  have e := hfa.symm.trans (PySem.W.mg_of X GN a38)
  cases e
  have G : Gb mg t1 t2 t3 t4 t5 := ⟨PySem.W.mg_none_of X GN z0, PySem.W.mg_none_of X GN z1, PySem.W.mg_none_of X GN z2, PySem.W.mg_none_of X GN z3, PySem.W.mg_none_of X GN z4, PySem.W.mg_none_of X GN z5, PySem.W.mg_none_of X GN z6, PySem.W.mg_none_of X GN z7, PySem.W.mg_none_of X GN z8, PySem.W.mg_none_of X GN z9, PySem.W.mg_none_of X GN z10, PySem.W.mg_none_of X GN z11, PySem.W.mg_none_of X GN z12, PySem.W.mg_none_of X GN z13, PySem.W.mg_of X GN v0, PySem.W.mg_of X GN v1, PySem.W.mg_of X GN v2, PySem.W.mg_of X GN v3, PySem.W.mg_of X GN v4⟩
  have F9 := fun_mk (st := dIsInt) l9 c9 k9
  have b9 := F9.binds (ps := ["value"]) fun _ _ _ _ _ _ us hl => match us, hl with | [_], _ => rfl
  have m9 := PySem.W.mg_of X GN a9
  have F10 := fun_mk (st := dIsIn) l10 c10 k10
  have b10 := F10.binds (ps := ["value", "least", "most"]) fun _ _ _ _ _ _ us hl => match us, hl with | [_, _, _], _ => rfl
  have m10 := PySem.W.mg_of X GN a10
  have F11 := fun_mk (st := dNeedNumber) l11 c11 k11
  have b11 := F11.binds (ps := ["value", "least", "most"]) fun _ _ _ _ _ _ us hl => match us, hl with | [_, _, _], _ => rfl
  have m11 := PySem.W.mg_of X GN a11
  have F12 := fun_mk (st := dNeedWord) l12 c12 k12
  have b12 := F12.binds (ps := ["value"]) fun _ _ _ _ _ _ us hl => match us, hl with | [_], _ => rfl
  have m12 := PySem.W.mg_of X GN a12
  have F13 := fun_mk (st := dNeedShort) l13 c13 k13
  have b13 := F13.binds (ps := ["words", "most"]) fun _ _ _ _ _ _ us hl => match us, hl with | [_, _], _ => rfl
  have m13 := PySem.W.mg_of X GN a13
  have F14 := fun_mk (st := dNeedLimited) l14 c14 k14
  have b14 := F14.binds (ps := ["word", "most"]) fun _ _ _ _ _ _ us hl => match us, hl with | [_, _], _ => rfl
  have m14 := PySem.W.mg_of X GN a14
  have F15 := fun_mk (st := dStepsOf) l15 c15 k15
  have b15 := F15.binds (ps := ["word"]) fun _ _ _ _ _ _ us hl => match us, hl with | [_], _ => rfl
  have m15 := PySem.W.mg_of X GN a15
  have F16 := fun_mk (st := dWordOf) l16 c16 k16
  have b16 := F16.binds (ps := ["first", "steps"]) fun _ _ _ _ _ _ us hl => match us, hl with | [_, _], _ => rfl
  have m16 := PySem.W.mg_of X GN a16
  have F21 := fun_mk (st := dBeginState) l21 c21 k21
  have b21 := F21.binds (ps := ([] : List Str)) fun _ _ _ _ _ _ us hl => match us, hl with | [], _ => rfl
  have m21 := PySem.W.mg_of X GN a21
  have F22 := fun_mk (st := dReadStep) l22 c22 k22
  have b22 := F22.binds (ps := ["due", "state", "step"]) fun _ _ _ _ _ _ us hl => match us, hl with | [_, _, _], _ => rfl
  have m22 := PySem.W.mg_of X GN a22
  have F23 := fun_mk (st := dIsDone) l23 c23 k23
  have b23 := F23.binds (ps := ["due", "state"]) fun _ _ _ _ _ _ us hl => match us, hl with | [_, _], _ => rfl
  have m23 := PySem.W.mg_of X GN a23
  have F24 := fun_mk (st := dGrow) l24 c24 k24
  have b24 := F24.binds (ps := ["due", "states"]) fun _ _ _ _ _ _ us hl => match us, hl with | [_, _], _ => rfl
  have m24 := PySem.W.mg_of X GN a24
  have F25 := fun_mk (st := dNeedBase) l25 c25 k25
  have b25 := F25.binds (ps := ["word", "size"]) fun _ _ _ _ _ _ us hl => match us, hl with | [_, _], _ => rfl
  have m25 := PySem.W.mg_of X GN a25
  have F26 := fun_mk (st := dNumberAbove) l26 c26 k26
  have b26 := F26.binds (ps := ["due", "many"]) fun _ _ _ _ _ _ us hl => match us, hl with | [_, _], _ => rfl
  have m26 := PySem.W.mg_of X GN a26
  have F27 := fun_mk (st := dCountAbove) l27 c27 k27
  have b27 := F27.binds (ps := ["word", "size"]) fun _ _ _ _ _ _ us hl => match us, hl with | [_, _], _ => rfl
  have m27 := PySem.W.mg_of X GN a27
  have F28 := fun_mk (st := dWordsAbove) l28 c28 k28
  have b28 := F28.binds (ps := ["word", "size"]) fun _ _ _ _ _ _ us hl => match us, hl with | [_, _], _ => rfl
  have m28 := PySem.W.mg_of X GN a28
  have F29 := fun_mk (st := dLeftOf) l29 c29 k29
  have b29 := F29.binds (ps := ["known", "due", "state", "many"]) fun _ _ _ _ _ _ us hl => match us, hl with | [_, _, _, _], _ => rfl
  have m29 := PySem.W.mg_of X GN a29
  have F31 := fun_mk (st := dTaken) l31 c31 k31
  have b31 := F31.binds (ps := ["_law_row", "_law_many"]) fun _ _ _ _ _ _ us hl => match us, hl with | [_, _], _ => rfl
  have m31 := PySem.W.mg_of X GN a31
  have F32 := fun_mk (st := dPick) l32 c32 k32
  have b32 := F32.binds (ps := ["_law_row", "_law_things"]) fun _ _ _ _ _ _ us hl => match us, hl with | [_, _], _ => rfl
  have m32 := PySem.W.mg_of X GN a32
  have F33 := fun_mk (st := dAlike) l33 c33 k33
  have b33 := F33.binds (ps := ["_law_found", "_law_due"]) fun _ _ _ _ _ _ us hl => match us, hl with | [_, _], _ => rfl
  have m33 := PySem.W.mg_of X GN a33
  have F34 := fun_mk (st := dLawWord) l34 c34 k34
  have b34 := F34.binds (ps := ["_law_first", "_law_line"]) fun _ _ _ _ _ _ us hl => match us, hl with | [_, _], _ => rfl
  have m34 := PySem.W.mg_of X GN a34
  have F35 := fun_mk (st := dAny) l35 c35 k35
  have b35 := F35.binds (ps := ["_law_row", "_law_most"]) fun _ _ _ _ _ _ us hl => match us, hl with | [_, _], _ => rfl
  have m35 := PySem.W.mg_of X GN a35
  have F36 := fun_mk (st := dPut) l36 c36 k36
  have b36 := F36.binds (ps := ["_law_word_here", "_law_place"]) fun _ _ _ _ _ _ us hl => match us, hl with | [_, _], _ => rfl
  have m36 := PySem.W.mg_of X GN a36
  have F37 := fun_mk (st := dUps) l37 c37 k37
  have b37 := F37.binds (ps := ["_law_word_here"]) fun _ _ _ _ _ _ us hl => match us, hl with | [_], _ => rfl
  have m37 := PySem.W.mg_of X GN a37
  have F38 := fun_mk (st := dLaw) l38 c38 k38
  have b38 := F38.binds (ps := ["_law_script"]) fun _ _ _ _ _ _ us hl => match us, hl with | [_], _ => rfl
  have m38 := PySem.W.mg_of X GN a38
  refine ⟨PySem.W.fnOf "law" "law" (defArgs dLaw) (defBody dLaw) (defScope dLaw) .none kV38 dc38 pm38 an38 cd38 ct38, fun s v => .of_eq rfl, fun base _ _ => ?_⟩
  have g9 := ok_isInt (P := l.prog) (w := w) (base := base) (mg := mg) (k := 0) F9 G 
  have g10 := ok_isIn (P := l.prog) (w := w) (base := base) (mg := mg) (k := 1) F10 g9 k9 b9 m9
  have g11 := ok_needNumber (P := l.prog) (w := w) (base := base) (mg := mg) (k := 2) F11 g10 k10 b10 m10
  have g12 := ok_needWord (P := l.prog) (w := w) (base := base) (mg := mg) (k := 0) F12 G 
  have g13 := ok_needShort (P := l.prog) (w := w) (base := base) (mg := mg) (k := 0) F13 G 
  have g14 := ok_needLimited (P := l.prog) (w := w) (base := base) (mg := mg) (k := 1) F14 g12 k12 b12 m12 g13 k13 b13 m13
  have g25 := ok_needBase (P := l.prog) (w := w) (base := base) (mg := mg) (k := 3) F25 G (g14.mono (by decide)) k14 b14 m14 g11 k11 b11 m11
  have g15 := ok_stepsOf (P := l.prog) (w := w) (base := base) (mg := mg) (k := 0) F15 G 
  have g16 := ok_wordOf (P := l.prog) (w := w) (base := base) (mg := mg) (k := 0) F16 G 
  have g21 := ok_begin (P := l.prog) (w := w) (base := base) (mg := mg) (k := 0) F21 
  have g22 := ok_readStep (P := l.prog) (w := w) (base := base) (mg := mg) (k := 0) F22 G 
  have g23 := ok_done (P := l.prog) (w := w) (base := base) (mg := mg) (k := 0) F23 G 
  have g24 := ok_grow (P := l.prog) (w := w) (base := base) (mg := mg) (k := 1) F24 G g22 k22 b22 m22
  have g26 := ok_number (P := l.prog) (w := w) (base := base) (mg := mg) (k := 2) F26 G (g21.mono (by decide)) k21 b21 m21 g24 k24 b24 m24 (g23.mono (by decide)) k23 b23 m23
  have g27 := ok_count (P := l.prog) (w := w) (base := base) (mg := mg) (k := 4) F27 G g25 k25 b25 m25 (g15.mono (by decide)) k15 b15 m15 (g26.mono (by decide)) k26 b26 m26
  have g29 := ok_left (P := l.prog) (w := w) (base := base) (mg := mg) (k0 := 1) F29 G k29 b29 m29 g22 k22 b22 m22 g23 k23 b23 m23 9
  have g28 := ok_words (P := l.prog) (w := w) (base := base) (mg := mg) (k := 10) F28 G (g25.mono (by decide)) k25 b25 m25 (g15.mono (by decide)) k15 b15 m15 (g26.mono (by decide)) k26 b26 m26 (g21.mono (by decide)) k21 b21 m21 (g22.mono (by decide)) k22 b22 m22 g29 k29 b29 m29 (g16.mono (by decide)) k16 b16 m16
  have g31 := ok_taken (P := l.prog) (w := w) (base := base) (mg := mg) (k := 0) F31 G 
  have g32 := ok_pick (P := l.prog) (w := w) (base := base) (mg := mg) (k := 1) F32 G g31 k31 b31 m31
  have g34 := ok_lawWord (P := l.prog) (w := w) (base := base) (mg := mg) (k := 0) F34 G 
  have g35 := ok_any (P := l.prog) (w := w) (base := base) (mg := mg) (k := 2) F35 G (g31.mono (by decide)) k31 b31 m31 g32 k32 b32 m32 (g34.mono (by decide)) k34 b34 m34
  have g36 := ok_put (P := l.prog) (w := w) (base := base) (mg := mg) (k := 0) F36 G 
  have g37 := ok_ups (P := l.prog) (w := w) (base := base) (mg := mg) (k := 1) F37 G g36 k36 b36 m36
  have gA0 := ok_alike0 (P := l.prog) (w := w) (base := base) (mg := mg) (k := 0) F33 G
  have gA1 := ok_alike1 (P := l.prog) (w := w) (base := base) (mg := mg) (k := 1) F33 G gA0 k33 b33 m33
  exact ok_law (k := 11) F38 G (g31.mono (by decide)) k31 b31 m31 (g32.mono (by decide)) k32 b32 m32 (g35.mono (by decide)) k35 b35 m35 (g37.mono (by decide)) k37 b37 m37 (gA0.mono (by decide)) (gA1.mono (by decide)) k33 b33 m33 (g27.mono (by decide)) k27 b27 m27 g28 k28 b28 m28
theorem walk {l : PySem.W.OpenLaw} {q : Program} {loose : List Str} {XP : (Str → Option Value) → Heap → Prop} {YP : World → Heap → Prop} {d : DefRec} {K : Params → PySem.W.Frag} (hn : l.most = some 63) (hdf : d.params.defaults = [])
    (hY : ∀ (w : World) (h : Heap), YP w h → (K w.params).In h)
    (F : ∀ (w : World) (mg : Str → Option Value) (fa : Addr) (h : Heap), (K w.params).In h → h.Ns mainGlobals mg → mg d.name = some (.ref fa) →
      ∃ fd : FuncData, (∀ (s : Shared) (u : Value), BindsTo s fd ⟨[u], []⟩ [("_law_script", u)]) ∧ ∀ base : Heap, (K w.params).In base → base.Ns mainGlobals mg → FnOk l.prog w (K w.params) mg base CX0 12 fa fd ["_law_script"] (spLaw (K w.params))) :
    PySem.W.WalkO q loose XP YP l.row.toRowW d [] (fun f vs => PySem.call f vs) :=
  L2.walk_of (n := 63) (k := 12) (x := "_law_script") (CX := fun _ => CX0) (sp := fun w => spLaw (K w.params)) hn (by decide) hdf ⟨rfl, by decide, by decide⟩ hY F (fun _ _ a ns _ _ hS => ⟨a, ns, rfl, hS, fun _ => rfl⟩) fun _ _ _ _ _ z => z
end K28
open PySem PySem.W PyProof.Rows
set_option Elab.async false
set_option maxRecDepth 100000 in
set_option maxHeartbeats 0 in
theorem PySem.Challenge.cw_thirdletters_k28_whole_words_above_holds : PySem.Challenge.rw_thirdletters_k28_whole_words_above.Holds := by
  w_on; o_law; k_head; (case hw => w_witness2)
  k_fill
  refine K28.walk (l := PySem.Challenge.rw_thirdletters_k28_whole_words_above) rfl rfl (fun w h Y => PySem.W.kIn_of Y) ?F
  case F =>
    intro w mg fa h KX G hmg
    refine' K28.all_mk KX G hmg ?a9 ?l9 ?c9 ?k9 ?a10 ?l10 ?c10 ?k10 ?a11 ?l11 ?c11 ?k11 ?a12 ?l12 ?c12 ?k12 ?a13 ?l13 ?c13 ?k13 ?a14 ?l14 ?c14 ?k14 ?a15 ?l15 ?c15 ?k15 ?a16 ?l16 ?c16 ?k16 ?a21 ?l21 ?c21 ?k21 ?a22 ?l22 ?c22 ?k22 ?a23 ?l23 ?c23 ?k23 ?a24 ?l24 ?c24 ?k24 ?a25 ?l25 ?c25 ?k25 ?a26 ?l26 ?c26 ?k26 ?a27 ?l27 ?c27 ?k27 ?a28 ?l28 ?c28 ?k28 ?a29 ?l29 ?c29 ?k29 ?a31 ?l31 ?c31 ?k31 ?a32 ?l32 ?c32 ?k32 ?a33 ?l33 ?c33 ?k33 ?a34 ?l34 ?c34 ?k34 ?a35 ?l35 ?c35 ?k35 ?a36 ?l36 ?c36 ?k36 ?a37 ?l37 ?c37 ?k37 ?a38 ?l38 ?c38 ?k38 ?v0 ?v1 ?v2 ?v3 ?v4 ?z0 ?z1 ?z2 ?z3 ?z4 ?z5 ?z6 ?z7 ?z8 ?z9 ?z10 ?z11 ?z12 ?z13
    (case a9 => k_is); (case l9 => k_is); (case c9 => k_is); (case k9 => k_is); (case a10 => k_is); (case l10 => k_is); (case c10 => k_is); (case k10 => k_is)
    (case a11 => k_is); (case l11 => k_is); (case c11 => k_is); (case k11 => k_is); (case a12 => k_is); (case l12 => k_is); (case c12 => k_is); (case k12 => k_is)
    (case a13 => k_is); (case l13 => k_is); (case c13 => k_is); (case k13 => k_is); (case a14 => k_is); (case l14 => k_is); (case c14 => k_is); (case k14 => k_is)
    (case a15 => k_is); (case l15 => k_is); (case c15 => k_is); (case k15 => k_is); (case a16 => k_is); (case l16 => k_is); (case c16 => k_is); (case k16 => k_is)
    (case a21 => k_is); (case l21 => k_is); (case c21 => k_is); (case k21 => k_is); (case a22 => k_is); (case l22 => k_is); (case c22 => k_is); (case k22 => k_is)
    (case a23 => k_is); (case l23 => k_is); (case c23 => k_is); (case k23 => k_is); (case a24 => k_is); (case l24 => k_is); (case c24 => k_is); (case k24 => k_is)
    (case a25 => k_is); (case l25 => k_is); (case c25 => k_is); (case k25 => k_is); (case a26 => k_is); (case l26 => k_is); (case c26 => k_is); (case k26 => k_is)
    (case a27 => k_is); (case l27 => k_is); (case c27 => k_is); (case k27 => k_is); (case a28 => k_is); (case l28 => k_is); (case c28 => k_is); (case k28 => k_is)
    (case a29 => k_is); (case l29 => k_is); (case c29 => k_is); (case k29 => k_is); (case a31 => k_is); (case l31 => k_is); (case c31 => k_is); (case k31 => k_is)
    (case a32 => k_is); (case l32 => k_is); (case c32 => k_is); (case k32 => k_is); (case a33 => k_is); (case l33 => k_is); (case c33 => k_is); (case k33 => k_is)
    (case a34 => k_is); (case l34 => k_is); (case c34 => k_is); (case k34 => k_is); (case a35 => k_is); (case l35 => k_is); (case c35 => k_is); (case k35 => k_is)
    (case a36 => k_is); (case l36 => k_is); (case c36 => k_is); (case k36 => k_is); (case a37 => k_is); (case l37 => k_is); (case c37 => k_is); (case k37 => k_is)
    (case a38 => k_is); (case l38 => k_is); (case c38 => k_is); (case k38 => k_is); (case v0 => k_is); (case v1 => k_is); (case v2 => k_is); (case v3 => k_is)
    (case v4 => k_is); (case z0 => k_is); (case z1 => k_is); (case z2 => k_is); (case z3 => k_is); (case z4 => k_is); (case z5 => k_is); (case z6 => k_is)
    (case z7 => k_is); (case z8 => k_is); (case z9 => k_is); (case z10 => k_is); (case z11 => k_is); (case z12 => k_is); (case z13 => k_is)
