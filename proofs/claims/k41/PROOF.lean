import PyProof.Rows.All
import Wide.All
import OpenK.AllK
import Wide.FinOn
import KE.KDictKeyed
import KE.KDictDisplayH
import PyProof.Rows.SeqRoads
import KE.GoesMore
import PyProof.ListStr
import PyProof.TupleOfSeq
import HandS.ForMost
import HandS.Defaults
import HandS.Property
import HandS.Replace
import HandS.IsInst
import HandS.TupAny
import HandS.Conv
import HandS.DictComp
import HandS.Style
import HandS.Codes
import HandS.HeadHook4
import PySem.Challenge.RW_rankedjoins_k41_whole_let_exactly_if_it
import KE.KStateDown
import Lean
import HandS.Head2
import HandS.HeadEnd

set_option Elab.async false
set_option linter.all false
/-! The mathematics of joins: a row is put together stage by stage; when the cut of two texts is the two cuts. Plain Lean. -/
namespace J
/-! ### one stage -/
def mrg (a c n : Nat) : List Nat → List Nat
  | [] => []
  | [x] => [x]
  | x :: y :: t => if x = a ∧ y = c then n :: mrg a c n t else x :: mrg a c n (y :: t)
def Adj (a c : Nat) (R : List Nat) : Prop := ∃ s t, R = s ++ a :: c :: t

theorem mrg_hit {a c n : Nat} {t : List Nat} : mrg a c n (a :: c :: t) = n :: mrg a c n t := by
  simp [mrg]
theorem mrg_miss {a c n x y : Nat} {t : List Nat} (h : ¬ (x = a ∧ y = c)) : mrg a c n (x :: y :: t) = x :: mrg a c n (y :: t) := by
  simp [mrg, h]
theorem mrg_ne {a c n : Nat} : ∀ {R : List Nat}, R ≠ [] → mrg a c n R ≠ []
  | [], h => absurd rfl h
  | [_], _ => by simp [mrg]
  | x :: y :: t, _ => by
    by_cases h : x = a ∧ y = c
    · obtain ⟨rfl, rfl⟩ := h
      rw [mrg_hit]; simp
    · rw [mrg_miss h]; simp
theorem mrg_cons_miss {a c n x : Nat} {Y : List Nat} (h : ∀ y t, Y = y :: t → ¬ (x = a ∧ y = c)) : mrg a c n (x :: Y) = x :: mrg a c n Y := by
  cases Y with
  | nil => simp [mrg]
  | cons y t => exact mrg_miss (h y t rfl)
/-- a place of the row behind is a place of the row ahead -/
theorem mrg_split {a c n : Nat} : ∀ (R A B : List Nat), mrg a c n R = A ++ B → ∃ R1 R2, R = R1 ++ R2 ∧ mrg a c n R1 = A ∧ mrg a c n R2 = B
  | R, [], B, h => ⟨[], R, rfl, rfl, h⟩
  | [], x :: A, B, h => by simp [mrg] at h
  | [x], y :: A, B, h => by
    simp [mrg] at h
    obtain ⟨rfl, h1, h2⟩ := h
    subst h1 h2
    exact ⟨[x], [], rfl, rfl, rfl⟩
  | x :: y :: t, z :: A, B, h => by
    by_cases q : x = a ∧ y = c
    · obtain ⟨rfl, rfl⟩ := q
      rw [mrg_hit] at h
      simp only [List.cons_append, List.cons.injEq] at h
      obtain ⟨rfl, h⟩ := h
      obtain ⟨R1, R2, e, h1, h2⟩ := mrg_split t A B h
      exact ⟨x :: y :: R1, R2, by rw [e]; rfl, by rw [mrg_hit, h1], h2⟩
    · rw [mrg_miss q] at h
      simp only [List.cons_append, List.cons.injEq] at h
      obtain ⟨rfl, h⟩ := h
      obtain ⟨R1, R2, e, h1, h2⟩ := mrg_split (y :: t) A B h
      refine ⟨x :: R1, R2, by rw [e]; rfl, ?_, h2⟩
      rw [mrg_cons_miss fun y' t' e' => ?_, h1]
      subst e'
      simp only [List.cons_append, List.cons.injEq] at e
      rw [← e.1]
      exact q
/-- a stage goes apart where it does not cross -/
theorem mrg_app {a c n : Nat} : ∀ (X Y : List Nat), ¬ ((mrg a c n X).getLast? = some a ∧ Y.head? = some c) → mrg a c n (X ++ Y) = mrg a c n X ++ mrg a c n Y
  | [], Y, _ => rfl
  | [x], Y, h => by
    show mrg a c n (x :: Y) = x :: mrg a c n Y
    refine mrg_cons_miss fun y t e q => h ⟨?_, ?_⟩
    · simp [mrg, q.1]
    · rw [e]; simp [q.2]
  | x :: y :: t, Y, h => by
    by_cases q : x = a ∧ y = c
    · obtain ⟨rfl, rfl⟩ := q
      show mrg x y n (x :: y :: (t ++ Y)) = _
      rw [mrg_hit, mrg_hit, mrg_app t Y, List.cons_append]
      refine fun z => h ⟨?_, z.2⟩
      rw [mrg_hit]
      cases e : mrg x y n t with
      | nil => rw [e] at z; simp at z
      | cons u r => rw [List.getLast?_cons_cons, ← e]; exact z.1
    · show mrg a c n (x :: y :: (t ++ Y)) = _
      have ih : mrg a c n (y :: t ++ Y) = mrg a c n (y :: t) ++ mrg a c n Y := by
        refine mrg_app (y :: t) Y fun z => h ⟨?_, z.2⟩
        rw [mrg_miss q]
        cases e : mrg a c n (y :: t) with
        | nil => rw [e] at z; simp at z
        | cons u r => rw [List.getLast?_cons_cons, ← e]; exact z.1
      rw [mrg_miss q, mrg_miss q, show y :: (t ++ Y) = (y :: t) ++ Y from rfl, ih, List.cons_append]
/-- .. and where it crosses, it puts together -/
theorem mrg_cross {a c n : Nat} (ha : n ≠ a) : ∀ (X Y : List Nat), (mrg a c n X).getLast? = some a → mrg a c n (X ++ c :: Y) = (mrg a c n X).dropLast ++ n :: mrg a c n Y
  | [], Y, h => by simp [mrg] at h
  | [x], Y, h => by
    simp [mrg] at h
    subst h
    show mrg x c n (x :: c :: Y) = _
    rw [mrg_hit]
    simp [mrg]
  | x :: y :: t, Y, h => by
    by_cases q : x = a ∧ y = c
    · obtain ⟨rfl, rfl⟩ := q
      rw [mrg_hit] at h
      show mrg x y n (x :: y :: (t ++ y :: Y)) = _
      cases e : mrg x y n t with
      | nil => rw [e] at h; simp at h; exact absurd h ha
      | cons u r =>
        rw [e, List.getLast?_cons_cons, ← e] at h
        rw [mrg_hit, mrg_hit, mrg_cross ha t Y h, e, List.dropLast_cons_cons, List.cons_append]
    · rw [mrg_miss q] at h
      show mrg a c n (x :: y :: (t ++ c :: Y)) = _
      cases e : mrg a c n (y :: t) with
      | nil => exact absurd e (mrg_ne (by simp))
      | cons u r =>
        rw [e, List.getLast?_cons_cons, ← e] at h
        rw [mrg_miss q, mrg_miss q, show y :: (t ++ c :: Y) = (y :: t) ++ c :: Y from rfl, mrg_cross ha (y :: t) Y h, e, List.dropLast_cons_cons, List.cons_append]
theorem mrg_cross_ne {a c n : Nat} (ha : n ≠ a) {X Y : List Nat} (h : (mrg a c n X).getLast? = some a) (h2 : Y.head? = some c) : mrg a c n (X ++ Y) ≠ mrg a c n X ++ mrg a c n Y := by
  intro e
  cases Y with
  | nil => simp at h2
  | cons y Y =>
    simp at h2
    subst h2
    rw [mrg_cross ha X Y h] at e
    obtain ⟨u, hu⟩ : ∃ u, mrg a y n X = u ++ [a] := by
      rw [List.getLast?_eq_some_iff] at h
      exact h
    rw [hu, List.dropLast_concat, List.append_assoc] at e
    have e2 := List.append_cancel_left e
    simp at e2
    exact ha e2.1
/-! ### neighbours -/
theorem Adj.cons {a c x : Nat} {R : List Nat} (h : Adj a c R) : Adj a c (x :: R) := by
  obtain ⟨s, t, e⟩ := h
  exact ⟨x :: s, t, by rw [e]; rfl⟩
theorem adj_cons {a c x : Nat} {R : List Nat} (h : Adj a c (x :: R)) : (x = a ∧ R.head? = some c) ∨ Adj a c R := by
  obtain ⟨s, t, e⟩ := h
  cases s with
  | nil =>
    simp at e
    exact .inl ⟨e.1, by rw [e.2]; rfl⟩
  | cons y s =>
    simp at e
    exact .inr ⟨s, t, e.2⟩
theorem not_adj_nil {a c : Nat} : ¬ Adj a c [] := by
  rintro ⟨s, t, e⟩
  simp at e
theorem not_adj_one {a c x : Nat} : ¬ Adj a c [x] := fun h => by
  rcases adj_cons h with ⟨_, h⟩ | h
  · simp at h
  · exact not_adj_nil h
theorem mrg_noop {a c n : Nat} : ∀ {R : List Nat}, ¬ Adj a c R → mrg a c n R = R
  | [], _ => rfl
  | [x], _ => rfl
  | x :: y :: t, h => by
    have q : ¬ (x = a ∧ y = c) := fun q => h ⟨[], t, by rw [q.1, q.2]; rfl⟩
    rw [mrg_miss q, mrg_noop fun z => h z.cons]
theorem mrg_first {a c n : Nat} {t : List Nat} : ∀ {s : List Nat}, ¬ Adj a c (s ++ [a]) → mrg a c n (s ++ a :: c :: t) = s ++ n :: mrg a c n t
  | [], _ => mrg_hit
  | x :: s, h => by
    show mrg a c n (x :: (s ++ a :: c :: t)) = x :: (s ++ n :: mrg a c n t)
    rw [mrg_cons_miss fun y u e q => ?_, mrg_first fun z => h z.cons]
    refine h ?_
    cases s with
    | nil =>
      simp at e
      exact ⟨[], [], by rw [q.1, ← q.2, ← e.1]; rfl⟩
    | cons z s =>
      simp at e
      exact ⟨[], s ++ [a], by rw [q.1, ← q.2, ← e.1]; rfl⟩
theorem mrg_past {a c n : Nat} (ha : n ≠ a) (hc : n ≠ c) {t : List Nat} : ∀ {s : List Nat}, ¬ Adj a c s → mrg a c n (s ++ n :: t) = s ++ n :: mrg a c n t
  | [], _ => mrg_cons_miss fun y u e q => ha q.1
  | x :: s, h => by
    show mrg a c n (x :: (s ++ n :: t)) = x :: (s ++ n :: mrg a c n t)
    rw [mrg_cons_miss fun y u e q => ?_, mrg_past ha hc fun z => h z.cons]
    cases s with
    | nil =>
      simp at e
      exact hc (e.1.trans q.2)
    | cons z s =>
      simp at e
      exact h ⟨[], s, by rw [q.1, ← q.2, ← e.1]; rfl⟩
theorem mrg_head {a c n : Nat} : ∀ {R : List Nat} {y : Nat}, (mrg a c n R).head? = some y → y = n ∨ R.head? = some y
  | [], y, h => by simp [mrg] at h
  | [x], y, h => by simp [mrg] at h; exact .inr (by simp [h])
  | x :: z :: t, y, h => by
    by_cases q : x = a ∧ z = c
    · obtain ⟨rfl, rfl⟩ := q
      rw [mrg_hit] at h
      simp at h
      exact .inl h.symm
    · rw [mrg_miss q] at h
      simp at h
      exact .inr (by simp [h])
theorem adj_mrg {a c n x y : Nat} : ∀ {R : List Nat}, Adj x y (mrg a c n R) → x = n ∨ y = n ∨ (Adj x y R ∧ ¬ (x = a ∧ y = c))
  | [], h => absurd h not_adj_nil
  | [_], h => absurd h not_adj_one
  | u :: v :: t, h => by
    by_cases q : u = a ∧ v = c
    · obtain ⟨rfl, rfl⟩ := q
      rw [mrg_hit] at h
      rcases adj_cons h with ⟨e, _⟩ | h
      · exact .inl e.symm
      · rcases adj_mrg h with e | e | ⟨e, z⟩
        · exact .inl e
        · exact .inr (.inl e)
        · exact .inr (.inr ⟨e.cons.cons, z⟩)
    · rw [mrg_miss q] at h
      rcases adj_cons h with ⟨e, hd⟩ | h
      · rcases mrg_head hd with r | r
        · exact .inr (.inl r)
        · simp at r
          subst e r
          exact .inr (.inr ⟨⟨[], t, rfl⟩, q⟩)
      · rcases adj_mrg h with e | e | ⟨e, z⟩
        · exact .inl e
        · exact .inr (.inl e)
        · exact .inr (.inr ⟨e.cons, z⟩)
theorem adj_app_left {x y : Nat} {s t : List Nat} (h : Adj x y s) : Adj x y (s ++ t) := by
  obtain ⟨u, v, e⟩ := h
  exact ⟨u, v ++ t, by rw [e]; simp⟩
theorem adj_app_right {x y : Nat} {s t : List Nat} (h : Adj x y t) : Adj x y (s ++ t) := by
  obtain ⟨u, v, e⟩ := h
  exact ⟨s ++ u, v, by rw [e]; simp⟩
theorem adj_repl {a c n x y : Nat} {t : List Nat} : ∀ {s : List Nat}, Adj x y (s ++ n :: t) → x = n ∨ y = n ∨ Adj x y (s ++ a :: c :: t)
  | [], h => by
    rcases adj_cons h with ⟨e, _⟩ | h
    · exact .inl e.symm
    · exact .inr (.inr h.cons.cons)
  | u :: s, h => by
    rcases adj_cons h with ⟨e, hd⟩ | h
    · cases s with
      | nil =>
        simp at hd
        exact .inr (.inl hd.symm)
      | cons v s =>
        simp at hd
        subst e hd
        exact .inr (.inr ⟨[], s ++ a :: c :: t, rfl⟩)
    · rcases adj_repl (a := a) (c := c) h with e | e | e
      · exact .inl e
      · exact .inr (.inl e)
      · exact .inr (.inr e.cons)
theorem mrg_len_le {a c n : Nat} : ∀ (R : List Nat), (mrg a c n R).length ≤ R.length
  | [] => Nat.le_refl _
  | [_] => Nat.le_refl _
  | u :: v :: t => by
    by_cases q : u = a ∧ v = c
    · obtain ⟨rfl, rfl⟩ := q
      rw [mrg_hit]
      have := mrg_len_le (a := u) (c := v) (n := n) t
      simp only [List.length_cons]
      omega
    · rw [mrg_miss q]
      have := mrg_len_le (a := a) (c := c) (n := n) (v :: t)
      simp only [List.length_cons] at this ⊢
      omega
theorem mrg_len_lt {a c n : Nat} : ∀ {R : List Nat}, Adj a c R → (mrg a c n R).length < R.length
  | [], h => absurd h not_adj_nil
  | [_], h => absurd h not_adj_one
  | u :: v :: t, h => by
    by_cases q : u = a ∧ v = c
    · obtain ⟨rfl, rfl⟩ := q
      rw [mrg_hit]
      have := mrg_len_le (a := u) (c := v) (n := n) t
      simp only [List.length_cons]
      omega
    · rw [mrg_miss q]
      rcases adj_cons h with ⟨e, hd⟩ | h
      · simp at hd
        exact absurd ⟨e, hd⟩ q
      · have := mrg_len_lt (n := n) h
        simp only [List.length_cons] at this ⊢
        omega

/-! ### all stages -/
def stg : Nat → List (Nat × Nat) → List Nat → List Nat
  | _, [], R => R
  | n, p :: ps, R => stg (n + 1) ps (mrg p.1 p.2 n R)
theorem stg_append : ∀ (n : Nat) (ps qs : List (Nat × Nat)) (R : List Nat), stg n (ps ++ qs) R = stg (n + ps.length) qs (stg n ps R)
  | n, [], qs, R => rfl
  | n, p :: ps, qs, R => by
    show stg (n + 1) (ps ++ qs) _ = stg (n + (ps.length + 1)) qs (stg (n + 1) ps _)
    rw [stg_append (n + 1) ps qs, show n + 1 + ps.length = n + (ps.length + 1) by omega]
theorem stg_ne : ∀ (n : Nat) (ps : List (Nat × Nat)) {R : List Nat}, R ≠ [] → stg n ps R ≠ []
  | _, [], _, h => h
  | n, p :: ps, _, h => stg_ne (n + 1) ps (mrg_ne h)
theorem stg_nil : ∀ (n : Nat) (ps : List (Nat × Nat)), stg n ps [] = []
  | _, [] => rfl
  | n, p :: ps => stg_nil (n + 1) ps
theorem stg_one : ∀ (n : Nat) (ps : List (Nat × Nat)) (x : Nat), stg n ps [x] = [x]
  | _, [], _ => rfl
  | n, p :: ps, x => stg_one (n + 1) ps x
theorem stg_noop : ∀ (n : Nat) (ps : List (Nat × Nat)) {R : List Nat}, (∀ p ∈ ps, ¬ Adj p.1 p.2 R) → stg n ps R = R
  | _, [], _, _ => rfl
  | n, p :: ps, R, h => by
    show stg (n + 1) ps (mrg p.1 p.2 n R) = R
    rw [mrg_noop (h p (List.mem_cons_self ..))]
    exact stg_noop (n + 1) ps fun q hq => h q (List.mem_cons_of_mem _ hq)
theorem stg_len_le : ∀ (n : Nat) (ps : List (Nat × Nat)) (R : List Nat), (stg n ps R).length ≤ R.length
  | _, [], _ => Nat.le_refl _
  | n, p :: ps, R => Nat.le_trans (stg_len_le (n + 1) ps _) (mrg_len_le R)
theorem stg_split : ∀ (n : Nat) (ps : List (Nat × Nat)) (R A B : List Nat), stg n ps R = A ++ B → ∃ R1 R2, R = R1 ++ R2 ∧ stg n ps R1 = A ∧ stg n ps R2 = B
  | _, [], R, A, B, h => ⟨A, B, h, rfl, rfl⟩
  | n, p :: ps, R, A, B, h => by
    obtain ⟨M1, M2, e, h1, h2⟩ := stg_split (n + 1) ps _ A B h
    obtain ⟨R1, R2, e', g1, g2⟩ := mrg_split R M1 M2 e
    exact ⟨R1, R2, e', by show stg (n + 1) ps _ = A; rw [g1, h1], by show stg (n + 1) ps _ = B; rw [g2, h2]⟩
/-- the pairs' parts are made ahead of them -/
def Low (n : Nat) (ps : List (Nat × Nat)) : Prop := ∀ (r : Nat) (p : Nat × Nat), ps[r]? = some p → p.1 < n + r ∧ p.2 < n + r
theorem take_split {ps : List (Nat × Nat)} {r : Nat} {p : Nat × Nat} (h : ps[r]? = some p) : ps = ps.take r ++ p :: ps.drop (r + 1) := by
  obtain ⟨hr, e⟩ := List.getElem?_eq_some_iff.mp h
  rw [← e, List.getElem_cons_drop, List.take_append_drop]
theorem take_len {ps : List (Nat × Nat)} {r : Nat} {p : Nat × Nat} (h : ps[r]? = some p) : (ps.take r).length = r := by
  obtain ⟨hr, _⟩ := List.getElem?_eq_some_iff.mp h
  rw [List.length_take]
  omega
theorem stg_at {n : Nat} {ps : List (Nat × Nat)} {r : Nat} {p : Nat × Nat} (h : ps[r]? = some p) (R : List Nat) :
    stg n ps R = stg (n + r + 1) (ps.drop (r + 1)) (mrg p.1 p.2 (n + r) (stg n (ps.take r) R)) := by
  have e : stg n ps R = stg n (ps.take r ++ p :: ps.drop (r + 1)) R := congrArg (fun z => stg n z R) (take_split h)
  rw [e, stg_append, take_len h]
  rfl
theorem mem_take_ix {ps : List (Nat × Nat)} {r : Nat} {q : Nat × Nat} (h : q ∈ ps.take r) : ∃ j, j < r ∧ ps[j]? = some q := by
  obtain ⟨j, hj⟩ := List.mem_iff_getElem?.mp h
  rw [List.getElem?_take] at hj
  split at hj
  · exact ⟨j, by assumption, hj⟩
  · cases hj
/-- the law's step: the leftmost place of the lowest pair -/
theorem step_left {n : Nat} {ps : List (Nat × Nat)} {r a c : Nat} {s t : List Nat} (hl : Low n ps) (h : ps[r]? = some (a, c)) (hno : ∀ j p, j < r → ps[j]? = some p → ¬ Adj p.1 p.2 (s ++ a :: c :: t)) (hs : ¬ Adj a c (s ++ [a])) :
    stg n ps (s ++ a :: c :: t) = stg n ps (s ++ (n + r) :: t) := by
  have ha := (hl r _ h).1
  have hc := (hl r _ h).2
  simp only at ha hc
  have hno2 : ∀ p ∈ ps.take r, ¬ Adj p.1 p.2 (s ++ (n + r) :: t) := fun p hp z => by
    obtain ⟨j, hj, e⟩ := mem_take_ix hp
    obtain ⟨l1, l2⟩ := hl j p e
    rcases adj_repl (a := a) (c := c) z with z | z | z
    · omega
    · omega
    · exact hno j p hj e z
  rw [stg_at h, stg_at h (s ++ (n + r) :: t), stg_noop n (ps.take r) hno2, stg_noop n (ps.take r) fun p hp => ?_, mrg_first hs, mrg_past (by omega) (by omega) fun z => hs (adj_app_left z)]
  obtain ⟨j, hj, e⟩ := mem_take_ix hp
  exact hno j p hj e
/-- the program's step: all places of the lowest pair -/
theorem step_all {n : Nat} {ps : List (Nat × Nat)} {r a c : Nat} {R : List Nat} (hl : Low n ps) (h : ps[r]? = some (a, c)) (hno : ∀ j p, j < r → ps[j]? = some p → ¬ Adj p.1 p.2 R) :
    stg n ps R = stg n ps (mrg a c (n + r) R) := by
  have ha := (hl r _ h).1
  have hc := (hl r _ h).2
  simp only at ha hc
  have hno1 : ∀ p ∈ ps.take r, ¬ Adj p.1 p.2 R := fun p hp => by
    obtain ⟨j, hj, e⟩ := mem_take_ix hp
    exact hno j p hj e
  have hno2 : ∀ p ∈ ps.take r, ¬ Adj p.1 p.2 (mrg a c (n + r) R) := fun p hp z => by
    obtain ⟨j, hj, e⟩ := mem_take_ix hp
    obtain ⟨l1, l2⟩ := hl j p e
    rcases adj_mrg z with z | z | ⟨z, _⟩
    · omega
    · omega
    · exact hno j p hj e z
  rw [stg_at h, stg_at h (mrg a c (n + r) R), stg_noop n (ps.take r) hno1, stg_noop n (ps.take r) hno2]
  have e : mrg a c (n + r) (mrg a c (n + r) R) = mrg a c (n + r) R := mrg_noop fun z => by
    rcases adj_mrg z with z | z | ⟨_, z⟩
    · omega
    · omega
    · exact z ⟨rfl, rfl⟩
  simp only [e]

/-! ### the stages of two rows beside one another -/
def Split : Nat → List (Nat × Nat) → List Nat → List Nat → Prop
  | _, [], _, _ => True
  | n, p :: ps, U, V => mrg p.1 p.2 n (U ++ V) = mrg p.1 p.2 n U ++ mrg p.1 p.2 n V ∧ Split (n + 1) ps (mrg p.1 p.2 n U) (mrg p.1 p.2 n V)
def Cross : Nat → List (Nat × Nat) → List Nat → List Nat → Prop
  | _, [], _, _ => False
  | n, p :: ps, U, V => ((mrg p.1 p.2 n U).getLast? = some p.1 ∧ V.head? = some p.2) ∨ Cross (n + 1) ps (mrg p.1 p.2 n U) (mrg p.1 p.2 n V)
theorem Low.tail {n : Nat} {p : Nat × Nat} {ps : List (Nat × Nat)} (h : Low n (p :: ps)) : Low (n + 1) ps := fun r q e => by
  have := h (r + 1) q (by simpa using e)
  omega
theorem split_of : ∀ {n : Nat} {ps : List (Nat × Nat)} {U V : List Nat}, ¬ Cross n ps U V → Split n ps U V
  | _, [], _, _, _ => trivial
  | n, p :: ps, U, V, h => ⟨mrg_app U V fun z => h (.inl z), split_of fun z => h (.inr z)⟩
theorem not_cross : ∀ {n : Nat} {ps : List (Nat × Nat)} {U V : List Nat}, Low n ps → Split n ps U V → ¬ Cross n ps U V
  | _, [], _, _, _, _, h => h
  | n, p :: ps, U, V, hl, s, h => by
    rcases h with h | h
    · exact mrg_cross_ne (by have := (hl 0 p rfl).1; omega) h.1 h.2 s.1
    · exact not_cross hl.tail s.2 h
theorem Split.stg : ∀ {n : Nat} {ps : List (Nat × Nat)} {U V : List Nat}, Split n ps U V → stg n ps (U ++ V) = stg n ps U ++ stg n ps V
  | _, [], _, _, _ => rfl
  | n, p :: ps, U, V, h => by
    show J.stg (n + 1) ps (mrg p.1 p.2 n (U ++ V)) = _
    rw [h.1]
    exact Split.stg h.2
theorem Split.take : ∀ {n : Nat} {ps : List (Nat × Nat)} {U V : List Nat} (r : Nat), Split n ps U V → Split n (ps.take r) U V
  | _, [], _, _, r, _ => by rw [List.take_nil]; trivial
  | _, _ :: _, _, _, 0, _ => trivial
  | n, p :: ps, U, V, r + 1, h => ⟨h.1, Split.take r h.2⟩
/-- where the cut splits, all stages do -/
theorem split_all : ∀ (n : Nat) (ps : List (Nat × Nat)) (R A B : List Nat), stg n ps R = A ++ B → ∃ R1 R2, R = R1 ++ R2 ∧ stg n ps R1 = A ∧ stg n ps R2 = B ∧ Split n ps R1 R2
  | _, [], R, A, B, h => ⟨A, B, h, rfl, rfl, trivial⟩
  | n, p :: ps, R, A, B, h => by
    obtain ⟨M1, M2, e, h1, h2, sp⟩ := split_all (n + 1) ps _ A B h
    obtain ⟨R1, R2, e', g1, g2⟩ := mrg_split R M1 M2 e
    exact ⟨R1, R2, e', by show stg (n + 1) ps _ = A; rw [g1, h1], by show stg (n + 1) ps _ = B; rw [g2, h2], by rw [← e', g1, g2, e], by rw [g1, g2]; exact sp⟩
theorem cross_more : ∀ {n : Nat} {ps : List (Nat × Nat)} {U V F : List Nat}, Split n ps V F → V ≠ [] → Cross n ps U (V ++ F) → Cross n ps U V
  | _, [], _, _, _, _, _, h => h
  | n, p :: ps, U, V, F, s, hv, h => by
    rcases h with ⟨h1, h2⟩ | h
    · refine .inl ⟨h1, ?_⟩
      cases V with
      | nil => exact absurd rfl hv
      | cons v V => exact h2
    · rw [s.1] at h
      exact .inr (cross_more s.2 (mrg_ne hv) h)
theorem cross_iff : ∀ {n : Nat} {ps : List (Nat × Nat)} {U V : List Nat}, Cross n ps U V ↔ ∃ r p, ps[r]? = some p ∧ (stg n (ps.take (r + 1)) U).getLast? = some p.1 ∧ (stg n (ps.take r) V).head? = some p.2
  | n, [], U, V => ⟨fun h => h.elim, fun ⟨r, p, e, _⟩ => by simp at e⟩
  | n, q :: ps, U, V => by
    constructor
    · rintro (⟨h1, h2⟩ | h)
      · exact ⟨0, q, rfl, h1, h2⟩
      · obtain ⟨r, p, e, h1, h2⟩ := cross_iff.mp h
        exact ⟨r + 1, p, e, h1, h2⟩
    · rintro ⟨r, p, e, h1, h2⟩
      cases r with
      | zero =>
        have e' : q = p := by simpa using e
        subst e'
        exact .inl ⟨h1, h2⟩
      | succ r => exact .inr (cross_iff.mpr ⟨r, p, e, h1, h2⟩)
end J

set_option Elab.async false
set_option linter.all false
/-! Texts of pieces, proper lists, spines; side by side is the cut of two; a row is the cut of its text if its neighbours are side by side. Plain Lean. -/
namespace J
/-! ### texts, as rows of letters -/
def exs (acc : List (List Nat)) : List (Nat × Nat) → List (List Nat)
  | [] => acc
  | p :: ps => exs (acc ++ [acc.getD p.1 [] ++ acc.getD p.2 []]) ps
def EX (b : Nat) (ps : List (Nat × Nat)) : List (List Nat) := exs ((List.range b).map fun i => [i]) ps
def ex (b : Nat) (ps : List (Nat × Nat)) (p : Nat) : List Nat := (EX b ps).getD p []
theorem exs_snoc (q : Nat × Nat) : ∀ (ps : List (Nat × Nat)) (acc : List (List Nat)), exs acc (ps ++ [q]) = exs acc ps ++ [(exs acc ps).getD q.1 [] ++ (exs acc ps).getD q.2 []]
  | [], acc => rfl
  | p :: ps, acc => exs_snoc q ps _
theorem EX_snoc (b : Nat) (ps : List (Nat × Nat)) (q : Nat × Nat) : EX b (ps ++ [q]) = EX b ps ++ [ex b ps q.1 ++ ex b ps q.2] := exs_snoc q ps _
theorem exs_len : ∀ (ps : List (Nat × Nat)) (acc : List (List Nat)), (exs acc ps).length = acc.length + ps.length
  | [], acc => rfl
  | p :: ps, acc => by
    show (exs _ ps).length = _
    rw [exs_len ps, List.length_append, List.length_cons, List.length_cons, List.length_nil]
    omega
theorem EX_len (b : Nat) (ps : List (Nat × Nat)) : (EX b ps).length = b + ps.length := by
  unfold EX
  rw [exs_len, List.length_map, List.length_range]
theorem ex_letter {b : Nat} {ps : List (Nat × Nat)} {p : Nat} (h : p < b) : ex b ps p = [p] := by
  have key : ∀ (qs : List (Nat × Nat)) (acc : List (List Nat)), p < acc.length → (exs acc qs).getD p [] = acc.getD p [] := by
    intro qs
    induction qs with
    | nil => intro acc _; rfl
    | cons q qs ih =>
      intro acc hp
      show (exs _ qs).getD p [] = _
      rw [ih _ (by rw [List.length_append]; omega)]
      rw [List.getD_eq_getElem?_getD, List.getElem?_append_left hp, ← List.getD_eq_getElem?_getD]
  unfold ex EX
  rw [key ps _ (by rw [List.length_map, List.length_range]; exact h)]
  rw [List.getD_eq_getElem?_getD, List.getElem?_map, List.getElem?_range h]
  rfl
theorem ex_old {b : Nat} {ps : List (Nat × Nat)} {q : Nat × Nat} {p : Nat} (h : p < b + ps.length) : ex b (ps ++ [q]) p = ex b ps p := by
  unfold ex
  rw [EX_snoc, List.getD_eq_getElem?_getD, List.getD_eq_getElem?_getD, List.getElem?_append_left (by rw [EX_len]; exact h)]
theorem ex_new {b : Nat} {ps : List (Nat × Nat)} {q : Nat × Nat} : ex b (ps ++ [q]) (b + ps.length) = ex b ps q.1 ++ ex b ps q.2 := by
  have h : ex b (ps ++ [q]) (b + ps.length) = ((EX b ps ++ [ex b ps q.1 ++ ex b ps q.2])[b + ps.length]?).getD [] := by
    unfold ex
    rw [EX_snoc, List.getD_eq_getElem?_getD]
    rfl
  rw [h, List.getElem?_append_right (by rw [EX_len]; exact Nat.le_refl _), EX_len, Nat.sub_self]
  rfl
/-! ### proper lists -/
inductive Proper (b : Nat) : List (Nat × Nat) → Prop
  | nil : Proper b []
  | snoc {ps : List (Nat × Nat)} {l q : Nat} : Proper b ps → l < b + ps.length → q < b + ps.length → stg b ps (ex b ps l ++ ex b ps q) = [l, q] → Proper b (ps ++ [(l, q)])
section
variable {b : Nat} {ps : List (Nat × Nat)}
theorem snoc_get {q : Nat × Nat} {r : Nat} {p : Nat × Nat} (h : (ps ++ [q])[r]? = some p) : ps[r]? = some p ∨ (r = ps.length ∧ p = q) := by
  by_cases hr : r < ps.length
  · rw [List.getElem?_append_left hr] at h
    exact .inl h
  · rw [List.getElem?_append_right (by omega)] at h
    obtain ⟨h1, h2⟩ := List.getElem?_eq_some_iff.mp h
    simp only [List.length_cons, List.length_nil] at h1
    have e : r - ps.length = 0 := by omega
    refine .inr ⟨by omega, ?_⟩
    rw [← h2]
    simp only [e, List.getElem_cons_zero]
theorem ix_lt {r : Nat} {p : Nat × Nat} (h : ps[r]? = some p) : r < ps.length := (List.getElem?_eq_some_iff.mp h).1
theorem Proper.low (h : Proper b ps) : Low b ps := by
  induction h with
  | nil => intro r p e; simp at e
  | snoc h hl hq hs ih =>
    intro r p e
    rcases snoc_get e with e | ⟨rfl, rfl⟩
    · exact ih r p e
    · exact ⟨hl, hq⟩
theorem Proper.text (h : Proper b ps) : ∀ r p, ps[r]? = some p → ex b ps (b + r) = ex b ps p.1 ++ ex b ps p.2 := by
  induction h with
  | nil => intro r p e; simp at e
  | snoc h hl hq hs ih =>
    intro r p e
    rcases snoc_get e with e | ⟨rfl, rfl⟩
    · have hr := ix_lt e
      obtain ⟨l1, l2⟩ := h.low r p e
      rw [ex_old (by omega), ex_old (by omega), ex_old (by omega)]
      exact ih r p e
    · rw [ex_new, ex_old hl, ex_old hq]
theorem Proper.cut2 (h : Proper b ps) : ∀ r p, ps[r]? = some p → stg b (ps.take r) (ex b ps p.1 ++ ex b ps p.2) = [p.1, p.2] := by
  induction h with
  | nil => intro r p e; simp at e
  | snoc h hl hq hs ih =>
    intro r p e
    rcases snoc_get e with e | ⟨rfl, rfl⟩
    · have hr := ix_lt e
      obtain ⟨l1, l2⟩ := h.low r p e
      rw [ex_old (by omega), ex_old (by omega), List.take_append_of_le_length (by omega)]
      exact ih r p e
    · rw [ex_old hl, ex_old hq, List.take_left]
      exact hs
theorem Proper.letters (h : Proper b ps) : ∀ p, p < b + ps.length → ex b ps p ≠ [] ∧ ∀ x ∈ ex b ps p, x < b := by
  induction h with
  | nil =>
    intro p hp
    have hp : p < b := by simpa using hp
    rw [ex_letter hp]
    refine ⟨by simp, fun x hx => ?_⟩
    have e : x = p := by simpa using hx
    omega
  | snoc h hl hq hs ih =>
    rename_i ps l q
    intro p hp
    rw [List.length_append, List.length_cons, List.length_nil] at hp
    by_cases e : p < b + ps.length
    · rw [ex_old e]
      exact ih p e
    · have e : p = b + ps.length := by omega
      subst e
      rw [ex_new]
      refine ⟨fun z => (ih l hl).1 (List.append_eq_nil_iff.mp z).1, fun x hx => ?_⟩
      rcases List.mem_append.mp hx with hx | hx
      · exact (ih l hl).2 x hx
      · exact (ih q hq).2 x hx
/-- the first joins of a proper list -/
theorem Proper.take (h : Proper b ps) : ∀ m, Proper b (ps.take m) := by
  induction h with
  | nil => intro m; rw [List.take_nil]; exact .nil
  | snoc h hl hq hs ih =>
    rename_i ps l q
    intro m
    by_cases hm : m ≤ ps.length
    · rw [List.take_append_of_le_length hm]
      exact ih m
    · rw [List.take_of_length_le (by rw [List.length_append, List.length_cons, List.length_nil]; omega)]
      exact .snoc h hl hq hs
theorem Proper.ex_take (h : Proper b ps) : ∀ m p, p < b + (ps.take m).length → ex b (ps.take m) p = ex b ps p := by
  induction h with
  | nil => intro m p hp; rw [List.take_nil]
  | snoc h hl hq hs ih =>
    rename_i ps l q
    intro m p hp
    by_cases hm : m ≤ ps.length
    · rw [List.take_append_of_le_length hm] at hp ⊢
      have : p < b + ps.length := by rw [List.length_take] at hp; omega
      rw [ex_old this]
      exact ih m p hp
    · rw [List.take_of_length_le (by rw [List.length_append, List.length_cons, List.length_nil]; omega)]
theorem Proper.EX_take (h : Proper b ps) (m : Nat) : EX b (ps.take m) = (EX b ps).take (b + m) := by
  apply List.ext_getElem?
  intro i
  by_cases hi : i < b + (ps.take m).length
  · have e := h.ex_take m i hi
    have l1 : i < (EX b (ps.take m)).length := by rw [EX_len]; exact hi
    have hi2 : i < b + m := by rw [List.length_take] at hi; omega
    have l2 : i < (EX b ps).length := by rw [EX_len]; rw [List.length_take] at hi; omega
    unfold ex at e
    rw [List.getD_eq_getElem?_getD, List.getD_eq_getElem?_getD, List.getElem?_eq_getElem l1, List.getElem?_eq_getElem l2] at e
    rw [List.getElem?_take_of_lt hi2, List.getElem?_eq_getElem l1, List.getElem?_eq_getElem l2]
    exact congrArg some e
  · rw [List.getElem?_eq_none (by rw [EX_len]; omega), List.getElem?_eq_none]
    rw [List.length_take, EX_len]
    rw [List.length_take] at hi
    omega
/-- the cut of a piece's text by the first m joins, once it is made -/
theorem Proper.whole (h : Proper b ps) {p m : Nat} (hp : p < b + ps.length) (hm : p < b + m) : stg b (ps.take m) (ex b ps p) = [p] := by
  by_cases e : p < b
  · rw [ex_letter e, stg_one]
  · obtain ⟨r, rfl⟩ : ∃ r, p = b + r := ⟨p - b, by omega⟩
    have hr : r < ps.length := by omega
    have er : ps[r]? = some ps[r] := List.getElem?_eq_getElem hr
    have hrm : r < m := by omega
    have et : (ps.take m)[r]? = some ps[r] := by rw [List.getElem?_take_of_lt hrm, er]
    rw [h.text r _ er, stg_at et, List.take_take, Nat.min_eq_left (by omega), h.cut2 r _ er]
    rw [show mrg ps[r].1 ps[r].2 (b + r) [ps[r].1, ps[r].2] = [b + r] by simp [mrg], stg_one]
theorem Proper.whole_all (h : Proper b ps) {p : Nat} (hp : p < b + ps.length) : stg b ps (ex b ps p) = [p] := by
  have := h.whole hp hp
  rwa [List.take_length] at this
theorem Proper.nodup (h : Proper b ps) : ∀ (r s : Nat) (p : Nat × Nat), ps[r]? = some p → ps[s]? = some p → r = s := by
  have key : ∀ (r s : Nat) (p : Nat × Nat), r < s → ps[r]? = some p → ps[s]? = some p → False := fun r s p hrs e1 e2 => by
    have c := h.cut2 s p e2
    have et : (ps.take s)[r]? = some p := by rw [List.getElem?_take_of_lt hrs, e1]
    rw [stg_at et, List.take_take, Nat.min_eq_left (by omega), h.cut2 r p e1] at c
    rw [show mrg p.1 p.2 (b + r) [p.1, p.2] = [b + r] by simp [mrg], stg_one] at c
    simp at c
  intro r s p e1 e2
  rcases Nat.lt_trichotomy r s with q | q | q
  · exact (key r s p q e1 e2).elim
  · exact q
  · exact (key s r p q e2 e1).elim
/-! ### the text of a row -/
def flat (b : Nat) (ps : List (Nat × Nat)) (R : List Nat) : List Nat := R.flatMap (ex b ps)
theorem flat_nil : flat b ps [] = [] := rfl
theorem flat_cons {x : Nat} {R : List Nat} : flat b ps (x :: R) = ex b ps x ++ flat b ps R := rfl
theorem flat_app {R S : List Nat} : flat b ps (R ++ S) = flat b ps R ++ flat b ps S := by simp [flat]
theorem flat_letters : ∀ {W : List Nat}, (∀ x ∈ W, x < b) → flat b ps W = W
  | [], _ => rfl
  | x :: W, h => by
    rw [flat_cons, ex_letter (h x (List.mem_cons_self ..)), flat_letters fun y hy => h y (List.mem_cons_of_mem _ hy)]
    rfl
theorem flat_mrg {a c n : Nat} (e : ex b ps n = ex b ps a ++ ex b ps c) : ∀ (R : List Nat), flat b ps (mrg a c n R) = flat b ps R
  | [] => rfl
  | [_] => rfl
  | x :: y :: t => by
    by_cases q : x = a ∧ y = c
    · obtain ⟨rfl, rfl⟩ := q
      rw [mrg_hit, flat_cons, flat_mrg e t, e, flat_cons, flat_cons, List.append_assoc]
    · rw [mrg_miss q, flat_cons, flat_mrg e (y :: t), flat_cons (R := y :: t)]
theorem flat_stg : ∀ {qs : List (Nat × Nat)} {n : Nat} (R : List Nat), (∀ r p, qs[r]? = some p → ex b ps (n + r) = ex b ps p.1 ++ ex b ps p.2) → flat b ps (stg n qs R) = flat b ps R
  | [], _, _, _ => rfl
  | q :: qs, n, R, h => by
    show flat b ps (stg (n + 1) qs _) = _
    rw [flat_stg (n := n + 1) _ fun r p e => by rw [show n + 1 + r = n + (r + 1) by omega]; exact h (r + 1) p (by simpa using e), flat_mrg (show ex b ps n = _ from h 0 q rfl)]
theorem Proper.flat_cut (h : Proper b ps) {W : List Nat} (hW : ∀ x ∈ W, x < b) : flat b ps (stg b ps W) = W := by
  rw [flat_stg W h.text, flat_letters hW]
theorem Proper.flat_cut_take (h : Proper b ps) {W : List Nat} (m : Nat) (hW : ∀ x ∈ W, x < b) : flat b ps (stg b (ps.take m) W) = W := by
  rw [flat_stg W fun r p e => h.text r p ?_, flat_letters hW]
  rw [List.getElem?_take] at e
  split at e
  · exact e
  · cases e
theorem Proper.flat_in (h : Proper b ps) : ∀ {R : List Nat}, (∀ p ∈ R, p < b + ps.length) → ∀ x ∈ flat b ps R, x < b
  | [], _, x, hx => by simp [flat] at hx
  | p :: R, hR, x, hx => by
    rw [flat_cons] at hx
    rcases List.mem_append.mp hx with hx | hx
    · exact (h.letters p (hR p (List.mem_cons_self ..))).2 x hx
    · exact h.flat_in (fun q hq => hR q (List.mem_cons_of_mem _ hq)) x hx
theorem mrg_in {a c n B : Nat} (hn : n < B) : ∀ {R : List Nat}, (∀ x ∈ R, x < B) → ∀ x ∈ mrg a c n R, x < B
  | [], h, x, hx => by simp [mrg] at hx
  | [y], h, x, hx => h x hx
  | u :: v :: t, h, x, hx => by
    by_cases q : u = a ∧ v = c
    · obtain ⟨rfl, rfl⟩ := q
      rw [mrg_hit] at hx
      rcases List.mem_cons.mp hx with hx | hx
      · omega
      · exact mrg_in hn (fun y hy => h y (List.mem_cons_of_mem _ (List.mem_cons_of_mem _ hy))) x hx
    · rw [mrg_miss q] at hx
      rcases List.mem_cons.mp hx with hx | hx
      · exact h x (by rw [hx]; exact List.mem_cons_self ..)
      · exact mrg_in hn (fun y hy => h y (List.mem_cons_of_mem _ hy)) x hx
theorem stg_in {B : Nat} : ∀ {qs : List (Nat × Nat)} {n : Nat} {R : List Nat}, n + qs.length ≤ B → (∀ x ∈ R, x < B) → ∀ x ∈ stg n qs R, x < B
  | [], _, _, _, h => h
  | q :: qs, n, R, hB, h => by
    rw [List.length_cons] at hB
    exact stg_in (n := n + 1) (by omega) (mrg_in (by omega) h)
theorem cut_in {W : List Nat} (hW : ∀ x ∈ W, x < b) : ∀ x ∈ stg b ps W, x < b + ps.length := stg_in (Nat.le_refl _) fun x hx => Nat.lt_of_lt_of_le (hW x hx) (Nat.le_add_right _ _)
/-! ### the two parts of a piece come out of its stages -/
theorem Proper.split2 (h : Proper b ps) {p q : Nat} {m : Nat} (hp : p < b + ps.length) (hq : q < b + ps.length) (e : stg b (ps.take m) (ex b ps p ++ ex b ps q) = [p, q]) : Split b (ps.take m) (ex b ps p) (ex b ps q) := by
  obtain ⟨R1, R2, e1, h1, h2, sp⟩ := split_all b (ps.take m) _ [p] [q] e
  have hl : ∀ x ∈ R1, x < b := fun x hx => by
    have : x ∈ ex b ps p ++ ex b ps q := by rw [e1]; exact List.mem_append_left _ hx
    rcases List.mem_append.mp this with z | z
    · exact (h.letters p hp).2 x z
    · exact (h.letters q hq).2 x z
  have f1 := h.flat_cut_take m hl
  rw [h1] at f1
  have f1 : ex b ps p = R1 := by simpa [flat] using f1
  rw [← f1] at e1 sp
  rw [← List.append_cancel_left e1] at sp
  exact sp
theorem Proper.down (h : Proper b ps) {k r : Nat} {p : Nat × Nat} (e : ps[k]? = some p) (hr : r ≤ k) : stg b (ps.take r) (ex b ps (b + k)) = stg b (ps.take r) (ex b ps p.1) ++ stg b (ps.take r) (ex b ps p.2) := by
  obtain ⟨l1, l2⟩ := h.low k p e
  have hk := ix_lt e
  have sp := h.split2 (by omega) (by omega) (h.cut2 k p e)
  have sp2 := sp.take r
  rw [List.take_take, Nat.min_eq_left hr] at sp2
  rw [h.text k p e]
  exact sp2.stg
/-! ### spines -/
def parts (b : Nat) (ps : List (Nat × Nat)) (p : Nat) : Option (Nat × Nat) := if p < b then none else ps[p - b]?
/-- the spine to the right, from p on, whose bound is B; f: no more turns than this -/
def rsp (b : Nat) (ps : List (Nat × Nat)) : Nat → Nat → Option Nat → List (Nat × Option Nat)
  | 0, p, B => [(p, B)]
  | f + 1, p, B => (p, B) :: match parts b ps p with
    | none => []
    | some c => rsp b ps f c.2 (some (p - b))
def lsp (b : Nat) (ps : List (Nat × Nat)) : Nat → Nat → Option Nat → List (Nat × Option Nat)
  | 0, p, B => [(p, B)]
  | f + 1, p, B => (p, B) :: match parts b ps p with
    | none => []
    | some c => lsp b ps f c.1 (some (p - b))
/-- r is below the bound, at most the bound -/
def ltB (r : Nat) : Option Nat → Bool
  | none => true
  | some k => decide (r < k)
def leB (r : Nat) : Option Nat → Bool
  | none => true
  | some k => decide (r ≤ k)
theorem parts_letter {p : Nat} (h : p < b) : parts b ps p = none := by simp [parts, h]
theorem parts_made {k : Nat} : parts b ps (b + k) = ps[k]? := by
  unfold parts
  rw [if_neg (by omega), Nat.add_sub_cancel_left]
theorem rsp_below (hl : Low b ps) : ∀ (f q k : Nat), q < b + k → ∀ x ∈ rsp b ps f q (some k), ∃ j, x.2 = some j ∧ j ≤ k
  | 0, q, k, _, x, hx => by
    have e : x = (q, some k) := by simpa [rsp] using hx
    exact ⟨k, by rw [e], Nat.le_refl _⟩
  | f + 1, q, k, hq, x, hx => by
    unfold rsp at hx
    rcases List.mem_cons.mp hx with e | hx
    · exact ⟨k, by rw [e], Nat.le_refl _⟩
    · by_cases hb : q < b
      · rw [parts_letter hb] at hx
        simp at hx
      · obtain ⟨j, rfl⟩ : ∃ j, q = b + j := ⟨q - b, by omega⟩
        rw [parts_made] at hx
        cases e : ps[j]? with
        | none => rw [e] at hx; simp at hx
        | some c =>
          rw [e] at hx
          simp only [Nat.add_sub_cancel_left] at hx
          obtain ⟨i, h1, h2⟩ := rsp_below hl f c.2 j (hl j c e).2 x hx
          exact ⟨i, h1, by omega⟩
theorem lsp_below (hl : Low b ps) : ∀ (f q k : Nat), q < b + k → ∀ x ∈ lsp b ps f q (some k), ∃ j, x.2 = some j ∧ j ≤ k
  | 0, q, k, _, x, hx => by
    have e : x = (q, some k) := by simpa [lsp] using hx
    exact ⟨k, by rw [e], Nat.le_refl _⟩
  | f + 1, q, k, hq, x, hx => by
    unfold lsp at hx
    rcases List.mem_cons.mp hx with e | hx
    · exact ⟨k, by rw [e], Nat.le_refl _⟩
    · by_cases hb : q < b
      · rw [parts_letter hb] at hx
        simp at hx
      · obtain ⟨j, rfl⟩ : ∃ j, q = b + j := ⟨q - b, by omega⟩
        rw [parts_made] at hx
        cases e : ps[j]? with
        | none => rw [e] at hx; simp at hx
        | some c =>
          rw [e] at hx
          simp only [Nat.add_sub_cancel_left] at hx
          obtain ⟨i, h1, h2⟩ := lsp_below hl f c.1 j (hl j c e).1 x hx
          exact ⟨i, h1, by omega⟩
theorem getLast_app {R S : List Nat} (h : S ≠ []) : (R ++ S).getLast? = S.getLast? := by
  cases S with
  | nil => exact absurd rfl h
  | cons x S => rw [List.getLast?_append, List.getLast?_cons]; rfl
theorem head_app {R S : List Nat} (h : R ≠ []) : (R ++ S).head? = R.head? := by
  cases R with
  | nil => exact absurd rfl h
  | cons x R => rfl
/-- the last piece ahead of stage r: the one of the spine that is made by then and not yet put into a larger one -/
theorem Proper.rsp_last (h : Proper b ps) (r : Nat) : ∀ (f p : Nat) (B : Option Nat), p ≤ f → p < b + ps.length → leB r B = true → ∀ x, (stg b (ps.take r) (ex b ps p)).getLast? = some x ↔ ∃ e ∈ rsp b ps f p B, e.1 = x ∧ x < b + r ∧ leB r e.2 = true := by
  intro f
  induction f with
  | zero =>
    intro p B hf hp hB x
    have hb : p < b ∨ ¬ p < b := Decidable.em _
    have hp0 : p = 0 := by omega
    subst hp0
    rcases hb with hb | hb
    · rw [ex_letter hb, stg_one]
      constructor
      · intro e
        have e : 0 = x := by simpa using e
        exact ⟨(0, B), by simp [rsp], e, by omega, hB⟩
      · rintro ⟨e, he, rfl, _⟩
        have : e = (0, B) := by simpa [rsp] using he
        rw [this]
        rfl
    · have : b = 0 := by omega
      subst this
      exfalso
      have : ps[0]? = some (ps[0]'(by omega)) := List.getElem?_eq_getElem _
      have := (h.low 0 _ this).1
      omega
  | succ f ih =>
    intro p B hf hp hB x
    by_cases hr : p < b + r
    · rw [h.whole hp hr]
      constructor
      · intro e
        have e : p = x := by simpa using e
        exact ⟨(p, B), by unfold rsp; exact List.mem_cons_self .., e, by omega, hB⟩
      · rintro ⟨e, he, rfl, hx, hb⟩
        unfold rsp at he
        rcases List.mem_cons.mp he with he | he
        · rw [he]
          rfl
        · exfalso
          by_cases hb2 : p < b
          · rw [parts_letter hb2] at he
            simp at he
          · obtain ⟨j, rfl⟩ : ∃ j, p = b + j := ⟨p - b, by omega⟩
            rw [parts_made] at he
            cases ec : ps[j]? with
            | none => rw [ec] at he; simp at he
            | some c =>
              rw [ec] at he
              simp only [Nat.add_sub_cancel_left] at he
              obtain ⟨i, h1, h2⟩ := rsp_below h.low f c.2 j (h.low j c ec).2 e he
              rw [h1] at hb
              simp [leB] at hb
              omega
    · obtain ⟨k, rfl⟩ : ∃ k, p = b + k := ⟨p - b, by omega⟩
      have hk : k < ps.length := by omega
      have ec : ps[k]? = some ps[k] := List.getElem?_eq_getElem hk
      obtain ⟨l1, l2⟩ := h.low k _ ec
      rw [h.down ec (by omega), getLast_app (stg_ne _ _ (h.letters _ (by omega)).1)]
      rw [ih ps[k].2 (some k) (by omega) (by omega) (by simp [leB]; omega) x]
      have hexp : rsp b ps (f + 1) (b + k) B = (b + k, B) :: rsp b ps f ps[k].2 (some k) := by
        have hx : rsp b ps (f + 1) (b + k) B = (b + k, B) :: (match parts b ps (b + k) with
          | none => []
          | some c => rsp b ps f c.2 (some (b + k - b))) := rfl
        rw [hx, parts_made, ec, Nat.add_sub_cancel_left]
      rw [hexp]
      constructor
      · rintro ⟨e, he, h1, h2, h3⟩
        exact ⟨e, List.mem_cons_of_mem _ he, h1, h2, h3⟩
      · rintro ⟨e, he, h1, h2, h3⟩
        rcases List.mem_cons.mp he with he | he
        · rw [he] at h1
          simp only at h1
          omega
        · exact ⟨e, he, h1, h2, h3⟩
theorem Proper.lsp_head (h : Proper b ps) (r : Nat) : ∀ (f p : Nat) (B : Option Nat), p ≤ f → p < b + ps.length → leB r B = true → ∀ x, (stg b (ps.take r) (ex b ps p)).head? = some x ↔ ∃ e ∈ lsp b ps f p B, e.1 = x ∧ x < b + r ∧ leB r e.2 = true := by
  intro f
  induction f with
  | zero =>
    intro p B hf hp hB x
    have hb : p < b ∨ ¬ p < b := Decidable.em _
    have hp0 : p = 0 := by omega
    subst hp0
    rcases hb with hb | hb
    · rw [ex_letter hb, stg_one]
      constructor
      · intro e
        have e : 0 = x := by simpa using e
        exact ⟨(0, B), by simp [lsp], e, by omega, hB⟩
      · rintro ⟨e, he, rfl, _⟩
        have : e = (0, B) := by simpa [lsp] using he
        rw [this]
        rfl
    · have : b = 0 := by omega
      subst this
      exfalso
      have : ps[0]? = some (ps[0]'(by omega)) := List.getElem?_eq_getElem _
      have := (h.low 0 _ this).1
      omega
  | succ f ih =>
    intro p B hf hp hB x
    by_cases hr : p < b + r
    · rw [h.whole hp hr]
      constructor
      · intro e
        have e : p = x := by simpa using e
        exact ⟨(p, B), by unfold lsp; exact List.mem_cons_self .., e, by omega, hB⟩
      · rintro ⟨e, he, rfl, hx, hb⟩
        unfold lsp at he
        rcases List.mem_cons.mp he with he | he
        · rw [he]
          rfl
        · exfalso
          by_cases hb2 : p < b
          · rw [parts_letter hb2] at he
            simp at he
          · obtain ⟨j, rfl⟩ : ∃ j, p = b + j := ⟨p - b, by omega⟩
            rw [parts_made] at he
            cases ec : ps[j]? with
            | none => rw [ec] at he; simp at he
            | some c =>
              rw [ec] at he
              simp only [Nat.add_sub_cancel_left] at he
              obtain ⟨i, h1, h2⟩ := lsp_below h.low f c.1 j (h.low j c ec).1 e he
              rw [h1] at hb
              simp [leB] at hb
              omega
    · obtain ⟨k, rfl⟩ : ∃ k, p = b + k := ⟨p - b, by omega⟩
      have hk : k < ps.length := by omega
      have ec : ps[k]? = some ps[k] := List.getElem?_eq_getElem hk
      obtain ⟨l1, l2⟩ := h.low k _ ec
      rw [h.down ec (by omega), head_app (stg_ne _ _ (h.letters _ (by omega)).1)]
      rw [ih ps[k].1 (some k) (by omega) (by omega) (by simp [leB]; omega) x]
      have hexp : lsp b ps (f + 1) (b + k) B = (b + k, B) :: lsp b ps f ps[k].1 (some k) := by
        have hx : lsp b ps (f + 1) (b + k) B = (b + k, B) :: (match parts b ps (b + k) with
          | none => []
          | some c => lsp b ps f c.1 (some (b + k - b))) := rfl
        rw [hx, parts_made, ec, Nat.add_sub_cancel_left]
      rw [hexp]
      constructor
      · rintro ⟨e, he, h1, h2, h3⟩
        exact ⟨e, List.mem_cons_of_mem _ he, h1, h2, h3⟩
      · rintro ⟨e, he, h1, h2, h3⟩
        rcases List.mem_cons.mp he with he | he
        · rw [he] at h1
          simp only at h1
          omega
        · exact ⟨e, he, h1, h2, h3⟩
/-! ### side by side -/
/-- no join of the two spines crosses -/
def Side (b : Nat) (ps : List (Nat × Nat)) (p q : Nat) : Prop :=
  ∀ x ∈ rsp b ps p p none, ∀ y ∈ lsp b ps q q none, ∀ r, ps[r]? = some (x.1, y.1) → ¬ (ltB r x.2 = true ∧ leB r y.2 = true)
theorem ltB_leB {r : Nat} {B : Option Nat} : ltB r B = leB (r + 1) B := by
  cases B with
  | none => rfl
  | some k => rfl
theorem Proper.side_iff (h : Proper b ps) {p q : Nat} (hp : p < b + ps.length) (hq : q < b + ps.length) : Side b ps p q ↔ ¬ Cross b ps (ex b ps p) (ex b ps q) := by
  rw [cross_iff]
  constructor
  · rintro hs ⟨r, c, ec, h1, h2⟩
    obtain ⟨e, he, e1, e2, e3⟩ := (h.rsp_last (r + 1) p p none (Nat.le_refl _) hp rfl c.1).mp h1
    obtain ⟨d, hd, d1, d2, d3⟩ := (h.lsp_head r q q none (Nat.le_refl _) hq rfl c.2).mp h2
    exact hs e he d hd r (by rw [e1, d1, ec]) ⟨by rw [ltB_leB]; exact e3, d3⟩
  · intro hn e he d hd r er ⟨l1, l2⟩
    obtain ⟨g1, g2⟩ := h.low r _ er
    simp only at g1 g2
    refine hn ⟨r, _, er, ?_, ?_⟩
    · exact (h.rsp_last (r + 1) p p none (Nat.le_refl _) hp rfl e.1).mpr ⟨e, he, rfl, by omega, by rw [← ltB_leB]; exact l1⟩
    · exact (h.lsp_head r q q none (Nat.le_refl _) hq rfl d.1).mpr ⟨d, hd, rfl, g2, l2⟩
/-- two pieces are side by side if and only if the cut of their text is these two -/
theorem Proper.side_cut (h : Proper b ps) {p q : Nat} (hp : p < b + ps.length) (hq : q < b + ps.length) : Side b ps p q ↔ stg b ps (ex b ps p ++ ex b ps q) = [p, q] := by
  rw [h.side_iff hp hq]
  constructor
  · intro hn
    rw [(split_of hn).stg, h.whole_all hp, h.whole_all hq]
    rfl
  · intro e
    have := h.split2 (m := ps.length) hp hq (by rw [List.take_length]; exact e)
    rw [List.take_length] at this
    exact not_cross h.low this
/-- every two neighbours are side by side -/
def Chain (b : Nat) (ps : List (Nat × Nat)) : List Nat → Prop
  | [] => True
  | [_] => True
  | p :: q :: R => Side b ps p q ∧ Chain b ps (q :: R)
theorem Chain.tail {p : Nat} {R : List Nat} (h : Chain b ps (p :: R)) : Chain b ps R := by
  cases R with
  | nil => trivial
  | cons q R => exact h.2
theorem Proper.cut_row (h : Proper b ps) : ∀ {R : List Nat}, (∀ p ∈ R, p < b + ps.length) → Chain b ps R → stg b ps (flat b ps R) = R
  | [], _, _ => stg_nil b ps
  | [p], hR, _ => by
    show stg b ps (ex b ps p ++ []) = [p]
    rw [List.append_nil]
    exact h.whole_all (hR p (List.mem_cons_self ..))
  | p :: q :: R, hR, hc => by
    have hp := hR p (List.mem_cons_self ..)
    have hq := hR q (List.mem_cons_of_mem _ (List.mem_cons_self ..))
    have ih := h.cut_row (R := q :: R) (fun x hx => hR x (List.mem_cons_of_mem _ hx)) hc.2
    have hnc := (h.side_iff hp hq).mp hc.1
    -- the cut of the rest splits behind q
    obtain ⟨R1, R2, e1, h1, h2, sp⟩ := split_all b ps _ [q] R ih
    have hin := h.flat_in (R := q :: R) fun x hx => hR x (List.mem_cons_of_mem _ hx)
    have hl : ∀ x ∈ R1, x < b := fun x hx => hin x (by rw [e1]; exact List.mem_append_left _ hx)
    have f1 := h.flat_cut hl
    rw [h1] at f1
    have f1 : ex b ps q = R1 := by simpa [flat] using f1
    rw [flat_cons, ← f1] at e1
    rw [← f1, ← List.append_cancel_left e1] at sp
    have hne := (h.letters q hq).1
    have hnc2 : ¬ Cross b ps (ex b ps p) (flat b ps (q :: R)) := fun z => hnc (cross_more sp hne z)
    rw [flat_cons, (split_of hnc2).stg, h.whole_all hp, ih]
    rfl
theorem Proper.chain_cut (h : Proper b ps) : ∀ {R : List Nat} {W : List Nat}, (∀ x ∈ W, x < b) → stg b ps W = R → Chain b ps R
  | [], _, _, _ => trivial
  | [_], _, _, _ => trivial
  | p :: q :: R, W, hW, e => by
    obtain ⟨W1, W2, e1, h1, h2⟩ := stg_split b ps W [p] (q :: R) e
    obtain ⟨W3, W4, e3, h3, h4⟩ := stg_split b ps W2 [q] R h2
    have k2 : ∀ x ∈ W2, x < b := fun x hx => hW x (by rw [e1]; exact List.mem_append_right _ hx)
    have k1 : ∀ x ∈ W1, x < b := fun x hx => hW x (by rw [e1]; exact List.mem_append_left _ hx)
    have k3 : ∀ x ∈ W3, x < b := fun x hx => k2 x (by rw [e3]; exact List.mem_append_left _ hx)
    have f1 := h.flat_cut k1
    rw [h1] at f1
    have f1 : ex b ps p = W1 := by simpa [flat] using f1
    have f3 := h.flat_cut k3
    rw [h3] at f3
    have f3 : ex b ps q = W3 := by simpa [flat] using f3
    have hin := cut_in (ps := ps) hW
    rw [e] at hin
    have hp := hin p (List.mem_cons_self ..)
    have hq := hin q (List.mem_cons_of_mem _ (List.mem_cons_self ..))
    refine ⟨(h.side_cut hp hq).mpr ?_, h.chain_cut k2 h2⟩
    -- the cut of the first two texts
    rw [e1, e3, ← List.append_assoc] at e
    obtain ⟨V1, V2, g1, g2, g3⟩ := stg_split b ps _ [p, q] R e
    have hV : ∀ x ∈ V1, x < b := fun x hx => by
      have : x ∈ W1 ++ W3 ++ W4 := by rw [g1]; exact List.mem_append_left _ hx
      rcases List.mem_append.mp this with z | z
      · rcases List.mem_append.mp z with z | z
        · exact k1 x z
        · exact k3 x z
      · exact k2 x (by rw [e3]; exact List.mem_append_right _ z)
    have fV := h.flat_cut hV
    rw [g2] at fV
    have fV : ex b ps p ++ ex b ps q = V1 := by simpa [flat] using fV
    rw [fV]
    exact g2
end
end J

set_option Elab.async false
set_option linter.all false
set_option maxRecDepth 100000
set_option maxHeartbeats 4000000
/-! Small rules of this proof: defs in bundles, dicts keyed by pairs of an int or None, sorted of a tuple, enumerate of a text, walks of a list or a tuple. -/
namespace J
open PySem PySem.Spec PyProof.Rows L2
/-! ### defs in bundles -/
/-- the def x keeps the promise sp, at level k -/
def DefOk (P : Program) (w : World) (K : PySem.W.Frag) (mg : Str → Option Value) (base : Heap) (k : Nat) (x : Str) (ps : List Str) (sp : Sp) : Prop :=
  ∃ (f : Addr) (fd : FuncData), FnOk P w K mg base CX0 k f fd ps sp ∧ mg x = some (.ref f) ∧ PySem.W.keepIn K (.ref f) = true ∧ Binds K fd ps []
/-- the method m of the class at C -/
def MetOk (P : Program) (w : World) (K : PySem.W.Frag) (mg : Str → Option Value) (base : Heap) (k : Nat) (C : Addr) (m : Str) (ps : List Str) (sp : Sp) : Prop :=
  ∃ (f : Addr) (fd : FuncData), FnOk P w K mg base CX0 k f fd ps sp ∧ Meth K C m f ∧ Binds K fd ps []
/-- the class x at C is made by an __init__ that keeps sp -/
def NewOk (P : Program) (w : World) (K : PySem.W.Frag) (mg : Str → Option Value) (base : Heap) (k : Nat) (C : Addr) (x : Str) (ps : List Str) (sp : Sp) : Prop :=
  ∃ (f : Addr) (fd : FuncData), FnOk P w K mg base CX0 k f fd ps sp ∧ Mk K C f ∧ mg x = some (.ref C) ∧ Binds K fd ps []
section
variable {X : Cx} {k j : Nat} {C : Addr} {x m : Str} {ps : List Str} {sp : Sp} {p pos apos : Pos} {e o : Expr} {es : List Expr} {ta : TE} {t : TA}
theorem pe_def (D : DefOk X.prog X.w X.K X.mg X.base j x ps sp) (hr : Room k X.A) (ha : PA X (e :: es) t) (hj : j ≤ k := by decide) (hg : Gl X x := by rfl)
    (hdb : (x == ("__debug__" : Str)) = false := by decide) (h1 : starEach (e :: es) X.env = (false, eval e X.env) :: starEach es X.env := by rfl) (h2 : (backTo pos (starEach es X.env)).any (·.1) = false := by rfl) :
    PE X (.Call (.Name x p) (e :: es) [] pos) (tCall sp [] E0 t) := by
  obtain ⟨f, fd, F, gm, kp, b⟩ := D
  exact pe_call F (hr.mono hj) hg gm kp b .nil pass0 ha hdb h1 h2
theorem pe_def0 (D : DefOk X.prog X.w X.K X.mg X.base j x ps sp) (hr : Room k X.A) (hj : j ≤ k := by decide) (hg : Gl X x := by rfl) (hdb : (x == ("__debug__" : Str)) = false := by decide) :
    PE X (.Call (.Name x p) [] [] pos) (tCall sp [] E0 tNil) := by
  obtain ⟨f, fd, F, gm, kp, b⟩ := D
  exact pe_call0 F (hr.mono hj) hg gm kp b .nil pass0 hdb
theorem pe_met {pl : Sem Bool} (he : PE X o ta) (c : Cls X.K C) (M : MetOk X.prog X.w X.K X.mg X.base j C m ps sp) (hr : Room k X.A) (ha : PA X (e :: es) t) (hj : j ≤ k := by decide)
    (h1 : starEach (e :: es) X.env = (false, eval e X.env) :: starEach es X.env := by rfl) (h2 : (backTo pos (starEach es X.env)).any (·.1) = false := by rfl)
    (ht : eval (.Call (.Attribute o m apos) (e :: es) [] pos) X.env = (do
      let ov ← eval o X.env
      standAt apos.atName
      let (f, first) ← holding [ov] (getMethod ov m pl)
      callWith pos f first (backTo pos (starEach (e :: es) X.env)) (backToKw pos (keywordEach [] X.env))) := by rfl) :
    PE X (.Call (.Attribute o m apos) (e :: es) [] pos) (tMeth C m sp [] E0 ta t) := by
  obtain ⟨f, fd, F, mm, b⟩ := M
  exact pe_meth he c mm F (hr.mono hj) b .nil pass0 ha h1 h2 ht
theorem pe_new (D : NewOk X.prog X.w X.K X.mg X.base j C x ps sp) (hr : Room k X.A) (ha : PA X (e :: es) t) (hj : j + 1 ≤ k := by decide) (hg : Gl X x := by rfl)
    (hdb : (x == ("__debug__" : Str)) = false := by decide) (h1 : starEach (e :: es) X.env = (false, eval e X.env) :: starEach es X.env := by rfl) (h2 : (backTo pos (starEach es X.env)).any (·.1) = false := by rfl) :
    PE X (.Call (.Name x p) (e :: es) [] pos) (tMake C sp [] E0 t) := by
  obtain ⟨f, fd, F, M, gm, b⟩ := D
  exact pe_make M F (hr.mono hj) hg gm b .nil pass0 ha hdb h1 h2
end
/-! ### short forms -/
section
variable {X : Cx} {x : Str} {e : Expr} {te : TE} {pos pos' : Pos} {op : Operator} {ti : TIp}
theorem ps_st (i : Nat) (hN : X.N.Nodup) (he : PE X e te) (hi : X.N[i]? = some x := by rfl) (hx : Loc X.env.scope x := by first | exact Or.inl rfl | exact Or.inr rfl) (hs : swapsWith e (some (.Name x pos')) pos.line X.env = pure false := by rfl)
    (hf : X.fn x = true ∨ X.env.scope.names.lookup x = some .local := by first | exact .inl rfl | exact .inr rfl) : PS X (.Assign [.Name x pos'] e pos) (tAsg te (gName i)) := ps_set hN hi hx he hs hf
theorem pg_n (i : Nat) (hN : X.N.Nodup) (hi : X.N[i]? = some x := by rfl) (hx : Loc X.env.scope x := by first | exact Or.inl rfl | exact Or.inr rfl) (hf : X.fn x = true ∨ X.env.scope.names.lookup x = some .local := by first | exact .inl rfl | exact .inr rfl) :
    PG X (.Name x pos) (gName i) := pg_name hN hi hx hf
theorem ps_ag (i : Nat) (hN : X.N.Nodup) (he : PE X e te) (ho : PIp X op ti) (hi : X.N[i]? = some x := by rfl) (hx : Loc X.env.scope x := by first | exact Or.inl rfl | exact Or.inr rfl)
    (hf : X.fn x = true ∨ X.env.scope.names.lookup x = some .local := by first | exact .inl rfl | exact .inr rfl) : PS X (.AugAssign (.Name x pos') op e pos) (tAug i te ti) := ps_aug hN hi hx he ho hf
theorem pe_gint {i : Int} (h : ∃ t, X.mg x = some (.int i t)) (hg : Gl X x := by rfl) (hd : (x == ("__debug__" : Str)) = false := by decide) : PE X (.Name x pos) (tC (.int i)) := by
  obtain ⟨t, ht⟩ := h
  exact pe_glob hg ht ⟨t, rfl⟩ hd
/-- the property f of the class at C, its getter keeps sp -/
def PrpOk (P : Program) (w : World) (K : PySem.W.Frag) (mg : Str → Option Value) (base : Heap) (k : Nat) (C : Addr) (f : Str) (sp : Sp) : Prop :=
  ∃ (p g : Addr) (fd : FuncData), PropOf K C f p g ∧ FnOk P w K mg base CX0 k g fd ["self"] sp ∧ Binds K fd ["self"] []
theorem pe_prp {k j : Nat} {C : Addr} {f : Str} {sp : Sp} {ta : TE} (he : PE X e ta) (c : Cls X.K C) (M : PrpOk X.prog X.w X.K X.mg X.base j C f sp) (hr : Room k X.A) (hj : j + 1 ≤ k := by decide) (hab : attributeBase e f X.env (eval e X.env) = eval e X.env := by rfl) :
    PE X (.Attribute e f pos) (tProp C sp [] E0 ta) := by
  obtain ⟨p, g, fd, hp, F, b⟩ := M
  exact pe_prop he c hp F (hr.mono hj) b .nil pass0 hab
end
/-! ### dicts keyed by pairs of an int or None -/
def lfO : Option Int → Leaf
  | none => .none
  | some i => .num i
def oV : Option Int → V
  | none => .non
  | some i => .int i
abbrev PKey := Option Int × Option Int
def pkL (k : PKey) : List Leaf := [lfO k.1, lfO k.2]
def pkV (k : PKey) : List V := [oV k.1, oV k.2]
theorem lfO_inj : ∀ {a b : Option Int}, lfO a = lfO b → a = b
  | none, none, _ => rfl
  | some i, some j, e => by
    have e2 : Leaf.num i = Leaf.num j := e
    injection e2 with e3
    rw [e3]
  | none, some _, e => nomatch (show Leaf.none = Leaf.num _ from e)
  | some _, none, e => nomatch (show Leaf.num _ = Leaf.none from e)
theorem oV_inj : ∀ {a b : Option Int}, oV a = oV b → a = b
  | none, none, _ => rfl
  | some i, some j, e => by
    have e2 : V.int i = V.int j := e
    injection e2 with e3
    rw [e3]
  | none, some _, e => nomatch (show V.non = V.int _ from e)
  | some _, none, e => nomatch (show V.int _ = V.non from e)
theorem pkL_inj {a b : PKey} (e : pkL a = pkL b) : a = b := by
  have e2 : [lfO a.1, lfO a.2] = [lfO b.1, lfO b.2] := e
  injection e2 with h1 h2
  injection h2 with h3 _
  exact Prod.ext (lfO_inj h1) (lfO_inj h3)
theorem pkV_inj {a b : PKey} (e : pkV a = pkV b) : a = b := by
  have e2 : [oV a.1, oV a.2] = [oV b.1, oV b.2] := e
  injection e2 with h1 h2
  injection h2 with h3 _
  exact Prod.ext (oV_inj h1) (oV_inj h3)
section
variable (P : Program) (w : World)
abbrev pKind := tupleKind (leafKind P w)
/-- the object of such a dict, by its entries -/
def PdObj (a : Addr) (xs : List (List Leaf × Addr × Value)) (h : Heap) : Prop :=
  ∃ o es ep, h.get? a = some o ∧ o.ExactDict ∧ o.data = .dict es ep ∧ es.toList = xs.map (entryOfKey (pKind P w)) ∧ (xs.map (·.1)).Nodup
def PdRel (H : Hp) : List (PKey × V) → List (List Leaf × Addr × Value) → Prop := Paired fun p q => pkL p.1 = q.1 ∧ H q.2.1 = some (.tup (pkV p.1)) ∧ RelV p.2 q.2.2
/-- at a stands a dict of these -/
def PD (H : Hp) (a : Addr) (kvs : List (PKey × V)) : Prop := ∃ xs, H a = some (.ext (PdObj P w a xs)) ∧ PdRel H kvs xs ∧ kvs.length ≤ sizeLine ∧ (a == sysModules) = false
end
section
variable {P : Program} {w : World} {H H' : Hp} {a : Addr} {kvs : List (PKey × V)} {xs : List (List Leaf × Addr × Value)}
theorem PdRel.keeps (r : PdRel H kvs xs) (ht : ∀ b ys, H b = some (.tup ys) → H' b = some (.tup ys)) : PdRel H' kvs xs :=
  L2.Paired.mapP r fun _ _ z => ⟨z.1, ht _ _ z.2.1, z.2.2⟩
theorem PD.same (d : PD P w H a kvs) (s : Same H H') : PD P w H' a kvs := by
  obtain ⟨xs, e, r, z, m⟩ := d
  exact ⟨xs, s _ _ e, r.keeps fun b ys q => s _ _ q, z, m⟩
theorem PdRel.val (r : PdRel H kvs xs) (k : PKey) : RelO (valV kvs k) ((atKey xs (pkL k)).map (·.2)) := by
  induction r with
  | nil => exact True.intro
  | @cons p q ps qs h t ih =>
    obtain ⟨h1, _, h2⟩ := h
    by_cases e : p.1 = k
    · have e' : q.1 = pkL k := by rw [← h1, e]
      have hb : atKey (q :: qs) (pkL k) = some q.2 := by simp [atKey, List.find?_cons, e']
      rw [valV_pos e, hb]
      exact h2
    · have e' : ¬ q.1 = pkL k := fun z => e (pkL_inj (h1.trans z))
      have hb : atKey (q :: qs) (pkL k) = atKey qs (pkL k) := by simp [atKey, List.find?_cons, e']
      rw [valV_neg e, hb]
      exact ih
theorem PdRel.repl (r : PdRel H kvs xs) (k : PKey) {y : V} {u : Value} (ry : RelV y u) :
    PdRel H (kvs.map fun kv => if kv.1 = k then (kv.1, y) else kv) (xs.map (putAt (pkL k) u)) := by
  induction r with
  | nil => exact .nil
  | @cons p q ps qs h t ih =>
    obtain ⟨h1, h2, h3⟩ := h
    show PdRel H ((if p.1 = k then (p.1, y) else p) :: _) ((if q.1 = pkL k then (q.1, q.2.1, u) else q) :: _)
    refine .cons ?_ ih
    by_cases e : p.1 = k
    · have e' : q.1 = pkL k := by rw [← h1, e]
      rw [if_pos e, if_pos e']
      exact ⟨h1, h2, ry⟩
    · rw [if_neg e, if_neg fun z => e (pkL_inj (h1.trans z))]
      exact ⟨h1, h2, h3⟩
theorem PdRel.put (r : PdRel H kvs xs) (k : PKey) {b : Addr} {y : V} {u : Value} (hb : H b = some (.tup (pkV k))) (ry : RelV y u) : PdRel H (putK kvs k y) (storedH xs (pkL k) b u) := by
  have e : (kvs.any fun kv => decide (kv.1 = k)) = (atKey xs (pkL k)).isSome := by
    rw [valV_any]
    have q := (r.val k).isSome_eq
    rw [Option.isSome_map] at q
    exact q
  unfold putK storedH
  rw [e]
  by_cases q : (atKey xs (pkL k)).isSome = true
  · rw [if_pos q, if_pos q]
    exact r.repl k ry
  · rw [if_neg q, if_neg q]
    exact Paired.snoc r ⟨rfl, hb, ry⟩
theorem pitems {k : PKey} {us : List Value} (r : Vals (pkV k) us) : ItemsAre (leafKind P w) (pkL k) us := by
  obtain ⟨u1, u2, rfl, r1, r2⟩ := vals2 (show Vals [oV k.1, oV k.2] us from r)
  have one : ∀ {o : Option Int} {u : Value}, RelV (oV o) u → (leafKind P w).is (lfO o) u = true := by
    intro o u r
    cases o with
    | none =>
      obtain rfl : u = Value.none := r
      rfl
    | some i =>
      obtain ⟨t, rfl⟩ := (show ∃ t, u = Value.int i t from r)
      show Leaf.isOf (.num i) (.int i t) = true
      simp [Leaf.isOf]
  exact .cons (one r1) (.cons (one r2) .nil)
theorem pkey_of {h : Heap} {k : PKey} {b : Addr} (ok : HOk P w H h) (e : H b = some (.tup (pkV k))) : (pKind P w).is h (pkL k) b := by
  obtain ⟨_, its, r, o, h1, h2, n, h3⟩ := (show ObjOk P w H h b (.tup (pkV k)) from ok b _ e)
  exact ⟨o, its.toArray, n, h1, h2, h3, by simpa using pitems r⟩
theorem PD.at_ {h : Heap} (ok : HOk P w H h) (e : H a = some (.ext (PdObj P w a xs))) (r : PdRel H kvs xs) : h.DictOfH (pKind P w) a xs := by
  obtain ⟨⟨o, es, ep, h1, h2, h3, h4, h5⟩, _⟩ := (show ObjOk P w H h a (.ext (PdObj P w a xs)) from ok a _ e)
  refine ⟨o, es, ep, h1, h2, h3, h4, fun x hx => ?_, h5⟩
  have all : ∀ {l : List (PKey × V)} {m : List (List Leaf × Addr × Value)}, PdRel H l m → ∀ x ∈ m, (pKind P w).is h x.1 x.2.1 := by
    intro l m q
    induction q with
    | nil => intro x hx; exact nomatch hx
    | cons hq t ih =>
      intro x hx
      rcases List.mem_cons.mp hx with e | hx
      · rw [e, ← hq.1]
        exact pkey_of ok hq.2.1
      · exact ih x hx
  exact all r x hx
theorem pd_new {h : Heap} (dd : h.DictOfH (pKind P w) a xs) : ObjOk P w H' h a (.ext (PdObj P w a xs)) := by
  obtain ⟨o, es, ep, h1, h2, h3, h4, _, h5⟩ := dd
  refine ⟨⟨o, es, ep, h1, h2, h3, h4, h5⟩, ⟨o, h1⟩, ?_⟩
  rintro g1 g2 ⟨o, es, ep, h1, h2, h3, h4, h5⟩ hk
  exact ⟨o, es, ep, hk _ h1, h2, h3, h4, h5⟩
end
section
variable {X : Cx} {pins : List (Addr × Obj)} {σ : L2.St} {H : Hp} {s : Shared} {a b : Addr} {k : PKey} {kvs : List (PKey × V)} {v : V} {r : Value} {A : Around} {E : Value → Shared → Prop}
/-- the dict behind a store -/
theorem pd_put (I : Inv X pins σ H s) {xs : List (List Leaf × Addr × Value)} (e : H a = some (.ext (PdObj X.prog X.w a xs))) (rel : PdRel H kvs xs) (hz : kvs.length < sizeLine) (hm : (a == sysModules) = false) (eb : H b = some (.tup (pkV k))) (rv : RelV v r)
    {h' : Heap} {t' : Nat} (dd : h'.DictOfH (pKind X.prog X.w) a (storedH xs (pkL k) b r)) (hs : Heap.SameBut a s.heap h') :
    ∃ H', H' = upd H a (.ext (PdObj X.prog X.w a (storedH xs (pkL k) b r))) ∧ Inv X pins σ H' { s with heap := h', toks := t' } ∧ PD X.prog X.w H' a (putK kvs k v) := by
  have he : ∃ q, h'.get? a = some q := let ⟨q, _, _, hq, _⟩ := dd; ⟨q, hq⟩
  refine ⟨_, rfl, I.write (x := a) (e := a) (by rw [e]; exact True.intro) (.inl rfl) (fun c q hc z => (hs.2 c hc).trans z) he (pd_new dd), _, upd_same, ?_, Nat.le_trans (length_putK kvs k v) hz, hm⟩
  refine (rel.put k eb rv).keeps fun c ys ec => ?_
  rw [upd_ne (ne_of ec e fun z => nomatch z)]
  exact ec
theorem pd_type (I : Inv X pins σ H s) (d : PD X.prog X.w H a kvs) : s.TypeIs (.ref a) "dict" ∧ ∀ c, Value.ref a = .ref c → ∃ ob, s.heap.get? c = some ob ∧ ob.dict = none := by
  obtain ⟨xs, e, rel, _, _⟩ := d
  have dd := PD.at_ I.hok e rel
  refine ⟨dd.typeIs, fun c q => ?_⟩
  cases q
  obtain ⟨ob, _, _, h1, h2, _⟩ := dd
  exact ⟨ob, h1, h2.2.1⟩
theorem pd_getItem {Q : Value → Shared → Prop} (hu : A.units + 1 < cLine) (I : Inv X pins σ H s) (d : PD X.prog X.w H a kvs) (eb : H b = some (.tup (pkV k))) (l : valV kvs k = some v) (h : ∀ w' s', Inv X pins σ H s' → RelV v w' → Q w' s') :
    wpAny (model X.prog X.w) A (getItem (.ref a) (.ref b)) Q E s := by
  obtain ⟨xs, e, rel, _, _⟩ := d
  obtain ⟨w', hw, rw'⟩ := RelO.some_of (v := v) (o := (atKey xs (pkL k)).map (·.2)) (by rw [← l]; exact rel.val k)
  obtain ⟨p, hp, hp2⟩ := Option.map_eq_some_iff.mp hw
  refine wpAny_getItem_heap (tupleKind_room_in1 hu) (pkey_of I.hok eb) (PD.at_ I.hok e rel) hp ?_
  rw [hp2]
  exact h w' _ (I.tok _) rw'
theorem pd_in {Q : Value → Shared → Prop} (hu : A.units + 1 < cLine) (I : Inv X pins σ H s) (d : PD X.prog X.w H a kvs) (eb : H b = some (.tup (pkV k))) (h : ∀ s', Inv X pins σ H s' → Q (.bool (valV kvs k).isSome) s') :
    wpAny (model X.prog X.w) A (compareOp .In (.ref b) (.ref a)) Q E s := by
  obtain ⟨xs, e, rel, _, hm⟩ := d
  refine wpAny_in_heap (tupleKind_room_in1 hu) (pkey_of I.hok eb) hm (PD.at_ I.hok e rel) ?_
  have q := (rel.val k).isSome_eq
  rw [Option.isSome_map] at q
  rw [← q]
  exact h _ (I.tok _)
theorem pd_notIn {Q : Value → Shared → Prop} (hu : A.units + 1 < cLine) (I : Inv X pins σ H s) (d : PD X.prog X.w H a kvs) (eb : H b = some (.tup (pkV k))) (h : ∀ s', Inv X pins σ H s' → Q (.bool (!(valV kvs k).isSome)) s') :
    wpAny (model X.prog X.w) A (compareOp .NotIn (.ref b) (.ref a)) Q E s := by
  obtain ⟨xs, e, rel, _, hm⟩ := d
  refine wpAny_notIn_heap (tupleKind_room_in1 hu) (pkey_of I.hok eb) hm (PD.at_ I.hok e rel) ?_
  have q := (rel.val k).isSome_eq
  rw [Option.isSome_map] at q
  rw [← q]
  exact h _ (I.tok _)
end
/-! their readings and rules -/
section
variable (P : Program) (w : World)
def tPdGet (td ty : TE) : TE := fun σ H Q => td σ H fun x H1 => ty σ H1 fun y H2 => ∃ a b k kvs v, x = .ref a ∧ y = .ref b ∧ PD P w H2 a kvs ∧ H2 b = some (.tup (pkV k)) ∧ valV kvs k = some v ∧ Q v H2
def tPdIn (ty td : TE) : TE := fun σ H Q => ty σ H fun y H1 => td σ H1 fun x H2 => ∃ a b k kvs, x = .ref a ∧ y = .ref b ∧ PD P w H2 a kvs ∧ H2 b = some (.tup (pkV k)) ∧ Q (.bl (valV kvs k).isSome) H2
def tPdNotIn (ty td : TE) : TE := fun σ H Q => ty σ H fun y H1 => td σ H1 fun x H2 => ∃ a b k kvs, x = .ref a ∧ y = .ref b ∧ PD P w H2 a kvs ∧ H2 b = some (.tup (pkV k)) ∧ Q (.bl (!(valV kvs k).isSome)) H2
/-- what stands behind a store into the dict at a: it is written, nothing else -/
def PdPut (H : Hp) (a : Addr) (kvs : List (PKey × V)) (H' : Hp) : Prop := PD P w H' a kvs ∧ ∀ c, c ≠ a → H' c = H c
def sPdPut (td ty tv : TE) : TS := fun D σ H => tv σ H fun v H1 => td σ H1 fun x H2 => ty σ H2 fun y H3 => ∃ a b k kvs, x = .ref a ∧ y = .ref b ∧ PD P w H3 a kvs ∧ H3 b = some (.tup (pkV k)) ∧ kvs.length < sizeLine ∧ ∀ H4, PdPut P w H3 a (putK kvs k v) H4 → D.nx σ H4
def tPdGet1 (td ty : TE) : TE := fun σ H Q => td σ H fun x H1 => ∃ a kv0, x = .ref a ∧ PD P w H1 a kv0 ∧ ty σ H1 fun y H2 => ∃ b k kvs, y = .ref b ∧ PD P w H2 a kvs ∧ H2 b = some (.tup (pkV k)) ∧ Q ((valV kvs k).getD .non) H2
def tPdGet2 (td ty tx : TE) : TE := fun σ H Q => td σ H fun x H1 => ∃ a kv0, x = .ref a ∧ PD P w H1 a kv0 ∧ ty σ H1 fun y H2 => tx σ H2 fun z H3 => ∃ b k kvs, y = .ref b ∧ PD P w H3 a kvs ∧ H3 b = some (.tup (pkV k)) ∧ Q ((valV kvs k).getD z) H3
def tPdSetD (td ty tx : TE) : TE := fun σ H Q => td σ H fun x H1 => ∃ a kv0, x = .ref a ∧ PD P w H1 a kv0 ∧ ty σ H1 fun y H2 => tx σ H2 fun z H3 => ∃ b k kvs, y = .ref b ∧ PD P w H3 a kvs ∧ H3 b = some (.tup (pkV k)) ∧ kvs.length < sizeLine ∧
  (∀ v, valV kvs k = some v → Q v H3) ∧ (valV kvs k = none → ∀ H4, PdPut P w H3 a (putK kvs k z) H4 → Q z H4)
def tPdNew : TE := fun _ H Q => ∀ p H', H p = none → PdPut P w H p [] H' → Q (.ref p) H'
/-- {k: v} of one pair -/
def tPdOne (tk tv : TE) : TE := fun σ H Q => ∀ p H0, H p = none → PdPut P w H p [] H0 → tk σ H0 fun y H1 => tv σ H1 fun v H2 => ∃ b k, y = .ref b ∧ H2 b = some (.tup (pkV k)) ∧ H2 p = H0 p ∧ ∀ H3, PdPut P w H2 p [(k, v)] H3 → Q (.ref p) H3
end
section
variable {X : Cx} {o i e f value : Expr} {pos pos' tpos apos cpos : Pos} {td ty tv tx : TE}
theorem pe_pdget (hu : X.A.units + 1 < cLine) (ho : PE X o td) (hi : PE X i ty) (hs : NoSl i := by exact fun _ _ => rfl) : PE X (.Subscript o i pos) (tPdGet X.prog X.w td ty) := by
  refine ⟨fun pins s σ H Q I h => ?_⟩
  refine subD_of PySem.F.slot_dict_getitem.lookup hs (thn (ho.run pins s σ H _ I h) fun u s1 ⟨x, H1, I1, rx, q1⟩ => thn (hi.run pins s1 σ H1 _ I1 q1) fun iv s2 ⟨y, H2, I2, ry, a, b, k, kvs, v, ex, ey, d, eb, l, q2⟩ => ?_)
  subst ex ey
  obtain rfl : _ = Value.ref a := rx
  obtain rfl : _ = Value.ref b := ry
  exact ⟨(pd_type I2 d).1, pd_getItem hu I2 d eb l fun w' s3 I3 rw' => ⟨v, H2, I3, rw', q2⟩⟩
theorem pc_pdin (hu : X.A.units + 1 < cLine) (hi : PE X i ty) (ho : PE X o td) : PC X .In i o (tPdIn X.prog X.w ty td) := by
  refine ⟨fun pins s σ H Q I h => ?_⟩
  refine thn (hi.run pins s σ H _ I h) fun iv s1 ⟨y, H1, I1, ry, q1⟩ => thn (ho.run pins s1 σ H1 _ I1 q1) fun u s2 ⟨x, H2, I2, rx, a, b, k, kvs, ex, ey, d, eb, q2⟩ => ?_
  subst ex ey
  obtain rfl : _ = Value.ref a := rx
  obtain rfl : _ = Value.ref b := ry
  exact pd_in hu I2 d eb fun s3 I3 => ⟨.bl (valV kvs k).isSome, H2, I3, rfl, q2⟩
theorem pc_pdnotin (hu : X.A.units + 1 < cLine) (hi : PE X i ty) (ho : PE X o td) : PC X .NotIn i o (tPdNotIn X.prog X.w ty td) := by
  refine ⟨fun pins s σ H Q I h => ?_⟩
  refine thn (hi.run pins s σ H _ I h) fun iv s1 ⟨y, H1, I1, ry, q1⟩ => thn (ho.run pins s1 σ H1 _ I1 q1) fun u s2 ⟨x, H2, I2, rx, a, b, k, kvs, ex, ey, d, eb, q2⟩ => ?_
  subst ex ey
  obtain rfl : _ = Value.ref a := rx
  obtain rfl : _ = Value.ref b := ry
  exact pd_notIn hu I2 d eb fun s3 I3 => ⟨.bl (!(valV kvs k).isSome), H2, I3, rfl, q2⟩
theorem ps_pdput (hu : X.A.units + 1 < cLine) (ho : PE X o td) (hi : PE X i ty) (hv : PE X value tv) (hs : swapsWith value (some (.Subscript o i pos')) pos.line X.env = pure false := by rfl) :
    PS X (.Assign [.Subscript o i pos'] value pos) (sPdPut X.prog X.w td ty tv) := by
  refine ⟨fun pins s σ H D I h => ?_⟩
  refine wpAny_Assign_Subscript (thn (hv.run pins s σ H _ I h) fun r s1 ⟨v, H1, I1, rv, q1⟩ => thn (ho.run pins s1 σ H1 _ I1 q1) fun u s2 ⟨x, H2, I2, rx, q2⟩ =>
    thn (hi.run pins s2 σ H2 _ I2 q2) fun iv s3 ⟨y, H3, I3, ry, a, b, k, kvs, ex, ey, d, eb, hz, q3⟩ => ?_) hs
  subst ex ey
  obtain rfl : _ = Value.ref a := rx
  obtain rfl : _ = Value.ref b := ry
  obtain ⟨xs, e, rel, hl, hm⟩ := d
  have hx : xs.length ≤ sizeLine := by rw [← Paired.length rel]; exact hl
  refine wpAny_setItem_heap (hsz := hx) (tupleKind_room_in1 hu) (pkey_of I3.hok eb) (PD.at_ I3.hok e rel) fun h' dd hs' => ?_
  obtain ⟨H4, e4, I4, d4⟩ := pd_put (t' := s3.toks + (pKind X.prog X.w).draws (pkL k)) I3 e rel hz hm eb rv dd hs'
  exact ⟨σ, H4, I4, q3 H4 ⟨d4, fun c hc => by rw [e4, upd_ne hc]⟩⟩
theorem pe_pdget1 (hu : X.A.units + 1 < cLine) (ho : PE X o td) (he : PE X e ty) (m : M1 X o "get" apos e cpos := by exact ⟨rfl, rfl, rfl, rfl⟩) : PE X (.Call (.Attribute o "get" apos) [e] [] cpos) (tPdGet1 X.prog X.w td ty) := by
  refine ⟨fun pins s σ H Q I h => ?_⟩
  refine wpAny_Call_method m.base m.few m.line PySem.F.plainAttrs_dict PySem.F.slot_dict_get PySem.F.type_dict_get (thn (ho.run pins s σ H _ I h) fun u s1 ⟨x, H1, I1, rx, a, kv0, ex, d, q1⟩ => ?_)
  subst ex
  obtain rfl : _ = Value.ref a := rx
  refine ⟨(pd_type I1 d).1, (pd_type I1 d).2, ?_⟩
  rw [m.trees]
  refine Calls.callWith_builtin rfl (Calls.evalArgs_plain (Calls.spliced_cons (thn (he.run pins s1 σ H1 _ I1 q1) fun iv s2 ⟨y, H2, I2, ry, b, k, kvs, ey, d2, eb, q2⟩ => Calls.spliced_nil ?_)))
  subst ey
  obtain rfl : _ = Value.ref b := ry
  have ht := (pd_type I2 d2).1
  obtain ⟨xs, e2, rel, hl, hm⟩ := d2
  exact call_meetsIn PySem.F.slot_dict_get ht PySem.F.entry_dict_get (PySem.F.args_dict_get_2 _ _) (meetsH_dict_get (pKind X.prog X.w) a b hm)
    ⟨tupleKind_room_in1 hu, pkL k, xs, pkey_of I2.hok eb, PD.at_ I2.hok e2 rel, (valV kvs k).getD .non, H2, I2.tok _, (rel.val k).getD (show L2.RelV V.non Value.none from rfl), q2⟩
theorem pe_pdget2 (hu : X.A.units + 1 < cLine) (ho : PE X o td) (he : PE X e ty) (hf : PE X f tx) (m : M2 X o "get" apos e f cpos := by exact ⟨rfl, rfl, rfl, rfl⟩) : PE X (.Call (.Attribute o "get" apos) [e, f] [] cpos) (tPdGet2 X.prog X.w td ty tx) := by
  refine ⟨fun pins s σ H Q I h => ?_⟩
  refine wpAny_Call_method m.base m.few m.line PySem.F.plainAttrs_dict PySem.F.slot_dict_get PySem.F.type_dict_get (thn (ho.run pins s σ H _ I h) fun u s1 ⟨x, H1, I1, rx, a, kv0, ex, d, q1⟩ => ?_)
  subst ex
  obtain rfl : _ = Value.ref a := rx
  refine ⟨(pd_type I1 d).1, (pd_type I1 d).2, ?_⟩
  rw [m.trees]
  refine Calls.callWith_builtin rfl (Calls.evalArgs_plain (Calls.spliced_cons (thn (he.run pins s1 σ H1 _ I1 q1) fun iv s2 ⟨y, H2, I2, ry, q2⟩ =>
    Calls.spliced_cons (thn (hf.run pins s2 σ H2 _ I2 q2) fun fv s3 ⟨z, H3, I3, rz, b, k, kvs, ey, d2, eb, q3⟩ => Calls.spliced_nil ?_))))
  subst ey
  obtain rfl : _ = Value.ref b := ry
  have ht := (pd_type I3 d2).1
  obtain ⟨xs, e2, rel, hl, hm⟩ := d2
  exact call_meetsIn PySem.F.slot_dict_get ht PySem.F.entry_dict_get (PySem.F.args_dict_get_3 _ _ _) (meetsH_dict_get_default (pKind X.prog X.w) a b hm fv)
    ⟨tupleKind_room_in1 hu, pkL k, xs, pkey_of I3.hok eb, PD.at_ I3.hok e2 rel, _, H3, I3.tok _, (rel.val k).getD rz, q3⟩
theorem pe_pdsetd (hu : X.A.units + 1 < cLine) (ho : PE X o td) (he : PE X e ty) (hf : PE X f tx) (m : M2 X o "setdefault" apos e f cpos := by exact ⟨rfl, rfl, rfl, rfl⟩) : PE X (.Call (.Attribute o "setdefault" apos) [e, f] [] cpos) (tPdSetD X.prog X.w td ty tx) := by
  refine ⟨fun pins s σ H Q I h => ?_⟩
  refine wpAny_Call_method m.base m.few m.line PySem.F.plainAttrs_dict PySem.F.slot_dict_setdefault PySem.F.type_dict_setdefault (thn (ho.run pins s σ H _ I h) fun u s1 ⟨x, H1, I1, rx, a, kv0, ex, d, q1⟩ => ?_)
  subst ex
  obtain rfl : _ = Value.ref a := rx
  refine ⟨(pd_type I1 d).1, (pd_type I1 d).2, ?_⟩
  rw [m.trees]
  refine Calls.callWith_builtin rfl (Calls.evalArgs_plain (Calls.spliced_cons (thn (he.run pins s1 σ H1 _ I1 q1) fun iv s2 ⟨y, H2, I2, ry, q2⟩ =>
    Calls.spliced_cons (thn (hf.run pins s2 σ H2 _ I2 q2) fun fv s3 ⟨z, H3, I3, rz, b, k, kvs, ey, d2, eb, hz, q3, q4⟩ => Calls.spliced_nil ?_))))
  subst ey
  obtain rfl : _ = Value.ref b := ry
  obtain ⟨xs, e2, rel, hl, hm⟩ := d2
  have hx : xs.length ≤ sizeLine := by rw [← Paired.length rel]; exact hl
  refine call_setdefault_heap (hsz := hx) (tupleKind_room_in1 hu) (pkey_of I3.hok eb) hm (PD.at_ I3.hok e2 rel) (fun p hp => ?_) fun hn h' dd hs' => ?_
  · cases l : valV kvs k with
    | none =>
      have z := RelO.none_of (show RelO none ((atKey xs (pkL k)).map (·.2)) by rw [← l]; exact rel.val k)
      rw [hp] at z
      cases z
    | some v =>
      have z := rel.val k
      rw [l, hp] at z
      exact ⟨v, H3, I3.tok _, z, q3 v l⟩
  · have l : valV kvs k = none := by
      cases l : valV kvs k with
      | none => rfl
      | some v =>
        have z := rel.val k
        rw [l, hn] at z
        exact z.elim
    obtain ⟨H4, e4, I4, d4⟩ := pd_put (t' := s3.toks + (pKind X.prog X.w).draws (pkL k)) I3 e2 rel hz hm eb rz dd hs'
    exact ⟨z, H4, I4, rz, q4 l H4 ⟨d4, fun c hc => by rw [e4, upd_ne hc]⟩⟩
theorem pd_empty {pins : List (Addr × Obj)} {σ : L2.St} {H : Hp} {s : Shared} (I : Inv X pins σ H s) : ∃ H', Inv X pins σ H' { s with heap := s.heap.push { cls := .type "dict", data := .dict #[] } } ∧ H s.heap.objs.size = none ∧ PdPut X.prog X.w H s.heap.objs.size [] H' := by
  have hd : (s.heap.push { cls := .type "dict", data := .dict #[] }).DictOfH (pKind X.prog X.w) s.heap.objs.size [] := Heap.DictOfH.new s.heap
  exact ⟨upd H s.heap.objs.size (.ext (PdObj X.prog X.w s.heap.objs.size [])), I.laid (a := s.heap.objs.size) (t' := s.toks) (fun _ _ q => Heap.get?_push_of_some _ q) (Nat.le_refl _) (pd_new hd), I.hok.fresh (Nat.le_refl _),
    ⟨[], upd_same, .nil, Nat.zero_le _, beq_eq_false_iff_ne.mpr (Ne.symm (Nat.ne_of_lt I.big))⟩, fun c hc => upd_ne hc⟩
theorem pe_pdnew : PE X (.Dict [] [] pos) (tPdNew X.prog X.w) := ⟨fun pins s σ H Q I h => by
  obtain ⟨H', I', hn, d⟩ := pd_empty I
  exact wpAny_Dict_empty ⟨.ref s.heap.objs.size, H', I', rfl, h _ H' hn d⟩⟩
theorem pe_pdone {k v : Expr} {tk : TE} (hu : X.A.units + 1 < cLine) (hk : PE X k tk) (hv : PE X v tv) : PE X (.Dict [some k] [v] pos) (tPdOne X.prog X.w tk tv) := by
  refine ⟨fun pins s σ H Q I q => ?_⟩
  obtain ⟨H0, I0, hn, d0⟩ := pd_empty I
  have q0 := q _ H0 hn d0
  have shape : (evalEachOpt [some k] X.env).zip ((evalEach [v] X.env).map fun v => do let x ← v; standAt pos; pure x) = (pairTrees [some k] [v] X.env pos).map fun p => (some p.1, p.2) := by rfl
  rw [arm_eval_Dict, shape, dictDisplay_pairs _ (by intro z; cases z) (by show 1 < 17; decide)]
  refine wpAny_bind (wpAny_standAt (wpAny_bind (wpAny_subDictH (knd := pKind X.prog X.w) (Q := fun d s' => wpAny (model X.prog X.w) X.A (pure (Value.ref d)) (EP X pins σ Q) X.xe s') (by have := hu; show X.A.units < cLine; omega) (by show 1 ≤ 15; decide) ?_)))
  refine pairTrees_cons_walk (thn (hk.run pins _ σ H0 _ I0 q0) fun u s1 ⟨y, H1, I1, ry, q1⟩ => thn (hv.run pins s1 σ H1 _ I1 q1) fun r s2 ⟨x, H2, I2, rx, b, kk, ey, eb, ep, q2⟩ => pairTrees_nil_walk ?_)
  subst ey
  obtain rfl : _ = Value.ref b := ry
  obtain ⟨⟨xs, e, rel, hl, hm⟩, _⟩ := d0
  cases rel
  have e2 : H2 s.heap.objs.size = some (.ext (PdObj X.prog X.w s.heap.objs.size [])) := ep.trans e
  have dd := PD.at_ (kvs := []) I2.hok e2 .nil
  refine ⟨[(pkL kk, b, r)], ⟨rfl, rfl, pkey_of I2.hok eb, trivial⟩, dd, fun h' tk dd' hs => wpAny_pure ?_⟩
  obtain ⟨H4, e4, I4, d4⟩ := pd_put (kvs := []) (xs := []) (t' := tk) I2 e2 .nil (by decide) hm eb rx dd' hs
  exact ⟨.ref s.heap.objs.size, H4, I4, rfl, q2 H4 ⟨d4, fun c hc => by rw [e4, upd_ne hc]⟩⟩
/-- len(d) -/
theorem call_len_pd : CallR X (.builtin "len") (fun xs H Q => ∃ a kvs, xs = [.ref a] ∧ PD X.prog X.w H a kvs ∧ Q (.int kvs.length) H) := by
  intro pins s σ H xs us Q I r q
  obtain ⟨a, kvs, ex, d, q⟩ := q
  subst ex
  obtain ⟨u, eu, rx⟩ := vals1 r
  subst eu
  cases rx
  obtain ⟨ys, e, rel, hl, hm⟩ := d
  have dd := PD.at_ I.hok e rel
  have hk : s.heap.DictKeyed (pKind X.prog X.w) a (pairsH ys) := ⟨ys, dd, rfl⟩
  have el : kvs.length = (pairsH ys).length := by rw [pairsH_length]; exact Paired.length rel
  rw [el] at hl
  rw [sizeLine_eq] at hl
  refine PyProof.Rows.call_len_slot (n := (pairsH ys).length) hk.typeIs PySem.F.slot_dict_len (fun Q' hq => len_keyed hm hk hq) (by omega) (by omega) ?_
  exact ⟨.int kvs.length, H, I.tok _, ⟨_, by rw [el]⟩, q⟩
end
/-! ### a list or a tuple -/
def SqA (K : PySem.W.Frag) (H : Hp) (a : Addr) (xs : List V) : Prop := SqL K H a xs ∨ SqT K H a xs
theorem same_tup {K : PySem.W.Frag} {H H' : Hp} {a : Addr} {xs : List V} (e : Same H H') (h : SqT K H a xs) : SqT K H' a xs := by
  rcases h with (h | ⟨o, h⟩) | h
  · exact .inl (.inl (e _ _ h))
  · exact .inl (.inr ⟨o, e _ _ h⟩)
  · exact .inr h
theorem SqA.same {K : PySem.W.Frag} {H H' : Hp} {a : Addr} {xs : List V} (h : SqA K H a xs) (e : Same H H') : SqA K H' a xs := h.elim (fun z => .inl (e.seq z)) fun z => .inr (same_tup e z)
def iSeq (K : PySem.W.Frag) (tl : TE) : TI := fun σ H R => tl σ H fun x H1 => ∃ a, x = .ref a ∧ (((∃ xs, SqL K H1 a xs) ∧ R (Itl K a) H1) ∨ ((∃ xs, SqT K H1 a xs) ∧ R (Itt K a) H1))
theorem pi_seq {X : Cx} {tg l : Expr} {tl : TE} (hl : PE X l tl) : PI X tg l (iSeq X.K tl) := by
  refine ⟨fun pins s σ H R I h => ?_⟩
  refine thn (hl.run pins s σ H _ I h) fun v s1 ⟨x, H1, I1, r1, a, ex, q1⟩ => ?_
  subst ex
  cases r1
  rcases q1 with ⟨⟨xs, hq⟩, q⟩ | ⟨⟨xs, hq⟩, q⟩
  · obtain ⟨its, rv, pl, hz⟩ := I1.list hq
    refine wpAny_pyIter_list pl.isList (pi_one (tk := s1.toks) I1 _ (turn_list a _) ⟨_, Heap.get?_push_size _ rfl, rfl, rfl⟩ q)
  · obtain ⟨its, rv, pt, hz⟩ := I1.tuple hq
    refine wpAny_pyIter_tuple (show s1.heap.IsTuple a its.toArray from pt) (pi_one (tk := s1.toks) I1 _ (turn_tuple a _) ⟨_, Heap.get?_push_size _ rfl, rfl, rfl⟩ q)
/-- what a for asks of its walk J -/
def ForB (g : TG) (tb : TS) (D : Ends) (J : It) (σ : L2.St) (H : Hp) : Prop := ∃ W : Nat → Nat → L2.St → Hp → Prop, (∃ m, W 0 m σ H) ∧ ∀ i m σ H, W i m σ H →
  (J.stop i H ∧ D.nx σ H) ∨ (J.go i H ∧ ∃ N : L2.St → Hp → Prop, (∀ σ' H', N σ' H' → ∃ m', m' < m ∧ W (i + 1) m' σ' H') ∧
    ∀ x H', J.yld i H x H' → g x σ H' fun σ2 H2 => tb { D with nx := N, ct := N, bk := D.nx } σ2 H2)
theorem for_seq {K : PySem.W.Frag} {a : Addr} {xs : List V} {g : TG} {tb : TS} {D : Ends} {σ : L2.St} {H : Hp} (h : SqA K H a xs) (Pv : Nat → L2.St → Hp → Prop) (h0 : Pv 0 σ H) (hl : ∀ i σ' H', i ≤ xs.length → Pv i σ' H' → Same H H')
    (hs : ∀ i x σ H, xs[i]? = some x → Pv i σ H → g x σ H fun σ2 H2 => tb { D with nx := Pv (i + 1), ct := Pv (i + 1), bk := D.nx } σ2 H2) (hd : ∀ σ H, Pv xs.length σ H → D.nx σ H) :
    ((∃ xs, SqL K H a xs) ∧ ForB g tb D (Itl K a) σ H) ∨ ((∃ xs, SqT K H a xs) ∧ ForB g tb D (Itt K a) σ H) := by
  rcases h with h | h
  · exact .inl ⟨⟨_, h⟩, for_list Pv h0 (fun i σ' H' hi p => (hl i σ' H' hi p).seq h) hs hd⟩
  · exact .inr ⟨⟨_, h⟩, for_tup Pv h0 (fun i σ' H' hi p => same_tup (hl i σ' H' hi p) h) hs hd⟩
/-- what a list comprehension asks of its walk J -/
def LcB (g : TG) (tt : TT) (te : TE) (vs : List Nat) (J : It) (σ : L2.St) (H1 : Hp) (D : Addr) (Qd : Hp → Prop) : Prop := ∃ W : Nat → Nat → Hp → Prop, (∃ m, W 0 m (upd H1 D (.lst []))) ∧ ∀ i m H, W i m H →
  (J.stop i H ∧ Qd H) ∨ (J.go i H ∧ ∃ Nx : Hp → Prop, (∀ H', Nx H' → ∃ m', m' < m ∧ W (i + 1) m' H') ∧ ∀ x H', J.yld i H x H' → g x (wipe σ vs) H' fun σ2 H2 => wipe σ2 vs = wipe σ vs ∧
    tt σ2 H2 fun b H3 => if b = true then te σ2 H3 fun y H4 => ∃ acc, H4 D = some (.lst acc) ∧ acc.length < sizeLine ∧ Nx (upd H4 D (.lst (acc ++ [y]))) else Nx H3)
theorem lc_seqL {K : PySem.W.Frag} {a : Addr} {xs : List V} {g : TG} {tt : TT} {te : TE} {vs : List Nat} {σ : L2.St} {H1 : Hp} {D : Addr} {Qd : Hp → Prop} (h : SqA K H1 a xs) (Pv : Nat → Hp → Prop) (h0 : Pv 0 (upd H1 D (.lst []))) (hl : ∀ i H, i ≤ xs.length → Pv i H → Same H1 H)
    (hs : ∀ i x H, xs[i]? = some x → Pv i H → g x (wipe σ vs) H fun σ2 H2 => wipe σ2 vs = wipe σ vs ∧ tt σ2 H2 fun b H3 =>
      if b = true then te σ2 H3 fun y H4 => ∃ acc, H4 D = some (.lst acc) ∧ acc.length < sizeLine ∧ Pv (i + 1) (upd H4 D (.lst (acc ++ [y]))) else Pv (i + 1) H3) (hd : ∀ H, Pv xs.length H → Qd H) :
    (SqL K H1 a xs → LcB g tt te vs (Itl K a) σ H1 D Qd) ∧ (SqT K H1 a xs → LcB g tt te vs (Itt K a) σ H1 D Qd) :=
  ⟨fun z => lc_list Pv h0 (fun i H hi p => (hl i H hi p).seq z) hs hd, fun z => lc_tup Pv h0 (fun i H hi p => same_tup (hl i H hi p) z) hs hd⟩
/-! ### enumerate of a text -/
/-- the signs of x, each in a new pair -/
def Itx (x : Str) : It :=
  ⟨fun i _ => i < x.cps.size, fun i H v H' => ∃ T c, v = .ref T ∧ H T = none ∧ H' = upd H T (.tup [.int (i : Nat), .str ⟨#[c]⟩]) ∧ x.cps[i]? = some c, fun i _ => x.cps.size ≤ i⟩
theorem turn_enumx {P : Program} {w : World} {K : PySem.W.Frag} {elts : List Expr} {kk : Nat} {tpos : Pos} (x : Str) (t : Tok) (e it : Addr) :
    Turn P w K (.Tuple elts kk tpos) (Itx x) [e, it] e (fun i h => i ≤ x.cps.size ∧ (∃ old, IsEnum h e it ((i : Nat) : Int) old) ∧ h.IsStrIter it (strIterType x) x t i ∧ e ≠ it) where
  mem := List.mem_cons_self ..
  obj := fun i h st b hb => by
    obtain ⟨_, ⟨old, he⟩, ⟨o, ho, hc, hd⟩, _⟩ := st
    rcases List.mem_cons.mp hb with z | hb
    · rw [z]
      exact ⟨_, he, fun v q => nomatch q⟩
    · rw [List.mem_singleton.mp hb]
      exact ⟨o, ho, fun v q => by rw [hd] at q; cases q⟩
  keep := fun i h h' st k => by
    obtain ⟨hi, ⟨old, he⟩, ⟨o, ho, hc⟩, hne⟩ := st
    exact ⟨hi, ⟨old, k e (by simp) _ he⟩, ⟨o, k it (by simp) _ ho, hc⟩, hne⟩
  item := by
    intro X hP hw hK hc i pins s σ H E I hf st hg
    subst hP hw hK
    obtain ⟨hi, ⟨old, he⟩, hit, hne⟩ := st
    have hlt : i < x.cps.size := hg
    have hel : e < s.heap.objs.size := Heap.lt_size he
    have hil : it < s.heap.objs.size := by
      obtain ⟨_, q, _⟩ := hit
      exact Heap.lt_size q
    refine wpAny_pyNext_enum_itemD (Draws.text (A := X.A.in1) (I.ok.hd hc) it x t) he hit hlt hne (by simpa using hne) fun y h' tk hP ho hit' hT hsz hk => ?_
    obtain ⟨c, u, hcx, rfl⟩ := hP
    refine ⟨_, rfl, wpAny_letOwnedTupleGo_enum (s := { s with heap := h', toks := tk + 1 }) ho fun h'' he' sb => ?_⟩
    have hT2 : h''.get? s.heap.objs.size = some { cls := .type "tuple", data := .seq #[.int i tk, .str ⟨#[c]⟩ u] } := (sb.2 _ (Nat.ne_of_gt hel)).trans hT
    have new : ObjOk X.prog X.w (upd H s.heap.objs.size (.tup [.int (i : Nat), .str ⟨#[c]⟩])) h'' s.heap.objs.size (.tup [.int (i : Nat), .str ⟨#[c]⟩]) :=
      ⟨by show 2 ≤ sizeLine; decide, [.int i tk, .str ⟨#[c]⟩ u], .cons ⟨_, rfl⟩ (.cons ⟨_, rfl⟩ .nil), ⟨_, hT2, rfl, _, rfl⟩⟩
    have I1 : L2.Inv X pins σ (upd H s.heap.objs.size (.tup [.int (i : Nat), .str ⟨#[c]⟩])) { s with heap := h'', toks := tk + 1 } :=
      I.turnedNew (ch := [e, it]) (fun b ob hb q => (sb.2 b (fun z => hb (by simp [z]))).trans (hk b ob (fun z => hb (by simp [z])) (fun z => hb (by simp [z])) q)) hf (Nat.le_refl _) new
    refine ⟨.ref s.heap.objs.size, _, I1, rfl, ⟨_, c, rfl, I.hok.fresh (Nat.le_refl _), rfl, hcx⟩, ⟨hlt, ⟨_, he'⟩, ?_, hne⟩, fun b hb => ?_⟩
    · obtain ⟨o, ho', r⟩ := hit'
      exact ⟨o, (sb.2 it (Ne.symm hne)).trans ho', r⟩
    · have hb' : b < s.heap.objs.size := by
        rcases List.mem_cons.mp hb with z | hb
        · rw [z]
          exact hel
        · rw [List.mem_singleton.mp hb]
          exact hil
      rw [upd_ne (Nat.ne_of_lt hb')]
      exact (hf b hb).1
  done := by
    intro X hP hw hK hc i pins s σ H E I hf st hg
    subst hP hw hK
    obtain ⟨hi, ⟨old, he⟩, hit, hne⟩ := st
    have ei : i = x.cps.size := Nat.le_antisymm hi hg
    subst ei
    obtain ⟨f0, f1, f2, f3, f4, f5⟩ := hf it (by simp)
    exact wpAny_pyNext_enum_endD (Draws.text (A := X.A.in1) (I.ok.hd hc) it x t) he hit fun h' eb => ⟨rfl, I.turned (t' := s.toks) (fun b o hb q => eb b o hb q) f0 f1 f3 f4 f5⟩
  self := fun A i s Q E st h => by
    obtain ⟨_, ⟨_, he⟩, _⟩ := st
    exact wpAny_pyIter_enum he h
def iEnx (ta : TA) : TI := fun σ H R => ta σ H fun vs H1 => ∃ x, vs = [.str x] ∧ R (Itx x) H1
theorem pi_enumx {X : Cx} {e : Expr} {ta : TA} {p pos tpos : Pos} {elts : List Expr} {kk : Nat} (hm : X.mg "enumerate" = none) (ha : PA X [e] ta) (hg : Gl X "enumerate" := by rfl) (hs : starEach [e] X.env = [(false, eval e X.env)] := by rfl) :
    PI X (.Tuple elts kk tpos) (.Call (.Name "enumerate" p) [e] [] pos) (iEnx ta) := by
  refine ⟨fun pins s σ H R I h => ?_⟩
  refine Call_ (ld_blt I hg hm boot_enumerate (PyProof.Rows.callWith_type1 (thn (ha.run pos pins s σ H _ I h) fun us s1 ⟨vs, H1, I1, r1, x, ex, q⟩ => ?_) hs rfl))
  subst ex
  obtain ⟨u, eu, rx⟩ := vals1 r1
  subst eu
  obtain ⟨t, rfl⟩ := rx
  refine call_enumerate_str fun h' he hit hsz hk => wpAny_pyIter_enum he ?_
  have I2 : L2.Inv X pins σ H1 { s1 with heap := h' } := I1.kept (t' := s1.toks) hk
  refine ⟨s1.heap.objs.size + 1, [s1.heap.objs.size + 1, s1.heap.objs.size], _, _, H1, rfl, I2, turn_enumx x t (s1.heap.objs.size + 1) s1.heap.objs.size, ⟨Nat.zero_le _, ⟨.none, he⟩, hit, Nat.succ_ne_self _⟩, fun b hb => ?_, q⟩
  have hle : s1.heap.objs.size ≤ b := by
    rcases List.mem_cons.mp hb with z | hb
    · rw [z]
      exact Nat.le_add_right _ _
    · rw [List.mem_singleton.mp hb]
      exact Nat.le_refl _
  exact I1.fpOk hle (I1.hok.fresh hle)
/-! ### list of a text, sorted of a tuple -/
theorem call_list_text {X : Cx} (hc : X.calm = true) : CallR X (.type "list") (fun xs H Q => ∃ z : Str, xs = [.str z] ∧ z.length ≤ sizeLine ∧ ∀ l, H l = none → Q (.ref l) (upd H l (.lst (z.cps.toList.map fun c => V.str ⟨#[c]⟩)))) := by
  intro pins s σ H xs us Q I r q
  obtain ⟨z, ex, hz, q⟩ := q
  subst ex
  obtain ⟨u, eu, rx⟩ := vals1 r
  subst eu
  obtain ⟨t, rfl⟩ := rx
  have hn : z.cps.size ≤ sizeLine := hz
  refine call_list_str (I.ok.hd hc) z t (hn := hn) fun h' tk acc' c' hk hS' hacc => ?_
  have hv : Vals (z.cps.toList.map fun c => V.str ⟨#[c]⟩) acc'.toList := by
    refine vals_of_at (by rw [List.length_map, Array.length_toList, Array.length_toList, hacc.1]) fun j y u h1 h2 => ?_
    rw [List.getElem?_map, Array.getElem?_toList] at h1
    obtain ⟨c, tt, hcj, rfl⟩ := hacc.2 j u (by rw [← Array.getElem?_toList]; exact h2)
    rw [hcj] at h1
    have e : V.str ⟨#[c]⟩ = y := Option.some.inj h1
    rw [← e]
    exact ⟨tt, rfl⟩
  have new : ObjOk X.prog X.w (upd H s.heap.objs.size (.lst (z.cps.toList.map fun c => V.str ⟨#[c]⟩))) h' s.heap.objs.size (.lst (z.cps.toList.map fun c => V.str ⟨#[c]⟩)) :=
    ⟨by rw [List.length_map, Array.length_toList]; exact hn, acc'.toList, c', hv, by rw [Array.toArray_toList]; exact hS'⟩
  exact ⟨.ref s.heap.objs.size, _, I.laid (t' := tk) hk (Nat.le_refl _) new, rfl, q _ (I.hok.fresh (Nat.le_refl _))⟩
theorem cr_sortedTup {X : Cx} : CallR X (.builtin "sorted") (fun xs H Q => ∃ (a : Addr) (ks : List Int), xs = [.ref a] ∧ SqT X.K H a (ks.map V.int) ∧ ks.length < 64 ∧
    ∀ (ys : List Int) (p : Addr), ys.Perm ks → ys.Pairwise (· ≤ ·) → H p = none → Q (.ref p) (upd H p (.lst (ys.map V.int)))) := by
  intro pins s σ H xs us Q I r q
  obtain ⟨a, ks, ex, hS, h64, q⟩ := q
  subst ex
  obtain ⟨u, eu, rx⟩ := vals1 r
  subst eu
  cases rx
  obtain ⟨its, rv, ⟨o, ho, hc, n, hd⟩, hz⟩ := I.tuple hS
  have hl := rv.length
  rw [List.length_map] at hl
  have hal : its.toArray.size ≤ sizeLine := by
    rw [List.size_toArray, ← hl, sizeLine_eq]
    omega
  have hI : IntsAre its ks := ints_each hl.symm fun j v e => by
    have hj : j < its.length := (List.getElem?_eq_some_iff.mp e).1
    have hk : ks[j]? = some (ks[j]'(by omega)) := List.getElem?_eq_getElem _
    obtain ⟨v2, e2, r2⟩ := rv.get (i := j) (x := V.int (ks[j]'(by omega))) (by rw [List.getElem?_map, hk] <;> rfl)
    rw [e] at e2
    cases e2
    obtain ⟨t, rfl⟩ := r2
    exact ⟨_, t, hk, rfl⟩
  refine Calls.call_function_entry PyProof.Rows.kind_sorted PyProof.Rows.plain_sorted PyProof.Rows.entry_sorted (PyProof.Rows.args_sorted1 _) ?_
  unfold Builtin.«sorted»
  refine wpAny_bind (m := checkCount "sorted" 1 1 _) (wpAny_pure ?_)
  refine wpAny_bind (wpAny_collect_seq (hsz := hal) a (.inr rfl) ho hc hd fun h' hk => ?_)
  have hal2 : its.toArray.toList.length = ks.length := by simpa using hl.symm
  have hI2 : IntsAre its.toArray.toList ks := by simpa using hI
  have I1 : L2.Inv X pins σ H { s with heap := h' } := I.kept (t' := s.toks) hk
  refine wpAny_bind (wpAny_newList ?_ (by rw [hal2, sizeLine_eq]; omega))
  have hoL : (h'.push (seqObj "list" its.toArray.toList.toArray 0)).get? h'.objs.size = some (seqObj "list" its.toArray.toList.toArray 0) := Heap.get?_push_size _ rfl
  show wpAny _ _ _ _ _ { s with heap := h'.push (seqObj "list" its.toArray.toList.toArray 0) }
  refine wpAny_bind (wpAny_holding (wpAny_call_entry PyProof.Rows.slot_list_sort ⟨_, hoL, rfl⟩ PyProof.Rows.entry_list_sort
    (PyProof.Rows.list_sort_tree (s := { s with heap := h'.push (seqObj "list" its.toArray.toList.toArray 0) }) hoL hI2 (by rw [hal2]; exact h64) fun out ys g1 g2 g3 => ⟨_, rfl, ?_⟩) (PyProof.Rows.args_list_sort _)))
  obtain ⟨e', he'⟩ := PyProof.Rows.sortedHeap_at (vs := its.toArray.toList) (out := out) hoL
  have hlen : (ys.map V.int).length ≤ sizeLine := by
    rw [List.length_map, g2.length_eq, sizeLine_eq]
    omega
  refine wpAny_pure ⟨_, rfl, .ref h'.objs.size, upd H h'.objs.size (.lst (ys.map V.int)), I1.laid (t' := s.toks) (fun b u e => ?_) (Nat.le_refl _)
    (show ObjOk X.prog X.w _ _ _ (.lst (ys.map V.int)) from ⟨hlen, out.toList, e', vals_of_ints g1, by rw [Array.toArray_toList]; exact he'⟩), rfl, q ys _ g2 g3 (I1.hok.fresh (Nat.le_refl _))⟩
  have hb : b < h'.objs.size := Heap.lt_size e
  rw [PyProof.Rows.sortedHeap_old (Nat.ne_of_lt hb) (by rw [size_push']; exact Nat.lt_succ_of_lt hb)]
  exact Heap.get?_push_of_some _ e
/-! ### rules whose readings tell the written part by its name (for the elements of comprehensions) -/
section
variable {X : Cx} {K : PySem.W.Frag} {P : Program} {w : World} {o i e f a b c value : Expr} {es : List Expr} {pos pos' apos cpos tpos : Pos} {ta tb td ty tv tx to te : TE} {t : TA} {g : Str}
theorem ix_listK (hK : X.K = K := by rfl) : IxR X (rIxL K) := by subst hK; exact ix_list
theorem ix_tupK (hK : X.K = K := by rfl) : IxR X (rIxT K) := by subst hK; exact ix_tup
theorem ix_seqK (hK : X.K = K := by rfl) : IxR X (rIx K) := by subst hK; exact ix_seq
theorem sl_listK (hK : X.K = K := by rfl) : SlR X (rSlL K) := by subst hK; exact sl_list
theorem isiK (hK : X.K = K := by rfl) : CallR X (.builtin "isinstance") (rIsi K) := by subst hK; exact call_isi
theorem eqDK (hu : X.A.units + 64 < cLine) (hK : X.K = K := by rfl) : OpR X (compareOp .Eq) (rEqD K) := by subst hK; exact op_eqD hu
theorem neDK (hu : X.A.units + 64 < cLine) (hK : X.K = K := by rfl) : OpR X (compareOp .NotEq) (rNeD K) := by subst hK; exact op_neD hu
theorem inK (hK : X.K = K := by rfl) : OpR X (compareOp .In) (rIn K false) := by subst hK; exact op_in_seq
theorem notInK (hK : X.K = K := by rfl) : OpR X (compareOp .NotIn) (rIn K true) := by subst hK; exact op_notIn_seq
def rLenA (K : PySem.W.Frag) : List V → Hp → VK → Prop := fun xs H Q => ∃ p ys, xs = [.ref p] ∧ SqA K H p ys ∧ Q (.int ys.length) H
theorem lenK (hK : X.K = K := by rfl) : CallR X (.builtin "len") (rLenA K) := by subst hK; exact call_len_seq
def rTupOf (K : PySem.W.Frag) : List V → Hp → VK → Prop := fun xs H Q => ∃ p ys, xs = [.ref p] ∧ ((SqL K H p ys ∧ ∀ l, H l = none → Q (.ref l) (upd H l (.tup ys))) ∨ (SqT K H p ys ∧ Q (.ref p) H))
theorem tupK (hK : X.K = K := by rfl) : CallR X (.type "tuple") (rTupOf K) := by subst hK; exact call_tuple_of
def rListOf (K : PySem.W.Frag) : List V → Hp → VK → Prop := fun xs H Q => ∃ p ys, xs = [.ref p] ∧ SqA K H p ys ∧ ∀ l, H l = none → Q (.ref l) (upd H l (.lst ys))
theorem listK (hK : X.K = K := by rfl) : CallR X (.type "list") (rListOf K) := by subst hK; exact call_list_of
def rLenPd (P : Program) (w : World) : List V → Hp → VK → Prop := fun xs H Q => ∃ a kvs, xs = [.ref a] ∧ PD P w H a kvs ∧ Q (.int kvs.length) H
theorem lenPdK (hP : X.prog = P := by rfl) (hw : X.w = w := by rfl) : CallR X (.builtin "len") (rLenPd P w) := by subst hP hw; exact call_len_pd
theorem fldK (ha : PE X e ta) (hb : attributeBase e g X.env (eval e X.env) = eval e X.env := by rfl) (hK : X.K = K := by rfl) : PE X (.Attribute e g pos) (tFld K ta g) := by subst hK; exact pe_fld ha hb
theorem pfldK (ha : PE X o ta) (hv : PE X value tv) (hs : swapsWith value (some (.Attribute o g pos')) pos.line X.env = pure false := by rfl) (hK : X.K = K := by rfl) : PS X (.Assign [.Attribute o g pos'] value pos) (sFld K ta tv g) := by subst hK; exact ps_fld ha hv hs
theorem ptupK {es : List Expr} {k : Nat} {t : TGs} {n : Nat} (hc : X.calm = true) (h : PGs X es t) (hn : (assignEach es X.env).length = n := by rfl) (hst : (assignEach es X.env).findIdx? (·.1) = none := by rfl) (hK : X.K = K := by rfl) :
    PG X (.Tuple es k pos) (gTup K n t) := by subst hK; exact pg_tup hc h hn hst
theorem bm0K {T id : String} {name : Str} {r : V → List V → Hp → VK → Prop} (pa : PlainAttrs T) (slot : Slot T name id) (hty : typeOf (.builtin id) = pure (.type "method_descriptor")) (hm : MtR X id r) (ho : PE X o to)
    (hbase : attributeBase o name X.env (eval o X.env) = eval o X.env := by rfl) (hline : (apos.endLine == cpos.line) = true := by rfl) (hK : X.K = K := by rfl) : PE X (.Call (.Attribute o name apos) [] [] cpos) (tBM0 K T r to) := by
  subst hK
  exact pe_bm0 pa slot hty hm ho hbase hline
theorem bmK {T id : String} {name : Str} {r : V → List V → Hp → VK → Prop} (pa : PlainAttrs T) (slot : Slot T name id) (hty : typeOf (.builtin id) = pure (.type "method_descriptor")) (hm : MtR X id r) (ho : PE X o to) (ha : PA X (e :: es) t)
    (hbase : attributeBase o name X.env (eval o X.env) = eval o X.env := by rfl)
    (hfew : ((backTo cpos (starEach (e :: es) X.env)).all (fun x => !x.1) && (backToKw cpos (keywordEach [] X.env)).all (fun x => x.1.isSome) && decide ((e :: es).length + ([] : List Keyword).length + (if ([] : List Keyword).isEmpty then 0 else 1) < 30)) = true := by rfl)
    (hline : (apos.endLine == cpos.line) = true := by rfl) (hs : starEach (e :: es) X.env = (false, eval e X.env) :: starEach es X.env := by rfl) (hplain : (backTo cpos (starEach es X.env)).any (·.1) = false := by rfl) (hK : X.K = K := by rfl) :
    PE X (.Call (.Attribute o name apos) (e :: es) [] cpos) (tBM K T r to t) := by
  subst hK
  exact pe_bm pa slot hty hm ho ha hbase hfew hline hs hplain
theorem pdgetK (hu : X.A.units + 1 < cLine) (ho : PE X o td) (hi : PE X i ty) (hs : NoSl i := by exact fun _ _ => rfl) (hP : X.prog = P := by rfl) (hw : X.w = w := by rfl) : PE X (.Subscript o i pos) (tPdGet P w td ty) := by subst hP hw; exact pe_pdget hu ho hi hs
theorem pdinK (hu : X.A.units + 1 < cLine) (hi : PE X i ty) (ho : PE X o td) (hP : X.prog = P := by rfl) (hw : X.w = w := by rfl) : PC X .In i o (tPdIn P w ty td) := by subst hP hw; exact pc_pdin hu hi ho
theorem pdnotinK (hu : X.A.units + 1 < cLine) (hi : PE X i ty) (ho : PE X o td) (hP : X.prog = P := by rfl) (hw : X.w = w := by rfl) : PC X .NotIn i o (tPdNotIn P w ty td) := by subst hP hw; exact pc_pdnotin hu hi ho
theorem pdget1K (hu : X.A.units + 1 < cLine) (ho : PE X o td) (he : PE X e ty) (m : M1 X o "get" apos e cpos := by exact ⟨rfl, rfl, rfl, rfl⟩) (hP : X.prog = P := by rfl) (hw : X.w = w := by rfl) :
    PE X (.Call (.Attribute o "get" apos) [e] [] cpos) (tPdGet1 P w td ty) := by subst hP hw; exact pe_pdget1 hu ho he m
theorem pdget2K (hu : X.A.units + 1 < cLine) (ho : PE X o td) (he : PE X e ty) (hf : PE X f tx) (m : M2 X o "get" apos e f cpos := by exact ⟨rfl, rfl, rfl, rfl⟩) (hP : X.prog = P := by rfl) (hw : X.w = w := by rfl) :
    PE X (.Call (.Attribute o "get" apos) [e, f] [] cpos) (tPdGet2 P w td ty tx) := by subst hP hw; exact pe_pdget2 hu ho he hf m
theorem pdsetdK (hu : X.A.units + 1 < cLine) (ho : PE X o td) (he : PE X e ty) (hf : PE X f tx) (m : M2 X o "setdefault" apos e f cpos := by exact ⟨rfl, rfl, rfl, rfl⟩) (hP : X.prog = P := by rfl) (hw : X.w = w := by rfl) :
    PE X (.Call (.Attribute o "setdefault" apos) [e, f] [] cpos) (tPdSetD P w td ty tx) := by subst hP hw; exact pe_pdsetd hu ho he hf m
theorem pdputK (hu : X.A.units + 1 < cLine) (ho : PE X o td) (hi : PE X i ty) (hv : PE X value tv) (hs : swapsWith value (some (.Subscript o i pos')) pos.line X.env = pure false := by rfl) (hP : X.prog = P := by rfl) (hw : X.w = w := by rfl) :
    PS X (.Assign [.Subscript o i pos'] value pos) (sPdPut P w td ty tv) := by subst hP hw; exact ps_pdput hu ho hi hv hs
theorem pdnewK (hP : X.prog = P := by rfl) (hw : X.w = w := by rfl) : PE X (.Dict [] [] pos) (tPdNew P w) := by subst hP hw; exact pe_pdnew
theorem pdoneK {k v : Expr} {tk : TE} (hu : X.A.units + 1 < cLine) (hk : PE X k tk) (hv : PE X v tv) (hP : X.prog = P := by rfl) (hw : X.w = w := by rfl) : PE X (.Dict [some k] [v] pos) (tPdOne P w tk tv) := by subst hP hw; exact pe_pdone hu hk hv
theorem catAK (hK : X.K = K := by rfl) : OpR X (binaryOp .Add) (rCatA K) := by subst hK; exact op_catA
end
end J

set_option Elab.async false
set_option linter.all false
set_option maxRecDepth 100000
set_option maxHeartbeats 4000000
/-! The text by places, facts of the top by names, how each def's promise is made. Printed by gen_head.py. -/
namespace J
open PySem PySem.Spec PyProof.Rows L2
def top (i : Nat) : Stmt := PySem.Challenge.pw_rankedjoins_k41_whole_let_exactly_if_it.main.body.getD i (.Pass ⟨0, 0, 0, 0⟩)
abbrev s_right_spine : Stmt := top 10
abbrev N_right_spine : List Str := ["joins", "piece", "parts", "spine"]
def d_right_spine : He.DefD := ⟨("right_spine", none), "right_spine", "right_spine", defArgs s_right_spine, defBody s_right_spine, defScope s_right_spine, [], []⟩
abbrev s_left_spine : Stmt := top 11
abbrev N_left_spine : List Str := ["joins", "piece", "parts", "spine"]
def d_left_spine : He.DefD := ⟨("left_spine", none), "left_spine", "left_spine", defArgs s_left_spine, defBody s_left_spine, defScope s_left_spine, [], []⟩
abbrev s_crossing : Stmt := top 12
abbrev N_crossing : List Str := ["joins", "left", "right", "best", "ahead", "behind", "x", "x_bound", "y", "y_bound", "rank"]
def d_crossing : He.DefD := ⟨("crossing", none), "crossing", "crossing", defArgs s_crossing, defBody s_crossing, defScope s_crossing, [], []⟩
abbrev s_side_by_side : Stmt := top 13
abbrev N_side_by_side : List Str := ["joins", "left", "right"]
def d_side_by_side : He.DefD := ⟨("side_by_side", none), "side_by_side", "side_by_side", defArgs s_side_by_side, defBody s_side_by_side, defScope s_side_by_side, [], []⟩
abbrev s_is_between : Stmt := top 17
abbrev N_is_between : List Str := ["value", "least", "most"]
def d_is_between : He.DefD := ⟨("is_between", none), "is_between", "is_between", defArgs s_is_between, defBody s_is_between, defScope s_is_between, [], []⟩
abbrev s_is_alphabet : Stmt := top 18
abbrev N_is_alphabet : List Str := ["alphabet", "sign", "at"]
def d_is_alphabet : He.DefD := ⟨("is_alphabet", none), "is_alphabet", "is_alphabet", defArgs s_is_alphabet, defBody s_is_alphabet, defScope s_is_alphabet, [], []⟩
abbrev s_checked_alphabet : Stmt := top 19
abbrev N_checked_alphabet : List Str := ["alphabet"]
def d_checked_alphabet : He.DefD := ⟨("checked_alphabet", none), "checked_alphabet", "checked_alphabet", defArgs s_checked_alphabet, defBody s_checked_alphabet, defScope s_checked_alphabet, [], []⟩
abbrev s_put_together : Stmt := top 20
abbrev N_put_together : List Str := ["row", "pair", "piece", "found", "at"]
def d_put_together : He.DefD := ⟨("put_together", none), "put_together", "put_together", defArgs s_put_together, defBody s_put_together, defScope s_put_together, [], []⟩
abbrev s_lowest_pair : Stmt := top 21
abbrev N_lowest_pair : List Str := ["ranks", "row", "best", "at", "pair"]
def d_lowest_pair : He.DefD := ⟨("lowest_pair", none), "lowest_pair", "lowest_pair", defArgs s_lowest_pair, defBody s_lowest_pair, defScope s_lowest_pair, [], []⟩
abbrev s_cut_row : Stmt := top 22
abbrev N_cut_row : List Str := ["ranks", "letters", "row", "pair"]
def d_cut_row : He.DefD := ⟨("cut_row", none), "cut_row", "cut_row", defArgs s_cut_row, defBody s_cut_row, defScope s_cut_row, [], []⟩
abbrev s_Joins_init : Stmt := inClass (top 23) 0
abbrev N_Joins_init : List Str := ["self", "alphabet", "pairs", "pair", "at", "letter"]
def d_Joins_init : He.DefD := ⟨("Joins", some "__init__"), "__init__", "Joins.__init__", defArgs s_Joins_init, defBody s_Joins_init, defScope s_Joins_init, [], []⟩
abbrev s_Joins_take : Stmt := inClass (top 23) 1
abbrev N_Joins_take : List Str := ["self", "pair", "rank", "text"]
def d_Joins_take : He.DefD := ⟨("Joins", some "take"), "take", "Joins.take", defArgs s_Joins_take, defBody s_Joins_take, defScope s_Joins_take, [], []⟩
abbrev s_Joins_is_proper : Stmt := inClass (top 23) 2
abbrev N_Joins_is_proper : List Str := ["self", "pair", "left", "right", "most", "text", "row", "letter"]
def d_Joins_is_proper : He.DefD := ⟨("Joins", some "is_proper"), "is_proper", "Joins.is_proper", defArgs s_Joins_is_proper, defBody s_Joins_is_proper, defScope s_Joins_is_proper, [], []⟩
abbrev s_Joins_pieces : Stmt := inClass (top 23) 3
abbrev N_Joins_pieces : List Str := ["self"]
abbrev s_Joins_is_piece : Stmt := inClass (top 23) 4
abbrev N_Joins_is_piece : List Str := ["self", "piece"]
def d_Joins_is_piece : He.DefD := ⟨("Joins", some "is_piece"), "is_piece", "Joins.is_piece", defArgs s_Joins_is_piece, defBody s_Joins_is_piece, defScope s_Joins_is_piece, [], []⟩
abbrev s_Joins_check_piece : Stmt := inClass (top 23) 5
abbrev N_Joins_check_piece : List Str := ["self", "piece"]
def d_Joins_check_piece : He.DefD := ⟨("Joins", some "check_piece"), "check_piece", "Joins.check_piece", defArgs s_Joins_check_piece, defBody s_Joins_check_piece, defScope s_Joins_check_piece, [], []⟩
abbrev s_Joins_text_of : Stmt := inClass (top 23) 6
abbrev N_Joins_text_of : List Str := ["self", "piece"]
def d_Joins_text_of : He.DefD := ⟨("Joins", some "text_of"), "text_of", "Joins.text_of", defArgs s_Joins_text_of, defBody s_Joins_text_of, defScope s_Joins_text_of, [], []⟩
abbrev s_Joins_parts_of : Stmt := inClass (top 23) 7
abbrev N_Joins_parts_of : List Str := ["self", "piece"]
def d_Joins_parts_of : He.DefD := ⟨("Joins", some "parts_of"), "parts_of", "Joins.parts_of", defArgs s_Joins_parts_of, defBody s_Joins_parts_of, defScope s_Joins_parts_of, [], []⟩
abbrev s_Joins_piece_of : Stmt := inClass (top 23) 9
abbrev N_Joins_piece_of : List Str := ["self", "text"]
def d_Joins_piece_of : He.DefD := ⟨("Joins", some "piece_of"), "piece_of", "Joins.piece_of", defArgs s_Joins_piece_of, defBody s_Joins_piece_of, defScope s_Joins_piece_of, [], []⟩
abbrev s_letters_of : Stmt := top 25
abbrev N_letters_of : List Str := ["joins", "text", "row", "at", "sign"]
def d_letters_of : He.DefD := ⟨("letters_of", none), "letters_of", "letters_of", defArgs s_letters_of, defBody s_letters_of, defScope s_letters_of, [], []⟩
abbrev s_cut : Stmt := top 26
abbrev N_cut : List Str := ["joins", "text"]
def d_cut : He.DefD := ⟨("cut", none), "cut", "cut", defArgs s_cut, defBody s_cut, defScope s_cut, [], []⟩
abbrev s_text_of_row : Stmt := top 27
abbrev N_text_of_row : List Str := ["joins", "row", "piece"]
def d_text_of_row : He.DefD := ⟨("text_of_row", none), "text_of_row", "text_of_row", defArgs s_text_of_row, defBody s_text_of_row, defScope s_text_of_row, [], []⟩
abbrev s_is_cut : Stmt := top 29
abbrev N_is_cut : List Str := ["joins", "row", "piece", "at"]
def d_is_cut : He.DefD := ⟨("is_cut", none), "is_cut", "is_cut", defArgs s_is_cut, defBody s_is_cut, defScope s_is_cut, [], []⟩
abbrev s_Standings_init : Stmt := inClass (top 31) 0
abbrev N_Standings_init : List Str := ["self", "joins", "machine"]
def d_Standings_init : He.DefD := ⟨("Standings", some "__init__"), "__init__", "Standings.__init__", defArgs s_Standings_init, defBody s_Standings_init, defScope s_Standings_init, [], []⟩
abbrev s_Standings_steps : Stmt := inClass (top 31) 1
abbrev N_Standings_steps : List Str := ["self", "standing", "last", "state", "found", "piece", "target"]
def d_Standings_steps : He.DefD := ⟨("Standings", some "steps"), "steps", "Standings.steps", defArgs s_Standings_steps, defBody s_Standings_steps, defScope s_Standings_steps, [], []⟩
abbrev s_Standings_is_end : Stmt := inClass (top 31) 2
abbrev N_Standings_is_end : List Str := ["self", "standing"]
def d_Standings_is_end : He.DefD := ⟨("Standings", some "is_end"), "is_end", "Standings.is_end", defArgs s_Standings_is_end, defBody s_Standings_is_end, defScope s_Standings_is_end, [], []⟩
abbrev s_Standings_reached : Stmt := inClass (top 31) 3
abbrev N_Standings_reached : List Str := ["self", "start", "found", "places", "at", "_", "target"]
def d_Standings_reached : He.DefD := ⟨("Standings", some "reached"), "reached", "Standings.reached", defArgs s_Standings_reached, defBody s_Standings_reached, defScope s_Standings_reached, [], []⟩
abbrev s_Standings_alive : Stmt := inClass (top 31) 4
abbrev N_Standings_alive : List Str := ["self", "start", "behind", "found", "work", "standing", "_", "target", "row"]
def d_Standings_alive : He.DefD := ⟨("Standings", some "alive"), "alive", "Standings.alive", defArgs s_Standings_alive, defBody s_Standings_alive, defScope s_Standings_alive, [], []⟩
abbrev s_standing_of : Stmt := top 32
abbrev N_standing_of : List Str := ["joins", "machine", "row", "state"]
def d_standing_of : He.DefD := ⟨("standing_of", none), "standing_of", "standing_of", defArgs s_standing_of, defBody s_standing_of, defScope s_standing_of, [], []⟩
abbrev s_lets : Stmt := top 33
abbrev N_lets : List Str := ["joins", "machine", "row", "start", "standings", "alive", "piece", "target"]
def d_lets : He.DefD := ⟨("lets", none), "lets", "lets", defArgs s_lets, defBody s_lets, defScope s_lets, [], []⟩
abbrev s_may_end : Stmt := top 34
abbrev N_may_end : List Str := ["joins", "machine", "row", "start"]
def d_may_end : He.DefD := ⟨("may_end", none), "may_end", "may_end", defArgs s_may_end, defBody s_may_end, defScope s_may_end, [], []⟩
abbrev s_shortest_end : Stmt := top 35
abbrev N_shortest_end : List Str := ["joins", "machine", "row", "start", "standings", "found", "seen", "at", "standing", "way", "piece", "target"]
def d_shortest_end : He.DefD := ⟨("shortest_end", none), "shortest_end", "shortest_end", defArgs s_shortest_end, defBody s_shortest_end, defScope s_shortest_end, [], []⟩
abbrev s_Machine_init : Stmt := inClass (top 37) 0
abbrev N_Machine_init : List Str := ["self", "alphabet", "start", "ends", "steps", "row"]
def d_Machine_init : He.DefD := ⟨("Machine", some "__init__"), "__init__", "Machine.__init__", defArgs s_Machine_init, defBody s_Machine_init, defScope s_Machine_init, [], []⟩
abbrev s_Machine_after : Stmt := inClass (top 37) 2
abbrev N_Machine_after : List Str := ["self", "state", "text", "at", "sign"]
def d_Machine_after : He.DefD := ⟨("Machine", some "after"), "after", "Machine.after", defArgs s_Machine_after, defBody s_Machine_after, defScope s_Machine_after, [], []⟩
abbrev s_L_mixed : Stmt := top 39
abbrev N_L_mixed : List Str := ["_law_number", "_law_turn", "_law_first", "_law_second"]
def d_L_mixed : He.DefD := ⟨("_law_mixed", none), "_law_mixed", "_law_mixed", defArgs s_L_mixed, defBody s_L_mixed, defScope s_L_mixed, [], []⟩
abbrev s_L_tape : Stmt := top 40
abbrev N_L_tape : List Str := ["_law_script"]
def d_L_tape : He.DefD := ⟨("_law_tape", none), "_law_tape", "_law_tape", defArgs s_L_tape, defBody s_L_tape, defScope s_L_tape, [], []⟩
abbrev s_L_draw : Stmt := top 41
abbrev N_L_draw : List Str := ["_law_tape_here", "_law_many", "_law_cell", "_law_digit"]
def d_L_draw : He.DefD := ⟨("_law_draw", none), "_law_draw", "_law_draw", defArgs s_L_draw, defBody s_L_draw, defScope s_L_draw, [], []⟩
abbrev s_L_pick : Stmt := top 42
abbrev N_L_pick : List Str := ["_law_tape_here", "_law_row"]
def d_L_pick : He.DefD := ⟨("_law_pick", none), "_law_pick", "_law_pick", defArgs s_L_pick, defBody s_L_pick, defScope s_L_pick, [], []⟩
abbrev s_L_signs : Stmt := top 43
abbrev N_L_signs : List Str := ["_law_signs_here"]
def d_L_signs : He.DefD := ⟨("_law_signs", none), "_law_signs", "_law_signs", defArgs s_L_signs, defBody s_L_signs, defScope s_L_signs, [], []⟩
abbrev s_L_letters : Stmt := top 44
abbrev N_L_letters : List Str := ["_law_tape_here", "_law_many", "_law_chosen", "_law_first", "_law_k", "_law_place"]
def d_L_letters : He.DefD := ⟨("_law_letters", none), "_law_letters", "_law_letters", defArgs s_L_letters, defBody s_L_letters, defScope s_L_letters, [], []⟩
abbrev s_L_cut : Stmt := top 45
abbrev N_L_cut : List Str := ["_law_joins_here", "_law_text", "_law_row", "_law_many", "_law_k", "_law_best", "_law_at", "_law_rank", "_law_sign"]
def d_L_cut : He.DefD := ⟨("_law_cut", none), "_law_cut", "_law_cut", defArgs s_L_cut, defBody s_L_cut, defScope s_L_cut, [], []⟩
abbrev s_L_joins : Stmt := top 46
abbrev N_L_joins : List Str := ["_law_tape_here", "_law_most", "_law_tries", "_law_size", "_law_letters_here", "_law_joins_here", "_law_k", "_law_newest", "_law_left", "_law_right", "_law_text"]
def d_L_joins : He.DefD := ⟨("_law_joins", none), "_law_joins", "_law_joins", defArgs s_L_joins, defBody s_L_joins, defScope s_L_joins, [], []⟩
abbrev s_L_machine : Stmt := top 47
abbrev N_L_machine : List Str := ["_law_tape_here", "_law_letters_here", "_law_most", "_law_many", "_law_steps_here", "_law_state", "_law_entry", "_law_ends", "_law_sign", "_law_to"]
def d_L_machine : He.DefD := ⟨("_law_machine", none), "_law_machine", "_law_machine", defArgs s_L_machine, defBody s_L_machine, defScope s_L_machine, [], []⟩
abbrev s_L_chain : Stmt := top 48
abbrev N_L_chain : List Str := ["_law_tape_here", "_law_letters_here", "_law_many", "_law_steps_here", "_law_state", "_law_sign"]
def d_L_chain : He.DefD := ⟨("_law_chain", none), "_law_chain", "_law_chain", defArgs s_L_chain, defBody s_L_chain, defScope s_L_chain, [], []⟩
abbrev s_L_after : Stmt := top 49
abbrev N_L_after : List Str := ["_law_machine_here", "_law_state", "_law_text", "_law_sign"]
def d_L_after : He.DefD := ⟨("_law_after", none), "_law_after", "_law_after", defArgs s_L_after, defBody s_L_after, defScope s_L_after, [], []⟩
abbrev s_L_steps : Stmt := top 50
abbrev N_L_steps : List Str := ["_law_joins_here", "_law_machine_here", "_law_steps_here", "_law_text", "_law_state"]
def d_L_steps : He.DefD := ⟨("_law_steps", none), "_law_steps", "_law_steps", defArgs s_L_steps, defBody s_L_steps, defScope s_L_steps, [], []⟩
abbrev s_L_follow : Stmt := top 51
abbrev N_L_follow : List Str := ["_law_joins_here", "_law_texts", "_law_follow_here", "_law_left", "_law_right"]
def d_L_follow : He.DefD := ⟨("_law_follow", none), "_law_follow", "_law_follow", defArgs s_L_follow, defBody s_L_follow, defScope s_L_follow, [], []⟩
abbrev s_L_distances : Stmt := top 52
abbrev N_L_distances : List Str := ["_law_machine_here", "_law_follow_here", "_law_steps_here", "_law_far", "_law_left", "_law_piece", "_law_state", "_law_k", "_law_found", "_law_pair", "_law_nearer", "_law_other"]
def d_L_distances : He.DefD := ⟨("_law_distances", none), "_law_distances", "_law_distances", defArgs s_L_distances, defBody s_L_distances, defScope s_L_distances, [], []⟩
abbrev s_L_choices : Stmt := top 53
abbrev N_L_choices : List Str := ["_law_world_here", "_law_row", "_law_state", "_law_piece"]
def d_L_choices : He.DefD := ⟨("_law_choices", none), "_law_choices", "_law_choices", defArgs s_L_choices, defBody s_L_choices, defScope s_L_choices, [], []⟩
abbrev s_L_lets : Stmt := top 54
abbrev N_L_lets : List Str := ["_law_world_here", "_law_row", "_law_pieces", "_law_state", "_law_piece"]
def d_L_lets : He.DefD := ⟨("_law_lets", none), "_law_lets", "_law_lets", defArgs s_L_lets, defBody s_L_lets, defScope s_L_lets, [], []⟩
abbrev s_L_world : Stmt := top 55
abbrev N_L_world : List Str := ["_law_joins_here", "_law_machine_here", "_law_follow_here", "_law_world_here"]
def d_L_world : He.DefD := ⟨("_law_world", none), "_law_world", "_law_world", defArgs s_L_world, defBody s_L_world, defScope s_L_world, [], []⟩
abbrev s_L_worlds : Stmt := top 56
abbrev N_L_worlds : List Str := ["_law_tape_here", "_law_joins_here", "_law_many", "_law_first", "_law_k", "_law_machines", "_law_follow_here", "_law_worlds_here"]
def d_L_worlds : He.DefD := ⟨("_law_worlds", none), "_law_worlds", "_law_worlds", defArgs s_L_worlds, defBody s_L_worlds, defScope s_L_worlds, [], []⟩
abbrev s_L_same : Stmt := top 57
abbrev N_L_same : List Str := ["_law_actual", "_law_due", "_law_k"]
def d_L_same : He.DefD := ⟨("_law_same", none), "_law_same", "_law_same", defArgs s_L_same, defBody s_L_same, defScope s_L_same, [], []⟩
abbrev s_L_hopeful : Stmt := top 58
abbrev N_L_hopeful : List Str := ["_law_machine_here", "_law_hopeful_here", "_law_state", "_law_k", "_law_to"]
def d_L_hopeful : He.DefD := ⟨("_law_hopeful", none), "_law_hopeful", "_law_hopeful", defArgs s_L_hopeful, defBody s_L_hopeful, defScope s_L_hopeful, [], []⟩
abbrev s_L_taken_text : Stmt := top 59
abbrev N_L_taken_text : List Str := ["_law_tape_here", "_law_machine_here", "_law_hopeful_here", "_law_state", "_law_text", "_law_most", "_law_k", "_law_entry", "_law_places", "_law_at"]
def d_L_taken_text : He.DefD := ⟨("_law_taken_text", none), "_law_taken_text", "_law_taken_text", defArgs s_L_taken_text, defBody s_L_taken_text, defScope s_L_taken_text, [], []⟩
abbrev s_L_led : Stmt := top 60
abbrev N_L_led : List Str := ["_law_tape_here", "_law_world_here", "_law_joins_here", "_law_machine_here", "_law_row", "_law_k", "_law_told", "_law_due", "_law_piece", "_law_rest", "_law_whole", "_law_text", "_law_other"]
def d_L_led : He.DefD := ⟨("_law_led", none), "_law_led", "_law_led", defArgs s_L_led, defBody s_L_led, defScope s_L_led, [], []⟩
abbrev s_law : Stmt := top 61
abbrev N_law : List Str := ["_law_script", "_law_tape_here", "_law_worlds_here", "_law_k", "_law_world_here", "_law_joins_here", "_law_machine_here", "_law_text", "_law_row", "_law_at"]
def d_law : He.DefD := ⟨("law", none), "law", "law", defArgs s_law, defBody s_law, defScope s_law, [], []⟩
def fnL : List He.DefD := [d_right_spine, d_left_spine, d_crossing, d_side_by_side, d_is_between, d_is_alphabet, d_checked_alphabet, d_put_together, d_lowest_pair, d_cut_row, d_Joins_init, d_Joins_take, d_Joins_is_proper, d_Joins_is_piece, d_Joins_check_piece, d_Joins_text_of, d_Joins_parts_of, d_Joins_piece_of, d_letters_of, d_cut, d_text_of_row, d_is_cut, d_Standings_init, d_Standings_steps, d_Standings_is_end, d_Standings_reached, d_Standings_alive, d_standing_of, d_lets, d_may_end, d_shortest_end, d_Machine_init, d_Machine_after, d_L_mixed, d_L_tape, d_L_draw, d_L_pick, d_L_signs, d_L_letters, d_L_cut, d_L_joins, d_L_machine, d_L_chain, d_L_after, d_L_steps, d_L_follow, d_L_distances, d_L_choices, d_L_lets, d_L_world, d_L_worlds, d_L_same, d_L_hopeful, d_L_taken_text, d_L_led, d_law]
def fa0 : List He.Fa := [.glo "JoinError", .glo "InvalidAlphabet", .glo "NotProper", .glo "NoPiece", .glo "UnknownSign", .glo "InvalidNumber", .glo "NotCut", .glo "right_spine", .glo "left_spine", .glo "crossing", .glo "side_by_side", .int "MOST_LETTERS" 30, .int "LONGEST_PIECE" 40, .glo "is_between", .glo "is_alphabet", .glo "checked_alphabet", .glo "put_together", .glo "lowest_pair", .glo "cut_row", .glo "Joins", .glo "letters_of", .glo "cut", .glo "text_of_row", .glo "is_cut", .glo "Standings", .glo "standing_of", .glo "lets", .glo "may_end", .glo "shortest_end", .glo "Machine"]
def fa1 : List He.Fa := [.glo "_law_mixed", .glo "_law_tape", .glo "_law_draw", .glo "_law_pick", .glo "_law_signs", .glo "_law_letters", .glo "_law_cut", .glo "_law_joins", .glo "_law_machine", .glo "_law_chain", .glo "_law_after", .glo "_law_steps", .glo "_law_follow", .glo "_law_distances", .glo "_law_choices", .glo "_law_lets", .glo "_law_world", .glo "_law_worlds", .glo "_law_same", .glo "_law_hopeful", .glo "_law_taken_text", .glo "_law_led", .glo "law", .free "bool", .free "enumerate", .free "int", .free "isinstance", .free "iter", .free "len", .free "list"]
def fa2 : List He.Fa := [.free "max", .free "range", .free "sorted", .free "str", .free "tuple", .cls "Joins", .mkr "Joins", .noat "Joins" "alphabet", .noat "Joins" "pairs", .noat "Joins" "texts", .noat "Joins" "ranks", .noat "Joins" "numbers", .noat "Joins" "longest", .meth "Joins" "take", .meth "Joins" "is_proper", .meth "Joins" "is_piece", .meth "Joins" "check_piece", .meth "Joins" "text_of", .meth "Joins" "parts_of", .meth "Joins" "piece_of", .cls "Standings", .mkr "Standings", .noat "Standings" "joins", .noat "Standings" "machine", .noat "Standings" "known", .meth "Standings" "steps", .meth "Standings" "is_end", .meth "Standings" "reached", .meth "Standings" "alive", .cls "Machine"]
def fa3 : List He.Fa := [.mkr "Machine", .noat "Machine" "alphabet", .noat "Machine" "start", .noat "Machine" "ends", .noat "Machine" "steps", .meth "Machine" "after"]
def faL : List He.Fa := fa0 ++ fa1 ++ fa2 ++ fa3
abbrev CJ (K : PySem.W.Frag) : Addr := He.ga K "Joins"
abbrev CD (K : PySem.W.Frag) : Addr := He.ga K "Standings"
abbrev CM (K : PySem.W.Frag) : Addr := He.ga K "Machine"
/-- what the top has left -/
structure Txt (K : PySem.W.Frag) (mg : Str → Option Value) : Prop where
  says : He.SaysD faL fnL K
  hp : ∃ h : Heap, K.In h ∧ h.Ns mainGlobals mg
  prop : ∃ (p g : Addr) (fd : FuncData), PropOf K (CJ K) "pieces" p g ∧ FunD K "pieces" "Joins.pieces" (defArgs s_Joins_pieces) (defBody s_Joins_pieces) (defScope s_Joins_pieces) [] [] g fd
/-- a def's body comes to its promise -/
abbrev BodyOk (P : Program) (w : World) (K : PySem.W.Frag) (mg : Str → Option Value) (base : Heap) (N : List Str) (qual : Str) (st : Stmt) (k : Nat) (sp : Sp) : Prop :=
  ∀ (f : Addr) (cdv : Value) (A : Around) (outer : List Env) (s : Shared) (H : Hp) (vs : List V) (Q : VK) (E : XK), Room k (A.deeper (envOfC qual (defScope st) s.heap.objs.size f cdv)) → sp vs H Q E →
    ∃ t, PSs (cxOf CX0 P w K mg base N qual (defScope st) f cdv A outer s H E).nox (defBody st) t ∧ t { nx := fun _ H' => Q .non H', rt := Q } (start N vs) H
theorem fn_body {P : Program} {w : World} {K : PySem.W.Frag} {mg : Str → Option Value} {base : Heap} {x qual : Str} {st : Stmt} {N ps : List Str} {k : Nat} {sp : Sp} {f : Addr} {fd : FuncData} (F : FunD K x qual (defArgs st) (defBody st) (defScope st) [] [] f fd) (S : FnScope N ps (defScope st))
    (hl : ∀ vs H Q E, sp vs H Q E → vs.length = ps.length) (hb : BodyOk P w K mg base N qual st k sp) : FnOk P w K mg base CX0 (k + 1) f fd ps sp :=
  F.ok S hl fun cdv A outer s H vs Q E hr h => by
    obtain ⟨t, h1, h2⟩ := hb f cdv A outer s H vs Q E hr h
    exact ⟨t, h1.nox, h2⟩
section
variable {P : Program} {w : World} {K : PySem.W.Frag} {mg : Str → Option Value} {base : Heap}
theorem Txt.g_JoinError (T : Txt K mg) : mg "JoinError" = some (.ref (He.ga K "JoinError")) := by
  obtain ⟨h, X, G⟩ := T.hp
  exact He.glo_ok X G (T.says.fact 0 (by rfl))
theorem Txt.g_InvalidAlphabet (T : Txt K mg) : mg "InvalidAlphabet" = some (.ref (He.ga K "InvalidAlphabet")) := by
  obtain ⟨h, X, G⟩ := T.hp
  exact He.glo_ok X G (T.says.fact 1 (by rfl))
theorem Txt.g_NotProper (T : Txt K mg) : mg "NotProper" = some (.ref (He.ga K "NotProper")) := by
  obtain ⟨h, X, G⟩ := T.hp
  exact He.glo_ok X G (T.says.fact 2 (by rfl))
theorem Txt.g_NoPiece (T : Txt K mg) : mg "NoPiece" = some (.ref (He.ga K "NoPiece")) := by
  obtain ⟨h, X, G⟩ := T.hp
  exact He.glo_ok X G (T.says.fact 3 (by rfl))
theorem Txt.g_UnknownSign (T : Txt K mg) : mg "UnknownSign" = some (.ref (He.ga K "UnknownSign")) := by
  obtain ⟨h, X, G⟩ := T.hp
  exact He.glo_ok X G (T.says.fact 4 (by rfl))
theorem Txt.g_InvalidNumber (T : Txt K mg) : mg "InvalidNumber" = some (.ref (He.ga K "InvalidNumber")) := by
  obtain ⟨h, X, G⟩ := T.hp
  exact He.glo_ok X G (T.says.fact 5 (by rfl))
theorem Txt.g_NotCut (T : Txt K mg) : mg "NotCut" = some (.ref (He.ga K "NotCut")) := by
  obtain ⟨h, X, G⟩ := T.hp
  exact He.glo_ok X G (T.says.fact 6 (by rfl))
theorem Txt.g_right_spine (T : Txt K mg) : mg "right_spine" = some (.ref (He.ga K "right_spine")) := by
  obtain ⟨h, X, G⟩ := T.hp
  exact He.glo_ok X G (T.says.fact 7 (by rfl))
theorem Txt.g_left_spine (T : Txt K mg) : mg "left_spine" = some (.ref (He.ga K "left_spine")) := by
  obtain ⟨h, X, G⟩ := T.hp
  exact He.glo_ok X G (T.says.fact 8 (by rfl))
theorem Txt.g_crossing (T : Txt K mg) : mg "crossing" = some (.ref (He.ga K "crossing")) := by
  obtain ⟨h, X, G⟩ := T.hp
  exact He.glo_ok X G (T.says.fact 9 (by rfl))
theorem Txt.g_side_by_side (T : Txt K mg) : mg "side_by_side" = some (.ref (He.ga K "side_by_side")) := by
  obtain ⟨h, X, G⟩ := T.hp
  exact He.glo_ok X G (T.says.fact 10 (by rfl))
theorem Txt.MOST_LETTERS (T : Txt K mg) : ∃ t, mg "MOST_LETTERS" = some (.int 30 t) := by
  obtain ⟨h, X, G⟩ := T.hp
  exact He.int_ok X G (T.says.fact 11 (by rfl))
theorem Txt.LONGEST_PIECE (T : Txt K mg) : ∃ t, mg "LONGEST_PIECE" = some (.int 40 t) := by
  obtain ⟨h, X, G⟩ := T.hp
  exact He.int_ok X G (T.says.fact 12 (by rfl))
theorem Txt.g_is_between (T : Txt K mg) : mg "is_between" = some (.ref (He.ga K "is_between")) := by
  obtain ⟨h, X, G⟩ := T.hp
  exact He.glo_ok X G (T.says.fact 13 (by rfl))
theorem Txt.g_is_alphabet (T : Txt K mg) : mg "is_alphabet" = some (.ref (He.ga K "is_alphabet")) := by
  obtain ⟨h, X, G⟩ := T.hp
  exact He.glo_ok X G (T.says.fact 14 (by rfl))
theorem Txt.g_checked_alphabet (T : Txt K mg) : mg "checked_alphabet" = some (.ref (He.ga K "checked_alphabet")) := by
  obtain ⟨h, X, G⟩ := T.hp
  exact He.glo_ok X G (T.says.fact 15 (by rfl))
theorem Txt.g_put_together (T : Txt K mg) : mg "put_together" = some (.ref (He.ga K "put_together")) := by
  obtain ⟨h, X, G⟩ := T.hp
  exact He.glo_ok X G (T.says.fact 16 (by rfl))
theorem Txt.g_lowest_pair (T : Txt K mg) : mg "lowest_pair" = some (.ref (He.ga K "lowest_pair")) := by
  obtain ⟨h, X, G⟩ := T.hp
  exact He.glo_ok X G (T.says.fact 17 (by rfl))
theorem Txt.g_cut_row (T : Txt K mg) : mg "cut_row" = some (.ref (He.ga K "cut_row")) := by
  obtain ⟨h, X, G⟩ := T.hp
  exact He.glo_ok X G (T.says.fact 18 (by rfl))
theorem Txt.g_Joins (T : Txt K mg) : mg "Joins" = some (.ref (He.ga K "Joins")) := by
  obtain ⟨h, X, G⟩ := T.hp
  exact He.glo_ok X G (T.says.fact 19 (by rfl))
theorem Txt.g_letters_of (T : Txt K mg) : mg "letters_of" = some (.ref (He.ga K "letters_of")) := by
  obtain ⟨h, X, G⟩ := T.hp
  exact He.glo_ok X G (T.says.fact 20 (by rfl))
theorem Txt.g_cut (T : Txt K mg) : mg "cut" = some (.ref (He.ga K "cut")) := by
  obtain ⟨h, X, G⟩ := T.hp
  exact He.glo_ok X G (T.says.fact 21 (by rfl))
theorem Txt.g_text_of_row (T : Txt K mg) : mg "text_of_row" = some (.ref (He.ga K "text_of_row")) := by
  obtain ⟨h, X, G⟩ := T.hp
  exact He.glo_ok X G (T.says.fact 22 (by rfl))
theorem Txt.g_is_cut (T : Txt K mg) : mg "is_cut" = some (.ref (He.ga K "is_cut")) := by
  obtain ⟨h, X, G⟩ := T.hp
  exact He.glo_ok X G (T.says.fact 23 (by rfl))
theorem Txt.g_Standings (T : Txt K mg) : mg "Standings" = some (.ref (He.ga K "Standings")) := by
  obtain ⟨h, X, G⟩ := T.hp
  exact He.glo_ok X G (T.says.fact 24 (by rfl))
theorem Txt.g_standing_of (T : Txt K mg) : mg "standing_of" = some (.ref (He.ga K "standing_of")) := by
  obtain ⟨h, X, G⟩ := T.hp
  exact He.glo_ok X G (T.says.fact 25 (by rfl))
theorem Txt.g_lets (T : Txt K mg) : mg "lets" = some (.ref (He.ga K "lets")) := by
  obtain ⟨h, X, G⟩ := T.hp
  exact He.glo_ok X G (T.says.fact 26 (by rfl))
theorem Txt.g_may_end (T : Txt K mg) : mg "may_end" = some (.ref (He.ga K "may_end")) := by
  obtain ⟨h, X, G⟩ := T.hp
  exact He.glo_ok X G (T.says.fact 27 (by rfl))
theorem Txt.g_shortest_end (T : Txt K mg) : mg "shortest_end" = some (.ref (He.ga K "shortest_end")) := by
  obtain ⟨h, X, G⟩ := T.hp
  exact He.glo_ok X G (T.says.fact 28 (by rfl))
theorem Txt.g_Machine (T : Txt K mg) : mg "Machine" = some (.ref (He.ga K "Machine")) := by
  obtain ⟨h, X, G⟩ := T.hp
  exact He.glo_ok X G (T.says.fact 29 (by rfl))
theorem Txt.g_L_mixed (T : Txt K mg) : mg "_law_mixed" = some (.ref (He.ga K "_law_mixed")) := by
  obtain ⟨h, X, G⟩ := T.hp
  exact He.glo_ok X G (T.says.fact 30 (by rfl))
theorem Txt.g_L_tape (T : Txt K mg) : mg "_law_tape" = some (.ref (He.ga K "_law_tape")) := by
  obtain ⟨h, X, G⟩ := T.hp
  exact He.glo_ok X G (T.says.fact 31 (by rfl))
theorem Txt.g_L_draw (T : Txt K mg) : mg "_law_draw" = some (.ref (He.ga K "_law_draw")) := by
  obtain ⟨h, X, G⟩ := T.hp
  exact He.glo_ok X G (T.says.fact 32 (by rfl))
theorem Txt.g_L_pick (T : Txt K mg) : mg "_law_pick" = some (.ref (He.ga K "_law_pick")) := by
  obtain ⟨h, X, G⟩ := T.hp
  exact He.glo_ok X G (T.says.fact 33 (by rfl))
theorem Txt.g_L_signs (T : Txt K mg) : mg "_law_signs" = some (.ref (He.ga K "_law_signs")) := by
  obtain ⟨h, X, G⟩ := T.hp
  exact He.glo_ok X G (T.says.fact 34 (by rfl))
theorem Txt.g_L_letters (T : Txt K mg) : mg "_law_letters" = some (.ref (He.ga K "_law_letters")) := by
  obtain ⟨h, X, G⟩ := T.hp
  exact He.glo_ok X G (T.says.fact 35 (by rfl))
theorem Txt.g_L_cut (T : Txt K mg) : mg "_law_cut" = some (.ref (He.ga K "_law_cut")) := by
  obtain ⟨h, X, G⟩ := T.hp
  exact He.glo_ok X G (T.says.fact 36 (by rfl))
theorem Txt.g_L_joins (T : Txt K mg) : mg "_law_joins" = some (.ref (He.ga K "_law_joins")) := by
  obtain ⟨h, X, G⟩ := T.hp
  exact He.glo_ok X G (T.says.fact 37 (by rfl))
theorem Txt.g_L_machine (T : Txt K mg) : mg "_law_machine" = some (.ref (He.ga K "_law_machine")) := by
  obtain ⟨h, X, G⟩ := T.hp
  exact He.glo_ok X G (T.says.fact 38 (by rfl))
theorem Txt.g_L_chain (T : Txt K mg) : mg "_law_chain" = some (.ref (He.ga K "_law_chain")) := by
  obtain ⟨h, X, G⟩ := T.hp
  exact He.glo_ok X G (T.says.fact 39 (by rfl))
theorem Txt.g_L_after (T : Txt K mg) : mg "_law_after" = some (.ref (He.ga K "_law_after")) := by
  obtain ⟨h, X, G⟩ := T.hp
  exact He.glo_ok X G (T.says.fact 40 (by rfl))
theorem Txt.g_L_steps (T : Txt K mg) : mg "_law_steps" = some (.ref (He.ga K "_law_steps")) := by
  obtain ⟨h, X, G⟩ := T.hp
  exact He.glo_ok X G (T.says.fact 41 (by rfl))
theorem Txt.g_L_follow (T : Txt K mg) : mg "_law_follow" = some (.ref (He.ga K "_law_follow")) := by
  obtain ⟨h, X, G⟩ := T.hp
  exact He.glo_ok X G (T.says.fact 42 (by rfl))
theorem Txt.g_L_distances (T : Txt K mg) : mg "_law_distances" = some (.ref (He.ga K "_law_distances")) := by
  obtain ⟨h, X, G⟩ := T.hp
  exact He.glo_ok X G (T.says.fact 43 (by rfl))
theorem Txt.g_L_choices (T : Txt K mg) : mg "_law_choices" = some (.ref (He.ga K "_law_choices")) := by
  obtain ⟨h, X, G⟩ := T.hp
  exact He.glo_ok X G (T.says.fact 44 (by rfl))
theorem Txt.g_L_lets (T : Txt K mg) : mg "_law_lets" = some (.ref (He.ga K "_law_lets")) := by
  obtain ⟨h, X, G⟩ := T.hp
  exact He.glo_ok X G (T.says.fact 45 (by rfl))
theorem Txt.g_L_world (T : Txt K mg) : mg "_law_world" = some (.ref (He.ga K "_law_world")) := by
  obtain ⟨h, X, G⟩ := T.hp
  exact He.glo_ok X G (T.says.fact 46 (by rfl))
theorem Txt.g_L_worlds (T : Txt K mg) : mg "_law_worlds" = some (.ref (He.ga K "_law_worlds")) := by
  obtain ⟨h, X, G⟩ := T.hp
  exact He.glo_ok X G (T.says.fact 47 (by rfl))
theorem Txt.g_L_same (T : Txt K mg) : mg "_law_same" = some (.ref (He.ga K "_law_same")) := by
  obtain ⟨h, X, G⟩ := T.hp
  exact He.glo_ok X G (T.says.fact 48 (by rfl))
theorem Txt.g_L_hopeful (T : Txt K mg) : mg "_law_hopeful" = some (.ref (He.ga K "_law_hopeful")) := by
  obtain ⟨h, X, G⟩ := T.hp
  exact He.glo_ok X G (T.says.fact 49 (by rfl))
theorem Txt.g_L_taken_text (T : Txt K mg) : mg "_law_taken_text" = some (.ref (He.ga K "_law_taken_text")) := by
  obtain ⟨h, X, G⟩ := T.hp
  exact He.glo_ok X G (T.says.fact 50 (by rfl))
theorem Txt.g_L_led (T : Txt K mg) : mg "_law_led" = some (.ref (He.ga K "_law_led")) := by
  obtain ⟨h, X, G⟩ := T.hp
  exact He.glo_ok X G (T.says.fact 51 (by rfl))
theorem Txt.g_law (T : Txt K mg) : mg "law" = some (.ref (He.ga K "law")) := by
  obtain ⟨h, X, G⟩ := T.hp
  exact He.glo_ok X G (T.says.fact 52 (by rfl))
theorem Txt.b_bool (T : Txt K mg) : mg "bool" = none := by
  obtain ⟨h, X, G⟩ := T.hp
  exact He.free_ok X G (T.says.fact 53 (by rfl))
theorem Txt.b_enumerate (T : Txt K mg) : mg "enumerate" = none := by
  obtain ⟨h, X, G⟩ := T.hp
  exact He.free_ok X G (T.says.fact 54 (by rfl))
theorem Txt.b_int (T : Txt K mg) : mg "int" = none := by
  obtain ⟨h, X, G⟩ := T.hp
  exact He.free_ok X G (T.says.fact 55 (by rfl))
theorem Txt.b_isinstance (T : Txt K mg) : mg "isinstance" = none := by
  obtain ⟨h, X, G⟩ := T.hp
  exact He.free_ok X G (T.says.fact 56 (by rfl))
theorem Txt.b_iter (T : Txt K mg) : mg "iter" = none := by
  obtain ⟨h, X, G⟩ := T.hp
  exact He.free_ok X G (T.says.fact 57 (by rfl))
theorem Txt.b_len (T : Txt K mg) : mg "len" = none := by
  obtain ⟨h, X, G⟩ := T.hp
  exact He.free_ok X G (T.says.fact 58 (by rfl))
theorem Txt.b_list (T : Txt K mg) : mg "list" = none := by
  obtain ⟨h, X, G⟩ := T.hp
  exact He.free_ok X G (T.says.fact 59 (by rfl))
theorem Txt.b_max (T : Txt K mg) : mg "max" = none := by
  obtain ⟨h, X, G⟩ := T.hp
  exact He.free_ok X G (T.says.fact 60 (by rfl))
theorem Txt.b_range (T : Txt K mg) : mg "range" = none := by
  obtain ⟨h, X, G⟩ := T.hp
  exact He.free_ok X G (T.says.fact 61 (by rfl))
theorem Txt.b_sorted (T : Txt K mg) : mg "sorted" = none := by
  obtain ⟨h, X, G⟩ := T.hp
  exact He.free_ok X G (T.says.fact 62 (by rfl))
theorem Txt.b_str (T : Txt K mg) : mg "str" = none := by
  obtain ⟨h, X, G⟩ := T.hp
  exact He.free_ok X G (T.says.fact 63 (by rfl))
theorem Txt.b_tuple (T : Txt K mg) : mg "tuple" = none := by
  obtain ⟨h, X, G⟩ := T.hp
  exact He.free_ok X G (T.says.fact 64 (by rfl))
theorem Txt.cls_J (T : Txt K mg) : Cls K (CJ K) := He.cls_ok (T.says.fact 65 (by rfl))
theorem Txt.mkr_J (T : Txt K mg) : Mk K (CJ K) (He.ma K (CJ K) "__init__") := He.mkr_ok (T.says.fact 66 (by rfl))
theorem Txt.no_J_alphabet (T : Txt K mg) : NoAttr K (CJ K) "alphabet" := He.noat_ok (T.says.fact 67 (by rfl))
theorem Txt.no_J_pairs (T : Txt K mg) : NoAttr K (CJ K) "pairs" := He.noat_ok (T.says.fact 68 (by rfl))
theorem Txt.no_J_texts (T : Txt K mg) : NoAttr K (CJ K) "texts" := He.noat_ok (T.says.fact 69 (by rfl))
theorem Txt.no_J_ranks (T : Txt K mg) : NoAttr K (CJ K) "ranks" := He.noat_ok (T.says.fact 70 (by rfl))
theorem Txt.no_J_numbers (T : Txt K mg) : NoAttr K (CJ K) "numbers" := He.noat_ok (T.says.fact 71 (by rfl))
theorem Txt.no_J_longest (T : Txt K mg) : NoAttr K (CJ K) "longest" := He.noat_ok (T.says.fact 72 (by rfl))
theorem Txt.met_J_take (T : Txt K mg) : Meth K (CJ K) "take" (He.ma K (CJ K) "take") := He.meth_ok (T.says.fact 73 (by rfl))
theorem Txt.met_J_is_proper (T : Txt K mg) : Meth K (CJ K) "is_proper" (He.ma K (CJ K) "is_proper") := He.meth_ok (T.says.fact 74 (by rfl))
theorem Txt.met_J_is_piece (T : Txt K mg) : Meth K (CJ K) "is_piece" (He.ma K (CJ K) "is_piece") := He.meth_ok (T.says.fact 75 (by rfl))
theorem Txt.met_J_check_piece (T : Txt K mg) : Meth K (CJ K) "check_piece" (He.ma K (CJ K) "check_piece") := He.meth_ok (T.says.fact 76 (by rfl))
theorem Txt.met_J_text_of (T : Txt K mg) : Meth K (CJ K) "text_of" (He.ma K (CJ K) "text_of") := He.meth_ok (T.says.fact 77 (by rfl))
theorem Txt.met_J_parts_of (T : Txt K mg) : Meth K (CJ K) "parts_of" (He.ma K (CJ K) "parts_of") := He.meth_ok (T.says.fact 78 (by rfl))
theorem Txt.met_J_piece_of (T : Txt K mg) : Meth K (CJ K) "piece_of" (He.ma K (CJ K) "piece_of") := He.meth_ok (T.says.fact 79 (by rfl))
theorem Txt.cls_D (T : Txt K mg) : Cls K (CD K) := He.cls_ok (T.says.fact 80 (by rfl))
theorem Txt.mkr_D (T : Txt K mg) : Mk K (CD K) (He.ma K (CD K) "__init__") := He.mkr_ok (T.says.fact 81 (by rfl))
theorem Txt.no_D_joins (T : Txt K mg) : NoAttr K (CD K) "joins" := He.noat_ok (T.says.fact 82 (by rfl))
theorem Txt.no_D_machine (T : Txt K mg) : NoAttr K (CD K) "machine" := He.noat_ok (T.says.fact 83 (by rfl))
theorem Txt.no_D_known (T : Txt K mg) : NoAttr K (CD K) "known" := He.noat_ok (T.says.fact 84 (by rfl))
theorem Txt.met_D_steps (T : Txt K mg) : Meth K (CD K) "steps" (He.ma K (CD K) "steps") := He.meth_ok (T.says.fact 85 (by rfl))
theorem Txt.met_D_is_end (T : Txt K mg) : Meth K (CD K) "is_end" (He.ma K (CD K) "is_end") := He.meth_ok (T.says.fact 86 (by rfl))
theorem Txt.met_D_reached (T : Txt K mg) : Meth K (CD K) "reached" (He.ma K (CD K) "reached") := He.meth_ok (T.says.fact 87 (by rfl))
theorem Txt.met_D_alive (T : Txt K mg) : Meth K (CD K) "alive" (He.ma K (CD K) "alive") := He.meth_ok (T.says.fact 88 (by rfl))
theorem Txt.cls_M (T : Txt K mg) : Cls K (CM K) := He.cls_ok (T.says.fact 89 (by rfl))
theorem Txt.mkr_M (T : Txt K mg) : Mk K (CM K) (He.ma K (CM K) "__init__") := He.mkr_ok (T.says.fact 90 (by rfl))
theorem Txt.no_M_alphabet (T : Txt K mg) : NoAttr K (CM K) "alphabet" := He.noat_ok (T.says.fact 91 (by rfl))
theorem Txt.no_M_start (T : Txt K mg) : NoAttr K (CM K) "start" := He.noat_ok (T.says.fact 92 (by rfl))
theorem Txt.no_M_ends (T : Txt K mg) : NoAttr K (CM K) "ends" := He.noat_ok (T.says.fact 93 (by rfl))
theorem Txt.no_M_steps (T : Txt K mg) : NoAttr K (CM K) "steps" := He.noat_ok (T.says.fact 94 (by rfl))
theorem Txt.met_M_after (T : Txt K mg) : Meth K (CM K) "after" (He.ma K (CM K) "after") := He.meth_ok (T.says.fact 95 (by rfl))
theorem sc_right_spine : FnScope N_right_spine ["joins", "piece"] (defScope s_right_spine) := ⟨rfl, rfl, rfl, by decide +kernel, rfl, by decide +kernel, by decide +kernel⟩
theorem mk_right_spine {k : Nat} {sp : Sp} (T : Txt K mg) (hl : ∀ vs H Q E, sp vs H Q E → vs.length = 2) (hb : BodyOk P w K mg base N_right_spine "right_spine" s_right_spine k sp) : DefOk P w K mg base (k + 1) "right_spine" ["joins", "piece"] sp := by
  obtain ⟨fd, F⟩ := T.says.def_ 0 (d := d_right_spine) (by rfl)
  exact ⟨_, fd, fn_body F sc_right_spine hl hb, T.g_right_spine, F.kp, (F.bindsN fun _ _ _ _ _ _ us hl => match us, hl with | [_, _], _ => rfl)⟩
theorem sc_left_spine : FnScope N_left_spine ["joins", "piece"] (defScope s_left_spine) := ⟨rfl, rfl, rfl, by decide +kernel, rfl, by decide +kernel, by decide +kernel⟩
theorem mk_left_spine {k : Nat} {sp : Sp} (T : Txt K mg) (hl : ∀ vs H Q E, sp vs H Q E → vs.length = 2) (hb : BodyOk P w K mg base N_left_spine "left_spine" s_left_spine k sp) : DefOk P w K mg base (k + 1) "left_spine" ["joins", "piece"] sp := by
  obtain ⟨fd, F⟩ := T.says.def_ 1 (d := d_left_spine) (by rfl)
  exact ⟨_, fd, fn_body F sc_left_spine hl hb, T.g_left_spine, F.kp, (F.bindsN fun _ _ _ _ _ _ us hl => match us, hl with | [_, _], _ => rfl)⟩
theorem sc_crossing : FnScope N_crossing ["joins", "left", "right"] (defScope s_crossing) := ⟨rfl, rfl, rfl, by decide +kernel, rfl, by decide +kernel, by decide +kernel⟩
theorem mk_crossing {k : Nat} {sp : Sp} (T : Txt K mg) (hl : ∀ vs H Q E, sp vs H Q E → vs.length = 3) (hb : BodyOk P w K mg base N_crossing "crossing" s_crossing k sp) : DefOk P w K mg base (k + 1) "crossing" ["joins", "left", "right"] sp := by
  obtain ⟨fd, F⟩ := T.says.def_ 2 (d := d_crossing) (by rfl)
  exact ⟨_, fd, fn_body F sc_crossing hl hb, T.g_crossing, F.kp, (F.bindsN fun _ _ _ _ _ _ us hl => match us, hl with | [_, _, _], _ => rfl)⟩
theorem sc_side_by_side : FnScope N_side_by_side ["joins", "left", "right"] (defScope s_side_by_side) := ⟨rfl, rfl, rfl, by decide +kernel, rfl, by decide +kernel, by decide +kernel⟩
theorem mk_side_by_side {k : Nat} {sp : Sp} (T : Txt K mg) (hl : ∀ vs H Q E, sp vs H Q E → vs.length = 3) (hb : BodyOk P w K mg base N_side_by_side "side_by_side" s_side_by_side k sp) : DefOk P w K mg base (k + 1) "side_by_side" ["joins", "left", "right"] sp := by
  obtain ⟨fd, F⟩ := T.says.def_ 3 (d := d_side_by_side) (by rfl)
  exact ⟨_, fd, fn_body F sc_side_by_side hl hb, T.g_side_by_side, F.kp, (F.bindsN fun _ _ _ _ _ _ us hl => match us, hl with | [_, _, _], _ => rfl)⟩
theorem sc_is_between : FnScope N_is_between ["value", "least", "most"] (defScope s_is_between) := ⟨rfl, rfl, rfl, by decide +kernel, rfl, by decide +kernel, by decide +kernel⟩
theorem mk_is_between {k : Nat} {sp : Sp} (T : Txt K mg) (hl : ∀ vs H Q E, sp vs H Q E → vs.length = 3) (hb : BodyOk P w K mg base N_is_between "is_between" s_is_between k sp) : DefOk P w K mg base (k + 1) "is_between" ["value", "least", "most"] sp := by
  obtain ⟨fd, F⟩ := T.says.def_ 4 (d := d_is_between) (by rfl)
  exact ⟨_, fd, fn_body F sc_is_between hl hb, T.g_is_between, F.kp, (F.bindsN fun _ _ _ _ _ _ us hl => match us, hl with | [_, _, _], _ => rfl)⟩
theorem sc_is_alphabet : FnScope N_is_alphabet ["alphabet"] (defScope s_is_alphabet) := ⟨rfl, rfl, rfl, by decide +kernel, rfl, by decide +kernel, by decide +kernel⟩
theorem mk_is_alphabet {k : Nat} {sp : Sp} (T : Txt K mg) (hl : ∀ vs H Q E, sp vs H Q E → vs.length = 1) (hb : BodyOk P w K mg base N_is_alphabet "is_alphabet" s_is_alphabet k sp) : DefOk P w K mg base (k + 1) "is_alphabet" ["alphabet"] sp := by
  obtain ⟨fd, F⟩ := T.says.def_ 5 (d := d_is_alphabet) (by rfl)
  exact ⟨_, fd, fn_body F sc_is_alphabet hl hb, T.g_is_alphabet, F.kp, (F.bindsN fun _ _ _ _ _ _ us hl => match us, hl with | [_], _ => rfl)⟩
theorem sc_checked_alphabet : FnScope N_checked_alphabet ["alphabet"] (defScope s_checked_alphabet) := ⟨rfl, rfl, rfl, by decide +kernel, rfl, by decide +kernel, by decide +kernel⟩
theorem mk_checked_alphabet {k : Nat} {sp : Sp} (T : Txt K mg) (hl : ∀ vs H Q E, sp vs H Q E → vs.length = 1) (hb : BodyOk P w K mg base N_checked_alphabet "checked_alphabet" s_checked_alphabet k sp) : DefOk P w K mg base (k + 1) "checked_alphabet" ["alphabet"] sp := by
  obtain ⟨fd, F⟩ := T.says.def_ 6 (d := d_checked_alphabet) (by rfl)
  exact ⟨_, fd, fn_body F sc_checked_alphabet hl hb, T.g_checked_alphabet, F.kp, (F.bindsN fun _ _ _ _ _ _ us hl => match us, hl with | [_], _ => rfl)⟩
theorem sc_put_together : FnScope N_put_together ["row", "pair", "piece"] (defScope s_put_together) := ⟨rfl, rfl, rfl, by decide +kernel, rfl, by decide +kernel, by decide +kernel⟩
theorem mk_put_together {k : Nat} {sp : Sp} (T : Txt K mg) (hl : ∀ vs H Q E, sp vs H Q E → vs.length = 3) (hb : BodyOk P w K mg base N_put_together "put_together" s_put_together k sp) : DefOk P w K mg base (k + 1) "put_together" ["row", "pair", "piece"] sp := by
  obtain ⟨fd, F⟩ := T.says.def_ 7 (d := d_put_together) (by rfl)
  exact ⟨_, fd, fn_body F sc_put_together hl hb, T.g_put_together, F.kp, (F.bindsN fun _ _ _ _ _ _ us hl => match us, hl with | [_, _, _], _ => rfl)⟩
theorem sc_lowest_pair : FnScope N_lowest_pair ["ranks", "row"] (defScope s_lowest_pair) := ⟨rfl, rfl, rfl, by decide +kernel, rfl, by decide +kernel, by decide +kernel⟩
theorem mk_lowest_pair {k : Nat} {sp : Sp} (T : Txt K mg) (hl : ∀ vs H Q E, sp vs H Q E → vs.length = 2) (hb : BodyOk P w K mg base N_lowest_pair "lowest_pair" s_lowest_pair k sp) : DefOk P w K mg base (k + 1) "lowest_pair" ["ranks", "row"] sp := by
  obtain ⟨fd, F⟩ := T.says.def_ 8 (d := d_lowest_pair) (by rfl)
  exact ⟨_, fd, fn_body F sc_lowest_pair hl hb, T.g_lowest_pair, F.kp, (F.bindsN fun _ _ _ _ _ _ us hl => match us, hl with | [_, _], _ => rfl)⟩
theorem sc_cut_row : FnScope N_cut_row ["ranks", "letters", "row"] (defScope s_cut_row) := ⟨rfl, rfl, rfl, by decide +kernel, rfl, by decide +kernel, by decide +kernel⟩
theorem mk_cut_row {k : Nat} {sp : Sp} (T : Txt K mg) (hl : ∀ vs H Q E, sp vs H Q E → vs.length = 3) (hb : BodyOk P w K mg base N_cut_row "cut_row" s_cut_row k sp) : DefOk P w K mg base (k + 1) "cut_row" ["ranks", "letters", "row"] sp := by
  obtain ⟨fd, F⟩ := T.says.def_ 9 (d := d_cut_row) (by rfl)
  exact ⟨_, fd, fn_body F sc_cut_row hl hb, T.g_cut_row, F.kp, (F.bindsN fun _ _ _ _ _ _ us hl => match us, hl with | [_, _, _], _ => rfl)⟩
theorem sc_Joins_init : FnScope N_Joins_init ["self", "alphabet", "pairs"] (defScope s_Joins_init) := ⟨rfl, rfl, rfl, by decide +kernel, rfl, by decide +kernel, by decide +kernel⟩
theorem mk_Joins_init {k : Nat} {sp : Sp} (T : Txt K mg) (hl : ∀ vs H Q E, sp vs H Q E → vs.length = 3) (hb : BodyOk P w K mg base N_Joins_init "Joins.__init__" s_Joins_init k sp) : NewOk P w K mg base (k + 1) (CJ K) "Joins" ["self", "alphabet", "pairs"] sp := by
  obtain ⟨fd, F⟩ := T.says.def_ 10 (d := d_Joins_init) (by rfl)
  exact ⟨_, fd, fn_body F sc_Joins_init hl hb, T.mkr_J, T.g_Joins, (F.bindsN fun _ _ _ _ _ _ us hl => match us, hl with | [_, _, _], _ => rfl)⟩
theorem sc_Joins_take : FnScope N_Joins_take ["self", "pair"] (defScope s_Joins_take) := ⟨rfl, rfl, rfl, by decide +kernel, rfl, by decide +kernel, by decide +kernel⟩
theorem mk_Joins_take {k : Nat} {sp : Sp} (T : Txt K mg) (hl : ∀ vs H Q E, sp vs H Q E → vs.length = 2) (hb : BodyOk P w K mg base N_Joins_take "Joins.take" s_Joins_take k sp) : MetOk P w K mg base (k + 1) (CJ K) "take" ["self", "pair"] sp := by
  obtain ⟨fd, F⟩ := T.says.def_ 11 (d := d_Joins_take) (by rfl)
  exact ⟨_, fd, fn_body F sc_Joins_take hl hb, T.met_J_take, (F.bindsN fun _ _ _ _ _ _ us hl => match us, hl with | [_, _], _ => rfl)⟩
theorem sc_Joins_is_proper : FnScope N_Joins_is_proper ["self", "pair"] (defScope s_Joins_is_proper) := ⟨rfl, rfl, rfl, by decide +kernel, rfl, by decide +kernel, by decide +kernel⟩
theorem mk_Joins_is_proper {k : Nat} {sp : Sp} (T : Txt K mg) (hl : ∀ vs H Q E, sp vs H Q E → vs.length = 2) (hb : BodyOk P w K mg base N_Joins_is_proper "Joins.is_proper" s_Joins_is_proper k sp) : MetOk P w K mg base (k + 1) (CJ K) "is_proper" ["self", "pair"] sp := by
  obtain ⟨fd, F⟩ := T.says.def_ 12 (d := d_Joins_is_proper) (by rfl)
  exact ⟨_, fd, fn_body F sc_Joins_is_proper hl hb, T.met_J_is_proper, (F.bindsN fun _ _ _ _ _ _ us hl => match us, hl with | [_, _], _ => rfl)⟩
theorem sc_Joins_pieces : FnScope N_Joins_pieces ["self"] (defScope s_Joins_pieces) := ⟨rfl, rfl, rfl, by decide +kernel, rfl, by decide +kernel, by decide +kernel⟩
theorem mk_Joins_pieces {k : Nat} {sp : Sp} (T : Txt K mg) (hl : ∀ vs H Q E, sp vs H Q E → vs.length = 1) (hb : BodyOk P w K mg base N_Joins_pieces "Joins.pieces" s_Joins_pieces k sp) : PrpOk P w K mg base (k + 1) (CJ K) "pieces" sp := by
  obtain ⟨p, g, fd, hp, F⟩ := T.prop
  exact ⟨p, g, fd, hp, fn_body F sc_Joins_pieces hl hb, (F.bindsN fun _ _ _ _ _ _ us hl => match us, hl with | [_], _ => rfl)⟩
theorem sc_Joins_is_piece : FnScope N_Joins_is_piece ["self", "piece"] (defScope s_Joins_is_piece) := ⟨rfl, rfl, rfl, by decide +kernel, rfl, by decide +kernel, by decide +kernel⟩
theorem mk_Joins_is_piece {k : Nat} {sp : Sp} (T : Txt K mg) (hl : ∀ vs H Q E, sp vs H Q E → vs.length = 2) (hb : BodyOk P w K mg base N_Joins_is_piece "Joins.is_piece" s_Joins_is_piece k sp) : MetOk P w K mg base (k + 1) (CJ K) "is_piece" ["self", "piece"] sp := by
  obtain ⟨fd, F⟩ := T.says.def_ 13 (d := d_Joins_is_piece) (by rfl)
  exact ⟨_, fd, fn_body F sc_Joins_is_piece hl hb, T.met_J_is_piece, (F.bindsN fun _ _ _ _ _ _ us hl => match us, hl with | [_, _], _ => rfl)⟩
theorem sc_Joins_check_piece : FnScope N_Joins_check_piece ["self", "piece"] (defScope s_Joins_check_piece) := ⟨rfl, rfl, rfl, by decide +kernel, rfl, by decide +kernel, by decide +kernel⟩
theorem mk_Joins_check_piece {k : Nat} {sp : Sp} (T : Txt K mg) (hl : ∀ vs H Q E, sp vs H Q E → vs.length = 2) (hb : BodyOk P w K mg base N_Joins_check_piece "Joins.check_piece" s_Joins_check_piece k sp) : MetOk P w K mg base (k + 1) (CJ K) "check_piece" ["self", "piece"] sp := by
  obtain ⟨fd, F⟩ := T.says.def_ 14 (d := d_Joins_check_piece) (by rfl)
  exact ⟨_, fd, fn_body F sc_Joins_check_piece hl hb, T.met_J_check_piece, (F.bindsN fun _ _ _ _ _ _ us hl => match us, hl with | [_, _], _ => rfl)⟩
theorem sc_Joins_text_of : FnScope N_Joins_text_of ["self", "piece"] (defScope s_Joins_text_of) := ⟨rfl, rfl, rfl, by decide +kernel, rfl, by decide +kernel, by decide +kernel⟩
theorem mk_Joins_text_of {k : Nat} {sp : Sp} (T : Txt K mg) (hl : ∀ vs H Q E, sp vs H Q E → vs.length = 2) (hb : BodyOk P w K mg base N_Joins_text_of "Joins.text_of" s_Joins_text_of k sp) : MetOk P w K mg base (k + 1) (CJ K) "text_of" ["self", "piece"] sp := by
  obtain ⟨fd, F⟩ := T.says.def_ 15 (d := d_Joins_text_of) (by rfl)
  exact ⟨_, fd, fn_body F sc_Joins_text_of hl hb, T.met_J_text_of, (F.bindsN fun _ _ _ _ _ _ us hl => match us, hl with | [_, _], _ => rfl)⟩
theorem sc_Joins_parts_of : FnScope N_Joins_parts_of ["self", "piece"] (defScope s_Joins_parts_of) := ⟨rfl, rfl, rfl, by decide +kernel, rfl, by decide +kernel, by decide +kernel⟩
theorem mk_Joins_parts_of {k : Nat} {sp : Sp} (T : Txt K mg) (hl : ∀ vs H Q E, sp vs H Q E → vs.length = 2) (hb : BodyOk P w K mg base N_Joins_parts_of "Joins.parts_of" s_Joins_parts_of k sp) : MetOk P w K mg base (k + 1) (CJ K) "parts_of" ["self", "piece"] sp := by
  obtain ⟨fd, F⟩ := T.says.def_ 16 (d := d_Joins_parts_of) (by rfl)
  exact ⟨_, fd, fn_body F sc_Joins_parts_of hl hb, T.met_J_parts_of, (F.bindsN fun _ _ _ _ _ _ us hl => match us, hl with | [_, _], _ => rfl)⟩
theorem sc_Joins_piece_of : FnScope N_Joins_piece_of ["self", "text"] (defScope s_Joins_piece_of) := ⟨rfl, rfl, rfl, by decide +kernel, rfl, by decide +kernel, by decide +kernel⟩
theorem mk_Joins_piece_of {k : Nat} {sp : Sp} (T : Txt K mg) (hl : ∀ vs H Q E, sp vs H Q E → vs.length = 2) (hb : BodyOk P w K mg base N_Joins_piece_of "Joins.piece_of" s_Joins_piece_of k sp) : MetOk P w K mg base (k + 1) (CJ K) "piece_of" ["self", "text"] sp := by
  obtain ⟨fd, F⟩ := T.says.def_ 17 (d := d_Joins_piece_of) (by rfl)
  exact ⟨_, fd, fn_body F sc_Joins_piece_of hl hb, T.met_J_piece_of, (F.bindsN fun _ _ _ _ _ _ us hl => match us, hl with | [_, _], _ => rfl)⟩
theorem sc_letters_of : FnScope N_letters_of ["joins", "text"] (defScope s_letters_of) := ⟨rfl, rfl, rfl, by decide +kernel, rfl, by decide +kernel, by decide +kernel⟩
theorem mk_letters_of {k : Nat} {sp : Sp} (T : Txt K mg) (hl : ∀ vs H Q E, sp vs H Q E → vs.length = 2) (hb : BodyOk P w K mg base N_letters_of "letters_of" s_letters_of k sp) : DefOk P w K mg base (k + 1) "letters_of" ["joins", "text"] sp := by
  obtain ⟨fd, F⟩ := T.says.def_ 18 (d := d_letters_of) (by rfl)
  exact ⟨_, fd, fn_body F sc_letters_of hl hb, T.g_letters_of, F.kp, (F.bindsN fun _ _ _ _ _ _ us hl => match us, hl with | [_, _], _ => rfl)⟩
theorem sc_cut : FnScope N_cut ["joins", "text"] (defScope s_cut) := ⟨rfl, rfl, rfl, by decide +kernel, rfl, by decide +kernel, by decide +kernel⟩
theorem mk_cut {k : Nat} {sp : Sp} (T : Txt K mg) (hl : ∀ vs H Q E, sp vs H Q E → vs.length = 2) (hb : BodyOk P w K mg base N_cut "cut" s_cut k sp) : DefOk P w K mg base (k + 1) "cut" ["joins", "text"] sp := by
  obtain ⟨fd, F⟩ := T.says.def_ 19 (d := d_cut) (by rfl)
  exact ⟨_, fd, fn_body F sc_cut hl hb, T.g_cut, F.kp, (F.bindsN fun _ _ _ _ _ _ us hl => match us, hl with | [_, _], _ => rfl)⟩
theorem sc_text_of_row : FnScope N_text_of_row ["joins", "row"] (defScope s_text_of_row) := ⟨rfl, rfl, rfl, by decide +kernel, rfl, by decide +kernel, by decide +kernel⟩
theorem mk_text_of_row {k : Nat} {sp : Sp} (T : Txt K mg) (hl : ∀ vs H Q E, sp vs H Q E → vs.length = 2) (hb : BodyOk P w K mg base N_text_of_row "text_of_row" s_text_of_row k sp) : DefOk P w K mg base (k + 1) "text_of_row" ["joins", "row"] sp := by
  obtain ⟨fd, F⟩ := T.says.def_ 20 (d := d_text_of_row) (by rfl)
  exact ⟨_, fd, fn_body F sc_text_of_row hl hb, T.g_text_of_row, F.kp, (F.bindsN fun _ _ _ _ _ _ us hl => match us, hl with | [_, _], _ => rfl)⟩
theorem sc_is_cut : FnScope N_is_cut ["joins", "row"] (defScope s_is_cut) := ⟨rfl, rfl, rfl, by decide +kernel, rfl, by decide +kernel, by decide +kernel⟩
theorem mk_is_cut {k : Nat} {sp : Sp} (T : Txt K mg) (hl : ∀ vs H Q E, sp vs H Q E → vs.length = 2) (hb : BodyOk P w K mg base N_is_cut "is_cut" s_is_cut k sp) : DefOk P w K mg base (k + 1) "is_cut" ["joins", "row"] sp := by
  obtain ⟨fd, F⟩ := T.says.def_ 21 (d := d_is_cut) (by rfl)
  exact ⟨_, fd, fn_body F sc_is_cut hl hb, T.g_is_cut, F.kp, (F.bindsN fun _ _ _ _ _ _ us hl => match us, hl with | [_, _], _ => rfl)⟩
theorem sc_Standings_init : FnScope N_Standings_init ["self", "joins", "machine"] (defScope s_Standings_init) := ⟨rfl, rfl, rfl, by decide +kernel, rfl, by decide +kernel, by decide +kernel⟩
theorem mk_Standings_init {k : Nat} {sp : Sp} (T : Txt K mg) (hl : ∀ vs H Q E, sp vs H Q E → vs.length = 3) (hb : BodyOk P w K mg base N_Standings_init "Standings.__init__" s_Standings_init k sp) : NewOk P w K mg base (k + 1) (CD K) "Standings" ["self", "joins", "machine"] sp := by
  obtain ⟨fd, F⟩ := T.says.def_ 22 (d := d_Standings_init) (by rfl)
  exact ⟨_, fd, fn_body F sc_Standings_init hl hb, T.mkr_D, T.g_Standings, (F.bindsN fun _ _ _ _ _ _ us hl => match us, hl with | [_, _, _], _ => rfl)⟩
theorem sc_Standings_steps : FnScope N_Standings_steps ["self", "standing"] (defScope s_Standings_steps) := ⟨rfl, rfl, rfl, by decide +kernel, rfl, by decide +kernel, by decide +kernel⟩
theorem mk_Standings_steps {k : Nat} {sp : Sp} (T : Txt K mg) (hl : ∀ vs H Q E, sp vs H Q E → vs.length = 2) (hb : BodyOk P w K mg base N_Standings_steps "Standings.steps" s_Standings_steps k sp) : MetOk P w K mg base (k + 1) (CD K) "steps" ["self", "standing"] sp := by
  obtain ⟨fd, F⟩ := T.says.def_ 23 (d := d_Standings_steps) (by rfl)
  exact ⟨_, fd, fn_body F sc_Standings_steps hl hb, T.met_D_steps, (F.bindsN fun _ _ _ _ _ _ us hl => match us, hl with | [_, _], _ => rfl)⟩
theorem sc_Standings_is_end : FnScope N_Standings_is_end ["self", "standing"] (defScope s_Standings_is_end) := ⟨rfl, rfl, rfl, by decide +kernel, rfl, by decide +kernel, by decide +kernel⟩
theorem mk_Standings_is_end {k : Nat} {sp : Sp} (T : Txt K mg) (hl : ∀ vs H Q E, sp vs H Q E → vs.length = 2) (hb : BodyOk P w K mg base N_Standings_is_end "Standings.is_end" s_Standings_is_end k sp) : MetOk P w K mg base (k + 1) (CD K) "is_end" ["self", "standing"] sp := by
  obtain ⟨fd, F⟩ := T.says.def_ 24 (d := d_Standings_is_end) (by rfl)
  exact ⟨_, fd, fn_body F sc_Standings_is_end hl hb, T.met_D_is_end, (F.bindsN fun _ _ _ _ _ _ us hl => match us, hl with | [_, _], _ => rfl)⟩
theorem sc_Standings_reached : FnScope N_Standings_reached ["self", "start"] (defScope s_Standings_reached) := ⟨rfl, rfl, rfl, by decide +kernel, rfl, by decide +kernel, by decide +kernel⟩
theorem mk_Standings_reached {k : Nat} {sp : Sp} (T : Txt K mg) (hl : ∀ vs H Q E, sp vs H Q E → vs.length = 2) (hb : BodyOk P w K mg base N_Standings_reached "Standings.reached" s_Standings_reached k sp) : MetOk P w K mg base (k + 1) (CD K) "reached" ["self", "start"] sp := by
  obtain ⟨fd, F⟩ := T.says.def_ 25 (d := d_Standings_reached) (by rfl)
  exact ⟨_, fd, fn_body F sc_Standings_reached hl hb, T.met_D_reached, (F.bindsN fun _ _ _ _ _ _ us hl => match us, hl with | [_, _], _ => rfl)⟩
theorem sc_Standings_alive : FnScope N_Standings_alive ["self", "start"] (defScope s_Standings_alive) := ⟨rfl, rfl, rfl, by decide +kernel, rfl, by decide +kernel, by decide +kernel⟩
theorem mk_Standings_alive {k : Nat} {sp : Sp} (T : Txt K mg) (hl : ∀ vs H Q E, sp vs H Q E → vs.length = 2) (hb : BodyOk P w K mg base N_Standings_alive "Standings.alive" s_Standings_alive k sp) : MetOk P w K mg base (k + 1) (CD K) "alive" ["self", "start"] sp := by
  obtain ⟨fd, F⟩ := T.says.def_ 26 (d := d_Standings_alive) (by rfl)
  exact ⟨_, fd, fn_body F sc_Standings_alive hl hb, T.met_D_alive, (F.bindsN fun _ _ _ _ _ _ us hl => match us, hl with | [_, _], _ => rfl)⟩
theorem sc_standing_of : FnScope N_standing_of ["joins", "machine", "row"] (defScope s_standing_of) := ⟨rfl, rfl, rfl, by decide +kernel, rfl, by decide +kernel, by decide +kernel⟩
theorem mk_standing_of {k : Nat} {sp : Sp} (T : Txt K mg) (hl : ∀ vs H Q E, sp vs H Q E → vs.length = 3) (hb : BodyOk P w K mg base N_standing_of "standing_of" s_standing_of k sp) : DefOk P w K mg base (k + 1) "standing_of" ["joins", "machine", "row"] sp := by
  obtain ⟨fd, F⟩ := T.says.def_ 27 (d := d_standing_of) (by rfl)
  exact ⟨_, fd, fn_body F sc_standing_of hl hb, T.g_standing_of, F.kp, (F.bindsN fun _ _ _ _ _ _ us hl => match us, hl with | [_, _, _], _ => rfl)⟩
theorem sc_lets : FnScope N_lets ["joins", "machine", "row"] (defScope s_lets) := ⟨rfl, rfl, rfl, by decide +kernel, rfl, by decide +kernel, by decide +kernel⟩
theorem mk_lets {k : Nat} {sp : Sp} (T : Txt K mg) (hl : ∀ vs H Q E, sp vs H Q E → vs.length = 3) (hb : BodyOk P w K mg base N_lets "lets" s_lets k sp) : DefOk P w K mg base (k + 1) "lets" ["joins", "machine", "row"] sp := by
  obtain ⟨fd, F⟩ := T.says.def_ 28 (d := d_lets) (by rfl)
  exact ⟨_, fd, fn_body F sc_lets hl hb, T.g_lets, F.kp, (F.bindsN fun _ _ _ _ _ _ us hl => match us, hl with | [_, _, _], _ => rfl)⟩
theorem sc_may_end : FnScope N_may_end ["joins", "machine", "row"] (defScope s_may_end) := ⟨rfl, rfl, rfl, by decide +kernel, rfl, by decide +kernel, by decide +kernel⟩
theorem mk_may_end {k : Nat} {sp : Sp} (T : Txt K mg) (hl : ∀ vs H Q E, sp vs H Q E → vs.length = 3) (hb : BodyOk P w K mg base N_may_end "may_end" s_may_end k sp) : DefOk P w K mg base (k + 1) "may_end" ["joins", "machine", "row"] sp := by
  obtain ⟨fd, F⟩ := T.says.def_ 29 (d := d_may_end) (by rfl)
  exact ⟨_, fd, fn_body F sc_may_end hl hb, T.g_may_end, F.kp, (F.bindsN fun _ _ _ _ _ _ us hl => match us, hl with | [_, _, _], _ => rfl)⟩
theorem sc_shortest_end : FnScope N_shortest_end ["joins", "machine", "row"] (defScope s_shortest_end) := ⟨rfl, rfl, rfl, by decide +kernel, rfl, by decide +kernel, by decide +kernel⟩
theorem mk_shortest_end {k : Nat} {sp : Sp} (T : Txt K mg) (hl : ∀ vs H Q E, sp vs H Q E → vs.length = 3) (hb : BodyOk P w K mg base N_shortest_end "shortest_end" s_shortest_end k sp) : DefOk P w K mg base (k + 1) "shortest_end" ["joins", "machine", "row"] sp := by
  obtain ⟨fd, F⟩ := T.says.def_ 30 (d := d_shortest_end) (by rfl)
  exact ⟨_, fd, fn_body F sc_shortest_end hl hb, T.g_shortest_end, F.kp, (F.bindsN fun _ _ _ _ _ _ us hl => match us, hl with | [_, _, _], _ => rfl)⟩
theorem sc_Machine_init : FnScope N_Machine_init ["self", "alphabet", "start", "ends", "steps"] (defScope s_Machine_init) := ⟨rfl, rfl, rfl, by decide +kernel, rfl, by decide +kernel, by decide +kernel⟩
theorem mk_Machine_init {k : Nat} {sp : Sp} (T : Txt K mg) (hl : ∀ vs H Q E, sp vs H Q E → vs.length = 5) (hb : BodyOk P w K mg base N_Machine_init "Machine.__init__" s_Machine_init k sp) : NewOk P w K mg base (k + 1) (CM K) "Machine" ["self", "alphabet", "start", "ends", "steps"] sp := by
  obtain ⟨fd, F⟩ := T.says.def_ 31 (d := d_Machine_init) (by rfl)
  exact ⟨_, fd, fn_body F sc_Machine_init hl hb, T.mkr_M, T.g_Machine, (F.bindsN fun _ _ _ _ _ _ us hl => match us, hl with | [_, _, _, _, _], _ => rfl)⟩
theorem sc_Machine_after : FnScope N_Machine_after ["self", "state", "text"] (defScope s_Machine_after) := ⟨rfl, rfl, rfl, by decide +kernel, rfl, by decide +kernel, by decide +kernel⟩
theorem mk_Machine_after {k : Nat} {sp : Sp} (T : Txt K mg) (hl : ∀ vs H Q E, sp vs H Q E → vs.length = 3) (hb : BodyOk P w K mg base N_Machine_after "Machine.after" s_Machine_after k sp) : MetOk P w K mg base (k + 1) (CM K) "after" ["self", "state", "text"] sp := by
  obtain ⟨fd, F⟩ := T.says.def_ 32 (d := d_Machine_after) (by rfl)
  exact ⟨_, fd, fn_body F sc_Machine_after hl hb, T.met_M_after, (F.bindsN fun _ _ _ _ _ _ us hl => match us, hl with | [_, _, _], _ => rfl)⟩
theorem sc_L_mixed : FnScope N_L_mixed ["_law_number", "_law_turn"] (defScope s_L_mixed) := ⟨rfl, rfl, rfl, by decide +kernel, rfl, by decide +kernel, by decide +kernel⟩
theorem mk_L_mixed {k : Nat} {sp : Sp} (T : Txt K mg) (hl : ∀ vs H Q E, sp vs H Q E → vs.length = 2) (hb : BodyOk P w K mg base N_L_mixed "_law_mixed" s_L_mixed k sp) : DefOk P w K mg base (k + 1) "_law_mixed" ["_law_number", "_law_turn"] sp := by
  obtain ⟨fd, F⟩ := T.says.def_ 33 (d := d_L_mixed) (by rfl)
  exact ⟨_, fd, fn_body F sc_L_mixed hl hb, T.g_L_mixed, F.kp, (F.bindsN fun _ _ _ _ _ _ us hl => match us, hl with | [_, _], _ => rfl)⟩
theorem sc_L_tape : FnScope N_L_tape ["_law_script"] (defScope s_L_tape) := ⟨rfl, rfl, rfl, by decide +kernel, rfl, by decide +kernel, by decide +kernel⟩
theorem mk_L_tape {k : Nat} {sp : Sp} (T : Txt K mg) (hl : ∀ vs H Q E, sp vs H Q E → vs.length = 1) (hb : BodyOk P w K mg base N_L_tape "_law_tape" s_L_tape k sp) : DefOk P w K mg base (k + 1) "_law_tape" ["_law_script"] sp := by
  obtain ⟨fd, F⟩ := T.says.def_ 34 (d := d_L_tape) (by rfl)
  exact ⟨_, fd, fn_body F sc_L_tape hl hb, T.g_L_tape, F.kp, (F.bindsN fun _ _ _ _ _ _ us hl => match us, hl with | [_], _ => rfl)⟩
theorem sc_L_draw : FnScope N_L_draw ["_law_tape_here", "_law_many"] (defScope s_L_draw) := ⟨rfl, rfl, rfl, by decide +kernel, rfl, by decide +kernel, by decide +kernel⟩
theorem mk_L_draw {k : Nat} {sp : Sp} (T : Txt K mg) (hl : ∀ vs H Q E, sp vs H Q E → vs.length = 2) (hb : BodyOk P w K mg base N_L_draw "_law_draw" s_L_draw k sp) : DefOk P w K mg base (k + 1) "_law_draw" ["_law_tape_here", "_law_many"] sp := by
  obtain ⟨fd, F⟩ := T.says.def_ 35 (d := d_L_draw) (by rfl)
  exact ⟨_, fd, fn_body F sc_L_draw hl hb, T.g_L_draw, F.kp, (F.bindsN fun _ _ _ _ _ _ us hl => match us, hl with | [_, _], _ => rfl)⟩
theorem sc_L_pick : FnScope N_L_pick ["_law_tape_here", "_law_row"] (defScope s_L_pick) := ⟨rfl, rfl, rfl, by decide +kernel, rfl, by decide +kernel, by decide +kernel⟩
theorem mk_L_pick {k : Nat} {sp : Sp} (T : Txt K mg) (hl : ∀ vs H Q E, sp vs H Q E → vs.length = 2) (hb : BodyOk P w K mg base N_L_pick "_law_pick" s_L_pick k sp) : DefOk P w K mg base (k + 1) "_law_pick" ["_law_tape_here", "_law_row"] sp := by
  obtain ⟨fd, F⟩ := T.says.def_ 36 (d := d_L_pick) (by rfl)
  exact ⟨_, fd, fn_body F sc_L_pick hl hb, T.g_L_pick, F.kp, (F.bindsN fun _ _ _ _ _ _ us hl => match us, hl with | [_, _], _ => rfl)⟩
theorem sc_L_signs : FnScope N_L_signs [] (defScope s_L_signs) := ⟨rfl, rfl, rfl, by decide +kernel, rfl, by decide +kernel, by decide +kernel⟩
theorem mk_L_signs {k : Nat} {sp : Sp} (T : Txt K mg) (hl : ∀ vs H Q E, sp vs H Q E → vs.length = 0) (hb : BodyOk P w K mg base N_L_signs "_law_signs" s_L_signs k sp) : DefOk P w K mg base (k + 1) "_law_signs" [] sp := by
  obtain ⟨fd, F⟩ := T.says.def_ 37 (d := d_L_signs) (by rfl)
  exact ⟨_, fd, fn_body F sc_L_signs hl hb, T.g_L_signs, F.kp, (F.bindsN fun _ _ _ _ _ _ us hl => match us, hl with | [], _ => rfl)⟩
theorem sc_L_letters : FnScope N_L_letters ["_law_tape_here", "_law_many"] (defScope s_L_letters) := ⟨rfl, rfl, rfl, by decide +kernel, rfl, by decide +kernel, by decide +kernel⟩
theorem mk_L_letters {k : Nat} {sp : Sp} (T : Txt K mg) (hl : ∀ vs H Q E, sp vs H Q E → vs.length = 2) (hb : BodyOk P w K mg base N_L_letters "_law_letters" s_L_letters k sp) : DefOk P w K mg base (k + 1) "_law_letters" ["_law_tape_here", "_law_many"] sp := by
  obtain ⟨fd, F⟩ := T.says.def_ 38 (d := d_L_letters) (by rfl)
  exact ⟨_, fd, fn_body F sc_L_letters hl hb, T.g_L_letters, F.kp, (F.bindsN fun _ _ _ _ _ _ us hl => match us, hl with | [_, _], _ => rfl)⟩
theorem sc_L_cut : FnScope N_L_cut ["_law_joins_here", "_law_text"] (defScope s_L_cut) := ⟨rfl, rfl, rfl, by decide +kernel, rfl, by decide +kernel, by decide +kernel⟩
theorem mk_L_cut {k : Nat} {sp : Sp} (T : Txt K mg) (hl : ∀ vs H Q E, sp vs H Q E → vs.length = 2) (hb : BodyOk P w K mg base N_L_cut "_law_cut" s_L_cut k sp) : DefOk P w K mg base (k + 1) "_law_cut" ["_law_joins_here", "_law_text"] sp := by
  obtain ⟨fd, F⟩ := T.says.def_ 39 (d := d_L_cut) (by rfl)
  exact ⟨_, fd, fn_body F sc_L_cut hl hb, T.g_L_cut, F.kp, (F.bindsN fun _ _ _ _ _ _ us hl => match us, hl with | [_, _], _ => rfl)⟩
theorem sc_L_joins : FnScope N_L_joins ["_law_tape_here", "_law_most", "_law_tries", "_law_size"] (defScope s_L_joins) := ⟨rfl, rfl, rfl, by decide +kernel, rfl, by decide +kernel, by decide +kernel⟩
theorem mk_L_joins {k : Nat} {sp : Sp} (T : Txt K mg) (hl : ∀ vs H Q E, sp vs H Q E → vs.length = 4) (hb : BodyOk P w K mg base N_L_joins "_law_joins" s_L_joins k sp) : DefOk P w K mg base (k + 1) "_law_joins" ["_law_tape_here", "_law_most", "_law_tries", "_law_size"] sp := by
  obtain ⟨fd, F⟩ := T.says.def_ 40 (d := d_L_joins) (by rfl)
  exact ⟨_, fd, fn_body F sc_L_joins hl hb, T.g_L_joins, F.kp, (F.bindsN fun _ _ _ _ _ _ us hl => match us, hl with | [_, _, _, _], _ => rfl)⟩
theorem sc_L_machine : FnScope N_L_machine ["_law_tape_here", "_law_letters_here", "_law_most"] (defScope s_L_machine) := ⟨rfl, rfl, rfl, by decide +kernel, rfl, by decide +kernel, by decide +kernel⟩
theorem mk_L_machine {k : Nat} {sp : Sp} (T : Txt K mg) (hl : ∀ vs H Q E, sp vs H Q E → vs.length = 3) (hb : BodyOk P w K mg base N_L_machine "_law_machine" s_L_machine k sp) : DefOk P w K mg base (k + 1) "_law_machine" ["_law_tape_here", "_law_letters_here", "_law_most"] sp := by
  obtain ⟨fd, F⟩ := T.says.def_ 41 (d := d_L_machine) (by rfl)
  exact ⟨_, fd, fn_body F sc_L_machine hl hb, T.g_L_machine, F.kp, (F.bindsN fun _ _ _ _ _ _ us hl => match us, hl with | [_, _, _], _ => rfl)⟩
theorem sc_L_chain : FnScope N_L_chain ["_law_tape_here", "_law_letters_here"] (defScope s_L_chain) := ⟨rfl, rfl, rfl, by decide +kernel, rfl, by decide +kernel, by decide +kernel⟩
theorem mk_L_chain {k : Nat} {sp : Sp} (T : Txt K mg) (hl : ∀ vs H Q E, sp vs H Q E → vs.length = 2) (hb : BodyOk P w K mg base N_L_chain "_law_chain" s_L_chain k sp) : DefOk P w K mg base (k + 1) "_law_chain" ["_law_tape_here", "_law_letters_here"] sp := by
  obtain ⟨fd, F⟩ := T.says.def_ 42 (d := d_L_chain) (by rfl)
  exact ⟨_, fd, fn_body F sc_L_chain hl hb, T.g_L_chain, F.kp, (F.bindsN fun _ _ _ _ _ _ us hl => match us, hl with | [_, _], _ => rfl)⟩
theorem sc_L_after : FnScope N_L_after ["_law_machine_here", "_law_state", "_law_text"] (defScope s_L_after) := ⟨rfl, rfl, rfl, by decide +kernel, rfl, by decide +kernel, by decide +kernel⟩
theorem mk_L_after {k : Nat} {sp : Sp} (T : Txt K mg) (hl : ∀ vs H Q E, sp vs H Q E → vs.length = 3) (hb : BodyOk P w K mg base N_L_after "_law_after" s_L_after k sp) : DefOk P w K mg base (k + 1) "_law_after" ["_law_machine_here", "_law_state", "_law_text"] sp := by
  obtain ⟨fd, F⟩ := T.says.def_ 43 (d := d_L_after) (by rfl)
  exact ⟨_, fd, fn_body F sc_L_after hl hb, T.g_L_after, F.kp, (F.bindsN fun _ _ _ _ _ _ us hl => match us, hl with | [_, _, _], _ => rfl)⟩
theorem sc_L_steps : FnScope N_L_steps ["_law_joins_here", "_law_machine_here"] (defScope s_L_steps) := ⟨rfl, rfl, rfl, by decide +kernel, rfl, by decide +kernel, by decide +kernel⟩
theorem mk_L_steps {k : Nat} {sp : Sp} (T : Txt K mg) (hl : ∀ vs H Q E, sp vs H Q E → vs.length = 2) (hb : BodyOk P w K mg base N_L_steps "_law_steps" s_L_steps k sp) : DefOk P w K mg base (k + 1) "_law_steps" ["_law_joins_here", "_law_machine_here"] sp := by
  obtain ⟨fd, F⟩ := T.says.def_ 44 (d := d_L_steps) (by rfl)
  exact ⟨_, fd, fn_body F sc_L_steps hl hb, T.g_L_steps, F.kp, (F.bindsN fun _ _ _ _ _ _ us hl => match us, hl with | [_, _], _ => rfl)⟩
theorem sc_L_follow : FnScope N_L_follow ["_law_joins_here"] (defScope s_L_follow) := ⟨rfl, rfl, rfl, by decide +kernel, rfl, by decide +kernel, by decide +kernel⟩
theorem mk_L_follow {k : Nat} {sp : Sp} (T : Txt K mg) (hl : ∀ vs H Q E, sp vs H Q E → vs.length = 1) (hb : BodyOk P w K mg base N_L_follow "_law_follow" s_L_follow k sp) : DefOk P w K mg base (k + 1) "_law_follow" ["_law_joins_here"] sp := by
  obtain ⟨fd, F⟩ := T.says.def_ 45 (d := d_L_follow) (by rfl)
  exact ⟨_, fd, fn_body F sc_L_follow hl hb, T.g_L_follow, F.kp, (F.bindsN fun _ _ _ _ _ _ us hl => match us, hl with | [_], _ => rfl)⟩
theorem sc_L_distances : FnScope N_L_distances ["_law_machine_here", "_law_follow_here", "_law_steps_here"] (defScope s_L_distances) := ⟨rfl, rfl, rfl, by decide +kernel, rfl, by decide +kernel, by decide +kernel⟩
theorem mk_L_distances {k : Nat} {sp : Sp} (T : Txt K mg) (hl : ∀ vs H Q E, sp vs H Q E → vs.length = 3) (hb : BodyOk P w K mg base N_L_distances "_law_distances" s_L_distances k sp) : DefOk P w K mg base (k + 1) "_law_distances" ["_law_machine_here", "_law_follow_here", "_law_steps_here"] sp := by
  obtain ⟨fd, F⟩ := T.says.def_ 46 (d := d_L_distances) (by rfl)
  exact ⟨_, fd, fn_body F sc_L_distances hl hb, T.g_L_distances, F.kp, (F.bindsN fun _ _ _ _ _ _ us hl => match us, hl with | [_, _, _], _ => rfl)⟩
theorem sc_L_choices : FnScope N_L_choices ["_law_world_here", "_law_row"] (defScope s_L_choices) := ⟨rfl, rfl, rfl, by decide +kernel, rfl, by decide +kernel, by decide +kernel⟩
theorem mk_L_choices {k : Nat} {sp : Sp} (T : Txt K mg) (hl : ∀ vs H Q E, sp vs H Q E → vs.length = 2) (hb : BodyOk P w K mg base N_L_choices "_law_choices" s_L_choices k sp) : DefOk P w K mg base (k + 1) "_law_choices" ["_law_world_here", "_law_row"] sp := by
  obtain ⟨fd, F⟩ := T.says.def_ 47 (d := d_L_choices) (by rfl)
  exact ⟨_, fd, fn_body F sc_L_choices hl hb, T.g_L_choices, F.kp, (F.bindsN fun _ _ _ _ _ _ us hl => match us, hl with | [_, _], _ => rfl)⟩
theorem sc_L_lets : FnScope N_L_lets ["_law_world_here", "_law_row"] (defScope s_L_lets) := ⟨rfl, rfl, rfl, by decide +kernel, rfl, by decide +kernel, by decide +kernel⟩
theorem mk_L_lets {k : Nat} {sp : Sp} (T : Txt K mg) (hl : ∀ vs H Q E, sp vs H Q E → vs.length = 2) (hb : BodyOk P w K mg base N_L_lets "_law_lets" s_L_lets k sp) : DefOk P w K mg base (k + 1) "_law_lets" ["_law_world_here", "_law_row"] sp := by
  obtain ⟨fd, F⟩ := T.says.def_ 48 (d := d_L_lets) (by rfl)
  exact ⟨_, fd, fn_body F sc_L_lets hl hb, T.g_L_lets, F.kp, (F.bindsN fun _ _ _ _ _ _ us hl => match us, hl with | [_, _], _ => rfl)⟩
theorem sc_L_world : FnScope N_L_world ["_law_joins_here", "_law_machine_here", "_law_follow_here"] (defScope s_L_world) := ⟨rfl, rfl, rfl, by decide +kernel, rfl, by decide +kernel, by decide +kernel⟩
theorem mk_L_world {k : Nat} {sp : Sp} (T : Txt K mg) (hl : ∀ vs H Q E, sp vs H Q E → vs.length = 3) (hb : BodyOk P w K mg base N_L_world "_law_world" s_L_world k sp) : DefOk P w K mg base (k + 1) "_law_world" ["_law_joins_here", "_law_machine_here", "_law_follow_here"] sp := by
  obtain ⟨fd, F⟩ := T.says.def_ 49 (d := d_L_world) (by rfl)
  exact ⟨_, fd, fn_body F sc_L_world hl hb, T.g_L_world, F.kp, (F.bindsN fun _ _ _ _ _ _ us hl => match us, hl with | [_, _, _], _ => rfl)⟩
theorem sc_L_worlds : FnScope N_L_worlds ["_law_tape_here"] (defScope s_L_worlds) := ⟨rfl, rfl, rfl, by decide +kernel, rfl, by decide +kernel, by decide +kernel⟩
theorem mk_L_worlds {k : Nat} {sp : Sp} (T : Txt K mg) (hl : ∀ vs H Q E, sp vs H Q E → vs.length = 1) (hb : BodyOk P w K mg base N_L_worlds "_law_worlds" s_L_worlds k sp) : DefOk P w K mg base (k + 1) "_law_worlds" ["_law_tape_here"] sp := by
  obtain ⟨fd, F⟩ := T.says.def_ 50 (d := d_L_worlds) (by rfl)
  exact ⟨_, fd, fn_body F sc_L_worlds hl hb, T.g_L_worlds, F.kp, (F.bindsN fun _ _ _ _ _ _ us hl => match us, hl with | [_], _ => rfl)⟩
theorem sc_L_same : FnScope N_L_same ["_law_actual", "_law_due"] (defScope s_L_same) := ⟨rfl, rfl, rfl, by decide +kernel, rfl, by decide +kernel, by decide +kernel⟩
theorem mk_L_same {k : Nat} {sp : Sp} (T : Txt K mg) (hl : ∀ vs H Q E, sp vs H Q E → vs.length = 2) (hb : BodyOk P w K mg base N_L_same "_law_same" s_L_same k sp) : DefOk P w K mg base (k + 1) "_law_same" ["_law_actual", "_law_due"] sp := by
  obtain ⟨fd, F⟩ := T.says.def_ 51 (d := d_L_same) (by rfl)
  exact ⟨_, fd, fn_body F sc_L_same hl hb, T.g_L_same, F.kp, (F.bindsN fun _ _ _ _ _ _ us hl => match us, hl with | [_, _], _ => rfl)⟩
theorem sc_L_hopeful : FnScope N_L_hopeful ["_law_machine_here"] (defScope s_L_hopeful) := ⟨rfl, rfl, rfl, by decide +kernel, rfl, by decide +kernel, by decide +kernel⟩
theorem mk_L_hopeful {k : Nat} {sp : Sp} (T : Txt K mg) (hl : ∀ vs H Q E, sp vs H Q E → vs.length = 1) (hb : BodyOk P w K mg base N_L_hopeful "_law_hopeful" s_L_hopeful k sp) : DefOk P w K mg base (k + 1) "_law_hopeful" ["_law_machine_here"] sp := by
  obtain ⟨fd, F⟩ := T.says.def_ 52 (d := d_L_hopeful) (by rfl)
  exact ⟨_, fd, fn_body F sc_L_hopeful hl hb, T.g_L_hopeful, F.kp, (F.bindsN fun _ _ _ _ _ _ us hl => match us, hl with | [_], _ => rfl)⟩
theorem sc_L_taken_text : FnScope N_L_taken_text ["_law_tape_here", "_law_machine_here"] (defScope s_L_taken_text) := ⟨rfl, rfl, rfl, by decide +kernel, rfl, by decide +kernel, by decide +kernel⟩
theorem mk_L_taken_text {k : Nat} {sp : Sp} (T : Txt K mg) (hl : ∀ vs H Q E, sp vs H Q E → vs.length = 2) (hb : BodyOk P w K mg base N_L_taken_text "_law_taken_text" s_L_taken_text k sp) : DefOk P w K mg base (k + 1) "_law_taken_text" ["_law_tape_here", "_law_machine_here"] sp := by
  obtain ⟨fd, F⟩ := T.says.def_ 53 (d := d_L_taken_text) (by rfl)
  exact ⟨_, fd, fn_body F sc_L_taken_text hl hb, T.g_L_taken_text, F.kp, (F.bindsN fun _ _ _ _ _ _ us hl => match us, hl with | [_, _], _ => rfl)⟩
theorem sc_L_led : FnScope N_L_led ["_law_tape_here", "_law_world_here"] (defScope s_L_led) := ⟨rfl, rfl, rfl, by decide +kernel, rfl, by decide +kernel, by decide +kernel⟩
theorem mk_L_led {k : Nat} {sp : Sp} (T : Txt K mg) (hl : ∀ vs H Q E, sp vs H Q E → vs.length = 2) (hb : BodyOk P w K mg base N_L_led "_law_led" s_L_led k sp) : DefOk P w K mg base (k + 1) "_law_led" ["_law_tape_here", "_law_world_here"] sp := by
  obtain ⟨fd, F⟩ := T.says.def_ 54 (d := d_L_led) (by rfl)
  exact ⟨_, fd, fn_body F sc_L_led hl hb, T.g_L_led, F.kp, (F.bindsN fun _ _ _ _ _ _ us hl => match us, hl with | [_, _], _ => rfl)⟩
theorem sc_law : FnScope N_law ["_law_script"] (defScope s_law) := ⟨rfl, rfl, rfl, by decide +kernel, rfl, by decide +kernel, by decide +kernel⟩
theorem mk_law {k : Nat} {sp : Sp} (T : Txt K mg) (hl : ∀ vs H Q E, sp vs H Q E → vs.length = 1) (hb : BodyOk P w K mg base N_law "law" s_law k sp) : DefOk P w K mg base (k + 1) "law" ["_law_script"] sp := by
  obtain ⟨fd, F⟩ := T.says.def_ 55 (d := d_law) (by rfl)
  exact ⟨_, fd, fn_body F sc_law hl hb, T.g_law, F.kp, (F.bindsN fun _ _ _ _ _ _ us hl => match us, hl with | [_], _ => rfl)⟩
end
end J

set_option Elab.async false
set_option linter.all false
set_option maxRecDepth 100000
set_option maxHeartbeats 4000000
/-! What stands in the heap: texts of words, the tables of ranks, the program's objects. -/
namespace J
open PySem PySem.Spec PyProof.Rows L2
/-! ### texts of words -/
def tx (al W : List Nat) : Str := ⟨(W.map fun i => al.getD i 0).toArray⟩
def alS (al : List Nat) : Str := ⟨al.toArray⟩
theorem tx_app (al U V : List Nat) : tx al (U ++ V) = tx al U ++ tx al V := by
  show (⟨((U ++ V).map fun i => al.getD i 0).toArray⟩ : Str) = ⟨(U.map fun i => al.getD i 0).toArray ++ (V.map fun i => al.getD i 0).toArray⟩
  rw [List.map_append, List.append_toArray]
theorem tx_len (al W : List Nat) : (tx al W).length = W.length := by simp [tx, Str.length]
theorem alS_len (al : List Nat) : (alS al).length = al.length := by simp [alS, Str.length]
theorem tx_one {al : List Nat} {i c : Nat} (h : al[i]? = some c) : tx al [i] = ⟨#[c]⟩ := by
  simp [tx, List.getD_eq_getElem?_getD, h]
theorem tx_size (al W : List Nat) : (tx al W).cps.size = W.length := by simp [tx]
theorem tx_get (al W : List Nat) (i : Nat) : (tx al W).cps[i]? = (W[i]?).map fun j => al.getD j 0 := by simp [tx]
theorem getD_at {al : List Nat} {i : Nat} (h : i < al.length) : al[i]? = some (al.getD i 0) := by
  rw [List.getD_eq_getElem?_getD, List.getElem?_eq_getElem h]
  rfl
/-- words of letters are told apart by their texts -/
theorem tx_inj {al : List Nat} (hn : al.Nodup) : ∀ {U V : List Nat}, (∀ x ∈ U, x < al.length) → (∀ x ∈ V, x < al.length) → tx al U = tx al V → U = V := by
  intro U V hU hV e
  have e1 : (U.map fun i => al.getD i 0) = V.map fun i => al.getD i 0 := by
    have := congrArg (fun z : Str => z.cps.toList) e
    simpa [tx] using this
  clear e
  induction U generalizing V with
  | nil =>
    cases V with
    | nil => rfl
    | cons v V => simp at e1
  | cons u U ih =>
    cases V with
    | nil => simp at e1
    | cons v V =>
      rw [List.map_cons, List.map_cons] at e1
      injection e1 with a b
      have hu := getD_at (hU u (List.mem_cons_self ..))
      have hv := getD_at (hV v (List.mem_cons_self ..))
      rw [a] at hu
      rw [nd_ix hn hu hv, ih (fun x hx => hU x (List.mem_cons_of_mem _ hx)) (fun x hx => hV x (List.mem_cons_of_mem _ hx)) b]
theorem occ_all (s sub : Str) (hi limit : Nat) (p : Nat → Prop) (hp : ∀ i, Builtin.Str.subAt s sub i = true ∧ i + sub.length ≤ hi → p i) : ∀ (l : List Nat) (st : Array Nat × Nat), (∀ x ∈ st.fst.toList, p x) →
    ∀ x ∈ (forIn l st (StrLaws.occBody s sub hi limit)).run.fst.toList, p x
  | [], st, h => h
  | a :: l, st, h => by
    rw [List.forIn_cons]
    unfold StrLaws.occBody
    split
    · rename_i hc
      refine occ_all s sub hi limit p hp l _ fun x hx => ?_
      rw [Array.toList_push] at hx
      rcases List.mem_append.mp hx with hx | hx
      · exact h x hx
      · rw [List.mem_singleton.mp hx]
        exact hp a ⟨hc.2, hc.1.2⟩
    · exact occ_all s sub hi limit p hp l st h
/-- the place of a letter in the alphabet -/
theorem occ_letter {al : List Nat} (hn : al.Nodup) {i c : Nat} (h : al[i]? = some c) : ∃ rest, Builtin.Str.occurrences (alS al) ⟨#[c]⟩ 0 (alS al).length 1 = i :: rest := by
  have hf := StrLaws.found_one (alS al) c
  have hc : c ∈ (alS al).cps.toList := List.mem_iff_getElem?.mpr ⟨i, by simpa [alS] using h⟩
  rw [decide_eq_true hc] at hf
  have hall : ∀ x ∈ Builtin.Str.occurrences (alS al) ⟨#[c]⟩ 0 (alS al).length 1, al[x]? = some c := by
    rw [StrLaws.occ_eq]
    refine occ_all _ _ _ _ _ (fun j hj => ?_) _ _ (by simp)
    have := (StrLaws.subAt_one (alS al) c j).mp ⟨hj.2, hj.1⟩
    simpa [alS] using this
  cases e : Builtin.Str.occurrences (alS al) ⟨#[c]⟩ 0 (alS al).length 1 with
  | nil =>
    rw [e] at hf
    simp at hf
  | cons j r =>
    have hj := hall j (by rw [e]; exact List.mem_cons_self ..)
    rw [nd_ix hn h hj]
    exact ⟨r, rfl⟩
/-! ### tables of ranks -/
def pk (p : Nat × Nat) : PKey := (some (p.1 : Int), some (p.2 : Int))
theorem pk_inj {p q : Nat × Nat} (h : pk p = pk q) : p = q := by
  have h1 : some (p.1 : Int) = some (q.1 : Int) := congrArg Prod.fst h
  have h2 : some (p.2 : Int) = some (q.2 : Int) := congrArg Prod.snd h
  have e1 := Option.some.inj h1
  have e2 := Option.some.inj h2
  exact Prod.ext (by omega) (by omega)
def rkT : Nat → List (Nat × Nat) → List (PKey × V)
  | _, [] => []
  | n, p :: ps => (pk p, V.int n) :: rkT (n + 1) ps
def rk : Nat → List (Nat × Nat) → Nat × Nat → Option Nat
  | _, [], _ => none
  | n, p :: ps, q => if p = q then some n else rk (n + 1) ps q
theorem rkT_val : ∀ (n : Nat) (ps : List (Nat × Nat)) (q : Nat × Nat), valV (rkT n ps) (pk q) = (rk n ps q).map fun r => V.int (r : Nat)
  | _, [], _ => rfl
  | n, p :: ps, q => by
    unfold rkT rk
    by_cases e : p = q
    · rw [valV_pos (by rw [e]), if_pos e]
      rfl
    · rw [valV_neg fun z => e (pk_inj z), if_neg e]
      exact rkT_val (n + 1) ps q
theorem rkT_len : ∀ (n : Nat) (ps : List (Nat × Nat)), (rkT n ps).length = ps.length
  | _, [] => rfl
  | n, p :: ps => congrArg (· + 1) (rkT_len (n + 1) ps)
theorem rk_none : ∀ {n : Nat} {ps : List (Nat × Nat)} {q : Nat × Nat}, rk n ps q = none ↔ q ∉ ps
  | _, [], _ => by simp [rk]
  | n, p :: ps, q => by
    unfold rk
    by_cases e : p = q
    · rw [if_pos e]
      simp [e]
    · rw [if_neg e, rk_none (n := n + 1)]
      simp [Ne.symm e]
theorem rk_ge : ∀ {n : Nat} {ps : List (Nat × Nat)} {q : Nat × Nat} {r : Nat}, rk n ps q = some r → n ≤ r ∧ ps[r - n]? = some q
  | _, [], _, _, h => by cases h
  | n, p :: ps, q, r, h => by
    unfold rk at h
    by_cases e : p = q
    · rw [if_pos e] at h
      cases h
      simp [e]
    · rw [if_neg e] at h
      obtain ⟨h1, h2⟩ := rk_ge (n := n + 1) h
      refine ⟨by omega, ?_⟩
      have : r - n = (r - (n + 1)) + 1 := by omega
      rw [this, List.getElem?_cons_succ]
      exact h2
theorem rk_some {ps : List (Nat × Nat)} {q : Nat × Nat} {r : Nat} (h : rk 0 ps q = some r) : ps[r]? = some q := by
  have := (rk_ge h).2
  simpa using this
/-- no pair stands twice -/
def Uniq (ps : List (Nat × Nat)) : Prop := ∀ (r s : Nat) (p : Nat × Nat), ps[r]? = some p → ps[s]? = some p → r = s
theorem rk_of {ps : List (Nat × Nat)} (u : Uniq ps) {q : Nat × Nat} {r : Nat} (h : ps[r]? = some q) : rk 0 ps q = some r := by
  cases e : rk 0 ps q with
  | none => exact absurd (List.mem_of_getElem? h) (rk_none.mp e)
  | some s => rw [u r s q h (rk_some e)]
theorem putK_new_rk : ∀ (n : Nat) (ps : List (Nat × Nat)) (q : Nat × Nat), rkT n (ps ++ [q]) = rkT n ps ++ [(pk q, V.int ((n + ps.length : Nat) : Int))]
  | n, [], q => rfl
  | n, p :: ps, q => by
    show (pk p, V.int n) :: rkT (n + 1) (ps ++ [q]) = _
    rw [putK_new_rk (n + 1) ps q, show n + 1 + ps.length = n + (p :: ps).length by rw [List.length_cons]; omega]
    rfl
theorem rkT_put {ps : List (Nat × Nat)} {q : Nat × Nat} (h : q ∉ ps) : putK (rkT 0 ps) (pk q) (V.int (ps.length : Nat)) = rkT 0 (ps ++ [q]) := by
  rw [putK_new _ (by rw [rkT_val, rk_none.mpr h]; rfl), putK_new_rk, Nat.zero_add]
/-! ### attributes -/
theorem lk_hit {f : Str} {v : V} {fs : List (Str × V)} : List.lookup f ((f, v) :: fs) = some v := by
  simp [List.lookup]
theorem lk_skip {f g : Str} {v : V} {fs : List (Str × V)} (h : (f == g) = false) : List.lookup f ((g, v) :: fs) = List.lookup f fs := by
  simp [List.lookup, h]
/-! ### tuples stay -/
/-- the tuples that are tracked stay -/
def TK (H H' : Hp) : Prop := ∀ b xs, H b = some (.tup xs) → H' b = some (.tup xs)
theorem TK.of {H H' : Hp} (s : Same H H') : TK H H' := fun b xs e => s _ _ e
theorem TK.trans {H1 H2 H3 : Hp} (a : TK H1 H2) (b : TK H2 H3) : TK H1 H3 := fun c xs e => b _ _ (a _ _ e)
theorem TK.refl (H : Hp) : TK H H := fun _ _ e => e
theorem TK.upd {H : Hp} {p : Addr} {o : HO} (h : ∀ xs, H p ≠ some (.tup xs)) : TK H (upd H p o) := fun b xs e => by
  by_cases z : b = p
  · subst z
    exact absurd e (h xs)
  · rw [upd_ne z]
    exact e
theorem Same.new {H : Hp} {p : Addr} {o : HO} (h : H p = none) : Same H (upd H p o) := fun b x e => by
  rw [upd_ne (ne_of_none e h)]
  exact e
/-- a pair of the list at v -/
def PairsAt (H : Hp) : List Addr → List (Nat × Nat) → Prop := Paired fun a p => H a = some (.tup [.int (p.1 : Nat), .int (p.2 : Nat)])
theorem PairsAt.tk {H H' : Hp} {as : List Addr} {ps : List (Nat × Nat)} (h : PairsAt H as ps) (t : TK H H') : PairsAt H' as ps := L2.Paired.mapP h fun _ _ e => t _ _ e
theorem paired_get {α β : Type} {F : α → β → Prop} : ∀ {l : List α} {m : List β}, Paired F l m → ∀ {i : Nat} {b : β}, m[i]? = some b → ∃ a, l[i]? = some a ∧ F a b
  | _, _, .nil, _, _, e => by simp at e
  | _, _, .cons h t, 0, b, e => by
    simp at e
    subst e
    exact ⟨_, rfl, h⟩
  | _, _, .cons h t, i + 1, b, e => by
    obtain ⟨a, h1, h2⟩ := paired_get t (i := i) (b := b) (by simpa using e)
    exact ⟨a, by simpa using h1, h2⟩
theorem paired_get' {α β : Type} {F : α → β → Prop} : ∀ {l : List α} {m : List β}, Paired F l m → ∀ {i : Nat} {a : α}, l[i]? = some a → ∃ b, m[i]? = some b ∧ F a b
  | _, _, .nil, _, _, e => by simp at e
  | _, _, .cons h t, 0, b, e => by
    simp at e
    subst e
    exact ⟨_, rfl, h⟩
  | _, _, .cons h t, i + 1, b, e => by
    obtain ⟨a, h1, h2⟩ := paired_get' t (i := i) (a := b) (by simpa using e)
    exact ⟨a, by simpa using h1, h2⟩
/-! ### a list of joins -/
structure JD where
  al : List Nat
  ps : List (Nat × Nat)
abbrev JD.b (J : JD) : Nat := J.al.length
abbrev JD.n (J : JD) : Nat := J.al.length + J.ps.length
structure JD.Ok (J : JD) : Prop where
  prop : Proper J.al.length J.ps
  b1 : 1 ≤ J.al.length
  b30 : J.al.length ≤ 30
  p60 : J.ps.length ≤ 60
  short : ∀ p, p < J.al.length + J.ps.length → (ex J.al.length J.ps p).length ≤ 40
  asc : J.al.Pairwise (· < ·)
  rng : ∀ c ∈ J.al, 32 ≤ c ∧ c ≤ 126
theorem JD.Ok.nodup {J : JD} (h : J.Ok) : J.al.Nodup := h.asc.imp fun h => Nat.ne_of_lt h
theorem Proper.uniq {b : Nat} {ps : List (Nat × Nat)} (h : Proper b ps) : Uniq ps := h.nodup
/-- the attributes of a Joins -/
def jf (al : List Nat) (pa ta ra na : Addr) (lg : Int) : List (Str × V) := [("alphabet", .str (alS al)), ("pairs", .ref pa), ("texts", .ref ta), ("ranks", .ref ra), ("numbers", .ref na), ("longest", .int lg)]
/-- the texts of the pieces, as values -/
def txV (J : JD) : List V := (EX J.al.length J.ps).map fun W => V.str (tx J.al W)
/-- a Joins of J stands at p; where its parts stand -/
structure JAt (P : Program) (w : World) (K : PySem.W.Frag) (H : Hp) (p : Addr) (J : JD) (dx pa ta ra na : Addr) (lg : Int) (prs : List Addr) (kvs : List (Key × V)) : Prop where
  ob : H p = some (.ins (CJ K) dx (jf J.al pa ta ra na lg))
  pairs : H pa = some (.tup (prs.map V.ref))
  prs : PairsAt H prs J.ps
  texts : H ta = some (.lst (txV J))
  ranks : PD P w H ra (rkT 0 J.ps)
  nums : H na = some (.dK kvs)
  num1 : ∀ i, i < J.al.length → valV kvs (Sum.inr (tx J.al [i])) = some (.int (i : Nat))
  numl : kvs.length ≤ J.al.length + J.ps.length
def JIs (P : Program) (w : World) (K : PySem.W.Frag) (H : Hp) (p : Addr) (J : JD) : Prop := ∃ dx pa ta ra na lg prs kvs, JAt P w K H p J dx pa ta ra na lg prs kvs
section
variable {P : Program} {w : World} {K : PySem.W.Frag} {mg : Str → Option Value} {H H' : Hp} {p dx pa ta ra na : Addr} {J : JD} {lg : Int} {prs : List Addr} {kvs : List (Key × V)} {Q : V → Hp → Prop}
theorem JAt.same (h : JAt P w K H p J dx pa ta ra na lg prs kvs) (s : Same H H') : JAt P w K H' p J dx pa ta ra na lg prs kvs :=
  ⟨s _ _ h.ob, s _ _ h.pairs, h.prs.tk (.of s), s _ _ h.texts, h.ranks.same s, s _ _ h.nums, h.num1, h.numl⟩
theorem JIs.same (h : JIs P w K H p J) (s : Same H H') : JIs P w K H' p J := by
  obtain ⟨dx, pa, ta, ra, na, lg, prs, kvs, h⟩ := h
  exact ⟨dx, pa, ta, ra, na, lg, prs, kvs, h.same s⟩
/-- what reading an attribute asks -/
abbrev FldQ (K : PySem.W.Frag) (H : Hp) (p : Addr) (f : Str) (Q : V → Hp → Prop) : Prop := ∃ (a C dx : Addr) (fs : List (Str × V)) (v : V), V.ref p = .ref a ∧ H a = some (.ins C dx fs) ∧ Cls K C ∧ NoAttr K C f ∧ fs.lookup f = some v ∧ Q v H
theorem jf_alphabet {al : List Nat} : (jf al pa ta ra na lg).lookup ("alphabet" : Str) = some (.str (alS al)) := lk_hit
theorem jf_pairs {al : List Nat} : (jf al pa ta ra na lg).lookup ("pairs" : Str) = some (.ref pa) := by
  unfold jf
  rw [lk_skip (by decide +kernel), lk_hit]
theorem jf_texts {al : List Nat} : (jf al pa ta ra na lg).lookup ("texts" : Str) = some (.ref ta) := by
  unfold jf
  rw [lk_skip (by decide +kernel), lk_skip (by decide +kernel), lk_hit]
theorem jf_ranks {al : List Nat} : (jf al pa ta ra na lg).lookup ("ranks" : Str) = some (.ref ra) := by
  unfold jf
  rw [lk_skip (by decide +kernel), lk_skip (by decide +kernel), lk_skip (by decide +kernel), lk_hit]
theorem jf_numbers {al : List Nat} : (jf al pa ta ra na lg).lookup ("numbers" : Str) = some (.ref na) := by
  unfold jf
  rw [lk_skip (by decide +kernel), lk_skip (by decide +kernel), lk_skip (by decide +kernel), lk_skip (by decide +kernel), lk_hit]
theorem jf_longest {al : List Nat} : (jf al pa ta ra na lg).lookup ("longest" : Str) = some (.int lg) := by
  unfold jf
  rw [lk_skip (by decide +kernel), lk_skip (by decide +kernel), lk_skip (by decide +kernel), lk_skip (by decide +kernel), lk_skip (by decide +kernel), lk_hit]
theorem jf_no {al : List Nat} {m : Str} (h : (([("alphabet" : Str), "pairs", "texts", "ranks", "numbers", "longest"] : List Str).all fun g => !(m == g)) = true) : (jf al pa ta ra na lg).lookup m = none := by
  simp only [List.all_cons, List.all_nil, Bool.and_true, Bool.and_eq_true, Bool.not_eq_true'] at h
  obtain ⟨h1, h2, h3, h4, h5, h6⟩ := h
  unfold jf
  rw [lk_skip h1, lk_skip h2, lk_skip h3, lk_skip h4, lk_skip h5, lk_skip h6]
  rfl
theorem JAt.f_alphabet (T : Txt K mg) (h : JAt P w K H p J dx pa ta ra na lg prs kvs) (q : Q (.str (alS J.al)) H) : FldQ K H p "alphabet" Q := ⟨p, _, dx, _, _, rfl, h.ob, T.cls_J, T.no_J_alphabet, jf_alphabet, q⟩
theorem JAt.f_pairs (T : Txt K mg) (h : JAt P w K H p J dx pa ta ra na lg prs kvs) (q : Q (.ref pa) H) : FldQ K H p "pairs" Q := ⟨p, _, dx, _, _, rfl, h.ob, T.cls_J, T.no_J_pairs, jf_pairs, q⟩
theorem JAt.f_texts (T : Txt K mg) (h : JAt P w K H p J dx pa ta ra na lg prs kvs) (q : Q (.ref ta) H) : FldQ K H p "texts" Q := ⟨p, _, dx, _, _, rfl, h.ob, T.cls_J, T.no_J_texts, jf_texts, q⟩
theorem JAt.f_ranks (T : Txt K mg) (h : JAt P w K H p J dx pa ta ra na lg prs kvs) (q : Q (.ref ra) H) : FldQ K H p "ranks" Q := ⟨p, _, dx, _, _, rfl, h.ob, T.cls_J, T.no_J_ranks, jf_ranks, q⟩
theorem JAt.f_numbers (T : Txt K mg) (h : JAt P w K H p J dx pa ta ra na lg prs kvs) (q : Q (.ref na) H) : FldQ K H p "numbers" Q := ⟨p, _, dx, _, _, rfl, h.ob, T.cls_J, T.no_J_numbers, jf_numbers, q⟩
theorem JAt.f_longest (T : Txt K mg) (h : JAt P w K H p J dx pa ta ra na lg prs kvs) (q : Q (.int lg) H) : FldQ K H p "longest" Q := ⟨p, _, dx, _, _, rfl, h.ob, T.cls_J, T.no_J_longest, jf_longest, q⟩
end
theorem txV_len (J : JD) : (txV J).length = J.al.length + J.ps.length := by
  unfold txV
  rw [List.length_map, EX_len]
theorem txV_get {J : JD} {p : Nat} (h : p < J.al.length + J.ps.length) : (txV J)[p]? = some (.str (tx J.al (ex J.al.length J.ps p))) := by
  unfold txV
  have hl : p < (EX J.al.length J.ps).length := by rw [EX_len]; exact h
  rw [List.getElem?_map, List.getElem?_eq_getElem hl]
  unfold ex
  rw [List.getD_eq_getElem?_getD, List.getElem?_eq_getElem hl]
  rfl
/-- a pair, or None -/
def OptPair (H : Hp) (v : V) : Option (Nat × Nat) → Prop
  | none => v = .non
  | some c => ∃ a, v = .ref a ∧ H a = some (.tup [.int (c.1 : Nat), .int (c.2 : Nat)])
theorem OptPair.tk {H H' : Hp} {v : V} {o : Option (Nat × Nat)} (h : OptPair H v o) (t : TK H H') : OptPair H' v o := by
  cases o with
  | none => exact h
  | some c =>
    obtain ⟨a, e, q⟩ := h
    exact ⟨a, e, t _ _ q⟩
/-- an int or None -/
def nV : Option Nat → V
  | none => .non
  | some i => .int (i : Nat)
/-- a spine: a tuple of pairs (piece, bound) -/
def SpineAt (H : Hp) : List Addr → List (Nat × Option Nat) → Prop := Paired fun a e => H a = some (.tup [.int (e.1 : Nat), nV e.2])
theorem SpineAt.tk {H H' : Hp} {as : List Addr} {l : List (Nat × Option Nat)} (h : SpineAt H as l) (t : TK H H') : SpineAt H' as l := L2.Paired.mapP h fun _ _ e => t _ _ e
def SpineV (H : Hp) (v : V) (l : List (Nat × Option Nat)) : Prop := ∃ t as, v = .ref t ∧ H t = some (.tup (as.map V.ref)) ∧ SpineAt H as l
theorem SpineV.tk {H H' : Hp} {v : V} {l : List (Nat × Option Nat)} (h : SpineV H v l) (t : TK H H') : SpineV H' v l := by
  obtain ⟨a, as, e, q, s⟩ := h
  exact ⟨a, as, e, t _ _ q, s.tk t⟩
end J

set_option Elab.async false
set_option linter.all false
set_option maxRecDepth 100000
set_option maxHeartbeats 4000000
/-! Steps: walks of texts, comparisons of rows of numbers. -/
namespace J
open PySem PySem.Spec PyProof.Rows L2
/-! ### walks -/
theorem for_str {x : Str} {g : TG} {tb : TS} {D : Ends} {σ : L2.St} {H : Hp} (Pv : Nat → L2.St → Hp → Prop) (h0 : Pv 0 σ H)
    (hs : ∀ i c σ H, x.cps[i]? = some c → Pv i σ H → g (.str ⟨#[c]⟩) σ H fun σ2 H2 => tb { D with nx := Pv (i + 1), ct := Pv (i + 1), bk := D.nx } σ2 H2) (hd : ∀ σ H, Pv x.cps.size σ H → D.nx σ H) : ForB g tb D (Its x) σ H := by
  refine ⟨fun i m σ H => m = x.cps.size - i ∧ i ≤ x.cps.size ∧ Pv i σ H, ⟨x.cps.size, by simp, Nat.zero_le _, h0⟩, ?_⟩
  rintro i m σ H ⟨rfl, hi, p⟩
  by_cases hlt : i < x.cps.size
  · refine .inr ⟨hlt, Pv (i + 1), fun σ' H' p' => ⟨x.cps.size - (i + 1), by omega, rfl, hlt, p'⟩, ?_⟩
    rintro v H' ⟨rfl, c, hc, rfl⟩
    exact hs i c σ _ hc p
  · have e : i = x.cps.size := by omega
    rw [e] at p
    exact .inl ⟨Nat.le_of_eq e.symm, hd σ H p⟩
theorem for_enx {x : Str} {g : TG} {tb : TS} {D : Ends} {σ : L2.St} {H : Hp} (Pv : Nat → L2.St → Hp → Prop) (h0 : Pv 0 σ H)
    (hs : ∀ i c σ H t, x.cps[i]? = some c → Pv i σ H → H t = none → g (.ref t) σ (upd H t (.tup [.int (i : Nat), .str ⟨#[c]⟩])) fun σ2 H2 => tb { D with nx := Pv (i + 1), ct := Pv (i + 1), bk := D.nx } σ2 H2) (hd : ∀ σ H, Pv x.cps.size σ H → D.nx σ H) : ForB g tb D (Itx x) σ H := by
  refine ⟨fun i m σ H => m = x.cps.size - i ∧ i ≤ x.cps.size ∧ Pv i σ H, ⟨x.cps.size, by simp, Nat.zero_le _, h0⟩, ?_⟩
  rintro i m σ H ⟨rfl, hi, p⟩
  by_cases hlt : i < x.cps.size
  · refine .inr ⟨hlt, Pv (i + 1), fun σ' H' p' => ⟨x.cps.size - (i + 1), by omega, rfl, hlt, p'⟩, ?_⟩
    rintro v H' ⟨t, c, rfl, ht, rfl, hc⟩
    exact hs i c σ _ t hc p ht
  · have e : i = x.cps.size := by omega
    rw [e] at p
    exact .inl ⟨Nat.le_of_eq e.symm, hd σ H p⟩
theorem lc_str {x : Str} {g : TG} {tt : TT} {te : TE} {vs : List Nat} {σ : L2.St} {H1 : Hp} {D : Addr} {Qd : Hp → Prop} (Pv : Nat → Hp → Prop) (h0 : Pv 0 (upd H1 D (.lst [])))
    (hs : ∀ i c H, x.cps[i]? = some c → Pv i H → g (.str ⟨#[c]⟩) (wipe σ vs) H fun σ2 H2 => wipe σ2 vs = wipe σ vs ∧ tt σ2 H2 fun b H3 =>
      if b = true then te σ2 H3 fun y H4 => ∃ acc, H4 D = some (.lst acc) ∧ acc.length < sizeLine ∧ Pv (i + 1) (upd H4 D (.lst (acc ++ [y]))) else Pv (i + 1) H3) (hd : ∀ H, Pv x.cps.size H → Qd H) : LcB g tt te vs (Its x) σ H1 D Qd := by
  refine ⟨fun i m H => m = x.cps.size - i ∧ i ≤ x.cps.size ∧ Pv i H, ⟨x.cps.size, by simp, Nat.zero_le _, h0⟩, ?_⟩
  rintro i m H ⟨rfl, hi, p⟩
  by_cases hlt : i < x.cps.size
  · refine .inr ⟨hlt, Pv (i + 1), fun H' p' => ⟨x.cps.size - (i + 1), by omega, rfl, hlt, p'⟩, ?_⟩
    rintro v H' ⟨rfl, c, hc, rfl⟩
    exact hs i c _ hc p
  · have e : i = x.cps.size := by omega
    rw [e] at p
    exact .inl ⟨Nat.le_of_eq e.symm, hd H p⟩
/-- what a dict comprehension asks of its walk J -/
def DcB (g : TG) (tt : TT) (tk tv : TE) (vs : List Nat) (J : It) (σ : L2.St) (H1 : Hp) (D : Addr) (Qd : Hp → Prop) : Prop := ∃ W : Nat → Nat → Hp → Prop, (∃ m, W 0 m (upd H1 D (.dK []))) ∧ ∀ i m H, W i m H →
  (J.stop i H ∧ Qd H) ∨ (J.go i H ∧ ∃ Nx : Hp → Prop, (∀ H', Nx H' → ∃ m', m' < m ∧ W (i + 1) m' H') ∧ ∀ x H', J.yld i H x H' → g x (wipe σ vs) H' fun σ2 H2 => wipe σ2 vs = wipe σ vs ∧
    tt σ2 H2 fun b H3 => if b = true then tk σ2 H3 fun y H4 => tv σ2 H4 fun z H5 => ∃ kvs k, y = kV k ∧ H5 D = some (.dK kvs) ∧ kvs.length < sizeLine ∧ Nx (upd H5 D (.dK (putK kvs k z))) else Nx H3)
theorem dc_enx {x : Str} {g : TG} {tt : TT} {tk tv : TE} {vs : List Nat} {σ : L2.St} {H1 : Hp} {D : Addr} {Qd : Hp → Prop} (Pv : Nat → Hp → Prop) (h0 : Pv 0 (upd H1 D (.dK [])))
    (hs : ∀ i c H t, x.cps[i]? = some c → Pv i H → H t = none → g (.ref t) (wipe σ vs) (upd H t (.tup [.int (i : Nat), .str ⟨#[c]⟩])) fun σ2 H2 => wipe σ2 vs = wipe σ vs ∧ tt σ2 H2 fun b H3 =>
      if b = true then tk σ2 H3 fun y H4 => tv σ2 H4 fun z H5 => ∃ kvs k, y = kV k ∧ H5 D = some (.dK kvs) ∧ kvs.length < sizeLine ∧ Pv (i + 1) (upd H5 D (.dK (putK kvs k z))) else Pv (i + 1) H3) (hd : ∀ H, Pv x.cps.size H → Qd H) :
    DcB g tt tk tv vs (Itx x) σ H1 D Qd := by
  refine ⟨fun i m H => m = x.cps.size - i ∧ i ≤ x.cps.size ∧ Pv i H, ⟨x.cps.size, by simp, Nat.zero_le _, h0⟩, ?_⟩
  rintro i m H ⟨rfl, hi, p⟩
  by_cases hlt : i < x.cps.size
  · refine .inr ⟨hlt, Pv (i + 1), fun H' p' => ⟨x.cps.size - (i + 1), by omega, rfl, hlt, p'⟩, ?_⟩
    rintro v H' ⟨t, c, rfl, ht, rfl, hc⟩
    exact hs i c _ t hc p ht
  · have e : i = x.cps.size := by omega
    rw [e] at p
    exact .inl ⟨Nat.le_of_eq e.symm, hd H p⟩
/-! ### rows of numbers -/
def nI (n : Nat) : V := .int (n : Nat)
abbrev nIs (ns : List Nat) : List V := ns.map nI
theorem nI_inj {a b : Nat} (h : nI a = nI b) : a = b := by
  have e : (a : Int) = (b : Int) := V.int.inj h
  omega
theorem nIs_get {ns : List Nat} {i n : Nat} (h : ns[i]? = some n) : (nIs ns)[i]? = some (nI n) := by rw [List.getElem?_map, h] <;> rfl
theorem nIs_get' {ns : List Nat} {i : Nat} {v : V} (h : (nIs ns)[i]? = some v) : ∃ n, ns[i]? = some n ∧ v = nI n := by
  rw [List.getElem?_map] at h
  obtain ⟨n, h1, h2⟩ := Option.map_eq_some_iff.mp h
  exact ⟨n, h1, h2.symm⟩
theorem nIs_len (ns : List Nat) : (nIs ns).length = ns.length := List.length_map ..
theorem nIs_snoc (ns : List Nat) (n : Nat) : nIs ns ++ [nI n] = nIs (ns ++ [n]) := by simp
def nD (n : Nat) : PyData := .int (n : Nat)
theorem dp_ints (K : PySem.W.Frag) (H : Hp) : ∀ ns : List Nat, DpAll K H (nIs ns) (ns.map nD)
  | [] => .nil
  | n :: ns => .cons (.int _) (dp_ints K H ns)
theorem eqv_ints : ∀ ns ms : List Nat, PyData.eqvAll (ns.map nD) (ms.map nD) = decide (ns = ms)
  | [], [] => by simp [PyData.eqvAll]
  | [], _ :: _ => by simp [PyData.eqvAll]
  | _ :: _, [] => by simp [PyData.eqvAll]
  | n :: ns, m :: ms => by
    rw [List.map_cons, List.map_cons]
    unfold PyData.eqvAll
    rw [eqv_ints ns ms]
    have e : PyData.eqv (nD n) (nD m) = decide (n = m) := by
      show PyData.eqv (.int (n : Int)) (.int (m : Int)) = _
      unfold PyData.eqv
      by_cases h : n = m
      · simp [h]
      · have : ¬ (n : Int) = (m : Int) := by omega
        simp [h, this]
    rw [e]
    by_cases h : n = m
    · by_cases h2 : ns = ms
      · simp [h, h2]
      · simp [h, h2]
    · simp [h]
theorem lay_ints : ∀ ns : List Nat, PyData.canLayAll0 (ns.map nD) = true ∧ PyData.depthAll (ns.map nD) = 0
  | [] => by simp [PyData.canLayAll0, PyData.depthAll]
  | n :: ns => by
    obtain ⟨h1, h2⟩ := lay_ints ns
    rw [List.map_cons]
    unfold PyData.canLayAll0 PyData.depthAll
    rw [h1, h2]
    simp [nD, PyData.canLay0, PyData.depth]
theorem shaped_ints_t (ns : List Nat) : SeqAt.shaped (.tuple (ns.map nD)) = true := by
  obtain ⟨h1, h2⟩ := lay_ints ns
  simp [SeqAt.shaped, PyData.canLay0, PyData.depth, h1, h2]
theorem shaped_ints_l (ns : List Nat) : SeqAt.shaped (.list (ns.map nD)) = true := by
  obtain ⟨h1, h2⟩ := lay_ints ns
  simp [SeqAt.shaped, PyData.canLay0, PyData.depth, h1, h2]
/-- == of two tuples, two lists of numbers -/
theorem eq_tups {K : PySem.W.Frag} {H : Hp} {a b : Addr} {ns ms : List Nat} {Q : V → Hp → Prop} (ha : H a = some (.tup (nIs ns))) (hb : H b = some (.tup (nIs ms))) (q : Q (.bl (decide (ns = ms))) H) : rEqD K (.ref a) (.ref b) H Q := by
  refine ⟨_, _, .tup (SqT.of ha) (dp_ints K H ns), .tup (SqT.of hb) (dp_ints K H ms), shaped_ints_t ns, shaped_ints_t ms, ?_⟩
  have e : PyData.eqv (.tuple (ns.map nD)) (.tuple (ms.map nD)) = decide (ns = ms) := by
    unfold PyData.eqv
    exact eqv_ints ns ms
  rw [e]
  exact q
theorem eq_lsts {K : PySem.W.Frag} {H : Hp} {a b : Addr} {ns ms : List Nat} {Q : V → Hp → Prop} (ha : SqL K H a (nIs ns)) (hb : SqL K H b (nIs ms)) (q : Q (.bl (decide (ns = ms))) H) : rEqD K (.ref a) (.ref b) H Q := by
  refine ⟨_, _, .lst ha (dp_ints K H ns), .lst hb (dp_ints K H ms), shaped_ints_l ns, shaped_ints_l ms, ?_⟩
  have e : PyData.eqv (.list (ns.map nD)) (.list (ms.map nD)) = decide (ns = ms) := by
    unfold PyData.eqv
    exact eqv_ints ns ms
  rw [e]
  exact q
theorem ne_lsts {K : PySem.W.Frag} {H : Hp} {a b : Addr} {ns ms : List Nat} {Q : V → Hp → Prop} (ha : SqL K H a (nIs ns)) (hb : SqL K H b (nIs ms)) (q : Q (.bl (!decide (ns = ms))) H) : rNeD K (.ref a) (.ref b) H Q := by
  refine ⟨_, _, .lst ha (dp_ints K H ns), .lst hb (dp_ints K H ms), shaped_ints_l ns, shaped_ints_l ms, ?_⟩
  have e : PyData.eqv (.list (ns.map nD)) (.list (ms.map nD)) = decide (ns = ms) := by
    unfold PyData.eqv
    exact eqv_ints ns ms
  rw [e]
  exact q
theorem small_ok {n : Nat} (h : n ≤ 100000) : n ≤ sizeLine := by
  rw [sizeLine_eq]
  omega
theorem small_lt {n : Nat} (h : n ≤ 100000) : n < sizeLine := by
  rw [sizeLine_eq]
  omega
/-- a text of one sign against another -/
theorem one_lt {a b : Nat} : (⟨#[a]⟩ : Str).cps.toList < (⟨#[b]⟩ : Str).cps.toList ↔ a < b := by
  show [a] < [b] ↔ a < b
  constructor
  · intro h
    cases h with
    | cons h => cases h
    | rel h => exact h
  · intro h
    exact .rel h
end J

set_option Elab.async false
set_option linter.all false
set_option maxRecDepth 100000
set_option maxHeartbeats 4000000
/-! Walks: pieces, spines, side by side. -/
namespace J
open PySem PySem.Spec PyProof.Rows L2
section
variable {P : Program} {w : World} {K : PySem.W.Frag} {mg : Str → Option Value} {base : Heap}
def spBetween : Sp := fun vs H Q _ => ∃ v l m : Int, vs = [.int v, .int l, .int m] ∧ Q (.bl (decide (l ≤ v ∧ v ≤ m))) H
theorem ok_is_between (T : Txt K mg) : DefOk P w K mg base 1 "is_between" ["value", "least", "most"] spBetween := by
  refine mk_is_between T (fun vs H Q E h => ?_) (fun f cdv A outer s H vs Q E hr h => ?_)
  · obtain ⟨v, l, m, rfl, _⟩ := h
    rfl
  · obtain ⟨v, l, m, rfl, q⟩ := h
    refine ⟨_, (pss_one (ps_ret (pe_and (pe_callB (isiK (K := K)) rfl T.b_isinstance (by decide +kernel) (pa_cons (pv 0) (pa_cons (pe_bltn (v := .ty "int") rfl T.b_int (by decide +kernel) rfl) pa_nil))) (pe_and (pe_not (pe_callB (isiK (K := K)) rfl T.b_isinstance (by decide +kernel) (pa_cons (pv 0) (pa_cons (pe_bltn (v := .ty "bool") rfl T.b_bool (by decide +kernel) rfl) pa_nil)))) (pe_one (pe_chain op_le op_le (pv 1) (pv 0) (pv 2))))))), ?_⟩
    refine ⟨_, rfl, _, .ty "int", .type "int", .type "int", true, rfl, .ty "int", .base (.int v), kit_ty (by decide +kernel), true, rfl, ?_⟩
    refine iteT ?_
    refine ⟨_, rfl, _, .ty "bool", .type "int", .type "bool", false, rfl, .ty "bool", .base (.int v), kit_ty (by decide +kernel), false, rfl, true, rfl, ?_⟩
    refine iteT ?_
    refine ⟨_, rfl, _, rfl, _, _, rfl, rfl, _, rfl, ite2 (fun h1 => ?_) fun h1 => ?_⟩
    · refine ⟨_, rfl, _, _, rfl, rfl, ?_⟩
      have h1 : l ≤ v := of_decide_eq_true h1
      simpa [h1] using q
    · have h1 : ¬ l ≤ v := fun z => h1 (decide_eq_true z)
      simpa [h1] using q
/-- len(self.texts) -/
def spPieces (P : Program) (w : World) (K : PySem.W.Frag) : Sp := fun vs H Q _ => ∃ p J, vs = [.ref p] ∧ JIs P w K H p J ∧ Q (.int ((J.al.length + J.ps.length : Nat) : Int)) H
theorem ok_Joins_pieces (T : Txt K mg) : PrpOk P w K mg base 1 (CJ K) "pieces" (spPieces P w K) := by
  refine mk_Joins_pieces T (fun vs H Q E h => ?_) (fun f cdv A outer s H vs Q E hr h => ?_)
  · obtain ⟨p, J, rfl, _⟩ := h
    rfl
  · obtain ⟨p, J, rfl, ⟨dx, pa, ta, ra, na, lg, prs, kvs, hJ⟩, q⟩ := h
    refine ⟨_, (pss_one (ps_ret (pe_callB (lenK (K := K)) rfl T.b_len PySem.boot_len (pa_cons (fldK (K := K) (pv 0)) pa_nil)))), ?_⟩
    refine ⟨_, rfl, p, _, dx, _, _, rfl, hJ.ob, T.cls_J, T.no_J_texts, jf_texts, ?_⟩
    refine ⟨ta, _, rfl, .inl (SqL.of hJ.texts), ?_⟩
    rw [txV_len]
    exact q
def spIsPiece (P : Program) (w : World) (K : PySem.W.Frag) : Sp := fun vs H Q _ => ∃ p J, ∃ v : Int, vs = [.ref p, .int v] ∧ JIs P w K H p J ∧ Q (.bl (decide (0 ≤ v ∧ v ≤ ((J.al.length + J.ps.length : Nat) : Int) - 1))) H
theorem ok_Joins_is_piece (T : Txt K mg) : MetOk P w K mg base 2 (CJ K) "is_piece" ["self", "piece"] (spIsPiece P w K) := by
  have D_is_between := ok_is_between (P := P) (w := w) (base := base) T
  refine mk_Joins_is_piece T (fun vs H Q E h => ?_) (fun f cdv A outer s H vs Q E hr h => ?_)
  · obtain ⟨p, J, v, rfl, _⟩ := h
    rfl
  · obtain ⟨p, J, v, rfl, ⟨dx, pa, ta, ra, na, lg, prs, kvs, hJ⟩, q⟩ := h
    refine ⟨_, (pss_one (ps_ret (pe_def D_is_between hr (pa_cons (pv 1) (pa_cons pe_int (pa_cons (pe_op op_sub (pe_callB (lenK (K := K)) rfl T.b_len PySem.boot_len (pa_cons (fldK (K := K) (pv 0)) pa_nil)) pe_int) pa_nil)))))), ?_⟩
    refine ⟨_, rfl, _, rfl, p, _, dx, _, _, rfl, hJ.ob, T.cls_J, T.no_J_texts, jf_texts, ?_⟩
    refine ⟨ta, _, rfl, .inl (SqL.of hJ.texts), _, _, rfl, rfl, v, 0, _, rfl, ?_⟩
    rw [txV_len]
    exact q
def spCheckPiece (P : Program) (w : World) (K : PySem.W.Frag) : Sp := fun vs H Q _ => ∃ p J, ∃ v : Nat, vs = [.ref p, .int v] ∧ JIs P w K H p J ∧ v < J.al.length + J.ps.length ∧ Q .non H
theorem ok_Joins_check_piece (T : Txt K mg) : MetOk P w K mg base 3 (CJ K) "check_piece" ["self", "piece"] (spCheckPiece P w K) := by
  have M_Joins_is_piece := ok_Joins_is_piece (P := P) (w := w) (base := base) T
  refine mk_Joins_check_piece T (fun vs H Q E h => ?_) (fun f cdv A outer s H vs Q E hr h => ?_)
  · obtain ⟨p, J, v, rfl, _⟩ := h
    rfl
  · obtain ⟨p, J, v, rfl, hJ, hv, q⟩ := h
    obtain ⟨dx, pa, ta, ra, na, lg, prs, kvs, hA⟩ := id hJ
    refine ⟨_, (pss_one (ps_if (pt_not (pt_val (pe_met (pv 0) T.cls_J M_Joins_is_piece hr (pa_cons (pv 1) pa_nil)))) (pss_one ps_never) pss_nil)), ?_⟩
    refine ⟨_, rfl, p, dx, _, rfl, hA.ob, jf_no (by decide +kernel), _, rfl, p, J, v, rfl, hJ, _, rfl, ?_⟩
    refine iteNS (by omega) ?_
    exact q
def spTextOf (P : Program) (w : World) (K : PySem.W.Frag) : Sp := fun vs H Q _ => ∃ p J, ∃ v : Nat, vs = [.ref p, .int v] ∧ JIs P w K H p J ∧ v < J.al.length + J.ps.length ∧ Q (.str (tx J.al (ex J.al.length J.ps v))) H
theorem ok_Joins_text_of (T : Txt K mg) : MetOk P w K mg base 4 (CJ K) "text_of" ["self", "piece"] (spTextOf P w K) := by
  have M_Joins_check_piece := ok_Joins_check_piece (P := P) (w := w) (base := base) T
  refine mk_Joins_text_of T (fun vs H Q E h => ?_) (fun f cdv A outer s H vs Q E hr h => ?_)
  · obtain ⟨p, J, v, rfl, _⟩ := h
    rfl
  · obtain ⟨p, J, v, rfl, hJ, hv, q⟩ := h
    obtain ⟨dx, pa, ta, ra, na, lg, prs, kvs, hA⟩ := id hJ
    refine ⟨_, (pss_cons (ps_expr (pe_met (pv 0) T.cls_J M_Joins_check_piece hr (pa_cons (pv 1) pa_nil)))
      (pss_one (ps_ret (pe_ix (ix_listK (K := K)) (fldK (K := K) (pv 0)) (pv 1) (fun _ _ => rfl))))), ?_⟩
    refine ⟨_, rfl, p, dx, _, rfl, hA.ob, jf_no (by decide +kernel), _, rfl, p, J, v, rfl, hJ, hv, ?_⟩
    refine ⟨_, rfl, p, _, dx, _, _, rfl, hA.ob, T.cls_J, T.no_J_texts, jf_texts, ?_⟩
    exact ⟨_, rfl, ta, _, _, _, rfl, rfl, SqL.of hA.texts, atI_nat (txV_get hv), q⟩
def spPartsOf (P : Program) (w : World) (K : PySem.W.Frag) : Sp := fun vs H Q _ => ∃ p J, ∃ v : Nat, vs = [.ref p, .int v] ∧ JIs P w K H p J ∧ J.al.length ≤ 30 ∧ v < J.al.length + J.ps.length ∧ ∀ u, OptPair H u (parts J.al.length J.ps v) → Q u H
theorem ok_Joins_parts_of (T : Txt K mg) : MetOk P w K mg base 4 (CJ K) "parts_of" ["self", "piece"] (spPartsOf P w K) := by
  have M_Joins_check_piece := ok_Joins_check_piece (P := P) (w := w) (base := base) T
  refine mk_Joins_parts_of T (fun vs H Q E h => ?_) (fun f cdv A outer s H vs Q E hr h => ?_)
  · obtain ⟨p, J, v, rfl, _⟩ := h
    rfl
  · obtain ⟨p, J, v, rfl, hJ, hb, hv, q⟩ := h
    obtain ⟨dx, pa, ta, ra, na, lg, prs, kvs, hA⟩ := id hJ
    refine ⟨_, (pss_cons (ps_expr (pe_met (pv 0) T.cls_J M_Joins_check_piece hr (pa_cons (pv 1) pa_nil)))
      (pss_cons (ps_if (pt_cmpR op_lt (pv 1) (pe_callB call_len_str rfl T.b_len PySem.boot_len (pa_cons (fldK (K := K) (pv 0)) pa_nil)) (nomark _)) (pss_one (ps_ret pe_non)) pss_nil)
      (pss_one (ps_ret (pe_ix (ix_tupK (K := K)) (fldK (K := K) (pv 0)) (pe_op op_sub (pv 1) (pe_callB call_len_str rfl T.b_len PySem.boot_len (pa_cons (fldK (K := K) (pv 0)) pa_nil))) (fun _ _ => rfl)))))), ?_⟩
    refine ⟨_, rfl, p, dx, _, rfl, hA.ob, jf_no (by decide +kernel), _, rfl, p, J, v, rfl, hJ, hv, ?_⟩
    refine ⟨_, rfl, _, rfl, p, _, dx, _, _, rfl, hA.ob, T.cls_J, T.no_J_alphabet, jf_alphabet, _, rfl, by rw [alS_len, sizeLine_eq]; omega, _, _, rfl, rfl, _, rfl, ite2 (fun h1 => ?_) fun h1 => ?_⟩
    · have h1 := of_decide_eq_true h1
      rw [alS_len] at h1
      refine q _ ?_
      rw [parts_letter (by omega)]
      rfl
    · have h1 : ¬ ((v : Int) < (alS J.al).length) := fun z => h1 (decide_eq_true z)
      rw [alS_len] at h1
      obtain ⟨c, hc⟩ : ∃ c, J.ps[v - J.al.length]? = some c := ⟨_, List.getElem?_eq_getElem (by omega)⟩
      obtain ⟨a, ha1, ha2⟩ := paired_get hA.prs hc
      refine ⟨_, rfl, p, _, dx, _, _, rfl, hA.ob, T.cls_J, T.no_J_pairs, jf_pairs, _, rfl, _, rfl, p, _, dx, _, _, rfl, hA.ob, T.cls_J, T.no_J_alphabet, jf_alphabet, _, rfl, by rw [alS_len, sizeLine_eq]; omega, _, _, rfl, rfl, ?_⟩
      rw [alS_len]
      refine ⟨pa, _, _, .ref a, rfl, rfl, SqT.of hA.pairs, at_of (j := v - J.al.length) (by omega) (by rw [List.getElem?_map, ha1]; rfl), ?_⟩
      refine q _ ?_
      unfold parts
      rw [if_neg (by omega), hc]
      exact ⟨a, rfl, ha2⟩
def spSpine (P : Program) (w : World) (K : PySem.W.Frag) (sp : Nat → List (Nat × Nat) → Nat → Nat → Option Nat → List (Nat × Option Nat)) : Sp := fun vs H Q _ => ∃ p J, ∃ v : Nat, vs = [.ref p, .int v] ∧ JIs P w K H p J ∧ J.Ok ∧ v < J.al.length + J.ps.length ∧
  ∀ H' u, Same H H' → SpineV H' u (sp J.al.length J.ps v v none) → Q u H'
theorem two_ok : ([] : List V).length + 2 ≤ sizeLine := by decide
theorem ok_right_spine (T : Txt K mg) : DefOk P w K mg base 5 "right_spine" ["joins", "piece"] (spSpine P w K rsp) := by
  have M_Joins_parts_of := ok_Joins_parts_of (P := P) (w := w) (base := base) T
  refine mk_right_spine T (fun vs H Q E h => ?_) (fun f cdv A outer s H vs Q E hr h => ?_)
  · obtain ⟨p, J, v, rfl, _⟩ := h
    rfl
  · obtain ⟨p, J, v, rfl, hJ, ok, hv, q⟩ := h
    obtain ⟨dx, pa, ta, ra, na, lg, prs, kvs, hA⟩ := id hJ
    refine ⟨_, (pss_cons (ps_st 2 sc_right_spine.nd (pe_met (pv 0) T.cls_J M_Joins_parts_of hr (pa_cons (pv 1) pa_nil)))
      (pss_cons (ps_st 3 sc_right_spine.nd (pe_lst (pa_cons (pe_tup (pa_cons (pv 1) (pa_cons pe_non pa_nil))) pa_nil)))
      (pss_cons (ps_while PassesOwn.never (pt_cmpR op_notN (pv 2) pe_non (nomark _)) (pss_cons (ps_expr (bmK (K := K) PySem.F.plainAttrs_list PySem.F.slot_list_append PySem.F.type_list_append mt_append (pv 3) (pa_cons (pe_tup (pa_cons (pe_ix (ix_tupK (K := K)) (pv 2) pe_int (fun _ _ => rfl)) (pa_cons (pdgetK (P := P) (w := w) (hu_of hr) (fldK (K := K) (pv 0)) (pv 2)) pa_nil))) pa_nil)))
        (pss_one (ps_st 2 sc_right_spine.nd (pe_met (pv 0) T.cls_J M_Joins_parts_of hr (pa_cons (pe_ix (ix_tupK (K := K)) (pv 2) pe_int (fun _ _ => rfl)) pa_nil))))))
      (pss_one (ps_ret (pe_callTy (tupK (K := K)) rfl T.b_tuple (by decide +kernel) (pa_cons (pv 3) pa_nil))))))), ?_⟩
    -- parts = joins.parts_of(piece)
    refine ⟨_, rfl, p, dx, _, rfl, hA.ob, jf_no (by decide +kernel), _, rfl, p, J, v, rfl, hJ, ok.b30, hv, fun u hu => ?_⟩
    -- spine = [(piece, None)]
    refine ⟨_, rfl, two_ok, fun t ht => ⟨by show 1 ≤ sizeLine; decide, fun l hl => ?_⟩⟩
    have s1 : Same H (upd H t (.tup [.int (v : Nat), .non])) := Same.new ht
    have s2 := s1.trans (Same.new (o := .lst [.ref t]) hl)
    -- while
    refine ⟨fun m σ' H' => ∃ (x : Nat) (B : Option Nat) (done : List (Nat × Option Nat)) (as : List Addr) (u : V), σ' = [some (.ref p), some (.int (v : Nat)), some u, some (.ref l)] ∧ Same H H' ∧ H l = none ∧ H' l = some (.lst (as.map V.ref)) ∧ SpineAt H' as (done ++ [(x, B)]) ∧
      OptPair H' u (parts J.al.length J.ps x) ∧ x < J.al.length + J.ps.length ∧ x ≤ m ∧ rsp J.al.length J.ps v v none = done ++ rsp J.al.length J.ps m x B ∧ as.length + m ≤ v + 1,
      ⟨v, v, none, [], [t], u, rfl, s2, s1.free hl, upd_same, .cons (by rw [upd_ne (ne_of_none upd_same hl)]; exact upd_same) .nil, hu.tk (.of s2), hv, Nat.le_refl _, rfl, Nat.le_of_eq (Nat.add_comm 1 v)⟩, ?_⟩
    rintro m σ' H' ⟨x, B, done, as, u, rfl, sm, nl, hL, hS, hO, hx, hxm, heq, hlen⟩
    refine ⟨_, rfl, rfl, _, rfl, ?_⟩
    cases hp : parts J.al.length J.ps x with
    | none =>
      rw [hp] at hO
      obtain rfl : u = V.non := hO
      refine iteF ?_
      -- return tuple(spine)
      refine ⟨_, rfl, l, _, rfl, .inl ⟨SqL.of hL, fun z hz => ?_⟩⟩
      refine q _ _ (sm.trans (Same.new hz)) ⟨z, as, rfl, upd_same, ?_⟩
      have e : rsp J.al.length J.ps m x B = [(x, B)] := by
        cases m with
        | zero => rfl
        | succ m =>
          unfold rsp
          rw [hp]
      rw [heq, e]
      exact hS.tk (.of (Same.new hz))
    | some c =>
      rw [hp] at hO
      obtain ⟨a, rfl, ha⟩ := hO
      have hxb : ¬ x < J.al.length := fun z => by
        rw [parts_letter z] at hp
        cases hp
      obtain ⟨k, rfl⟩ : ∃ k, x = J.al.length + k := ⟨x - J.al.length, by omega⟩
      rw [parts_made] at hp
      have hlow := ok.prop.low k c hp
      have h1 := ok.b1
      obtain ⟨m, rfl⟩ : ∃ m', m = m' + 1 := ⟨m - 1, by omega⟩
      refine iteT ?_
      refine ⟨_, fun σ' H' h => ⟨m, Nat.lt_succ_self _, h⟩, ?_⟩
      have hA' := hA.same sm
      have hJ' := hJ.same sm
      -- spine.append((parts[1], joins.ranks[parts]))
      refine ⟨_, rfl, .inl ⟨rfl, _, SqL.of hL⟩, _, rfl, a, _, _, _, rfl, rfl, SqT.of ha, atI_nat (j := 1) rfl, _, rfl, p, _, dx, _, _, rfl, hA'.ob, T.cls_J, T.no_J_ranks, jf_ranks, _, rfl, ra, a, pk c, _, .int (k : Nat), rfl, rfl, hA'.ranks, ha, ?_, two_ok, fun t ht => ?_⟩
      · rw [rkT_val, rk_of ok.prop.uniq hp]
        rfl
      have nlt : l ≠ t := ne_of_none hL ht
      have s3 : Same H' (upd H' t (.tup [.int (c.2 : Nat), .int (k : Nat)])) := Same.new ht
      refine ⟨l, _, _, rfl, rfl, by rw [upd_ne nlt]; exact hL, by rw [List.length_map, sizeLine_eq]; have := ok.p60; have := ok.b30; omega, ?_⟩
      have s4 : Same H (upd (upd H' t (.tup [.int (c.2 : Nat), .int (k : Nat)])) l (.lst (as.map V.ref ++ [.ref t]))) := fun b o e => by
        rw [upd_ne (ne_of_none e nl)]
        exact s3 _ _ (sm _ _ e)
      have tk : TK H' (upd (upd H' t (.tup [.int (c.2 : Nat), .int (k : Nat)])) l (.lst (as.map V.ref ++ [.ref t]))) := fun b xs e => by
        rw [upd_ne (ne_of e hL fun z => nomatch z)]
        exact s3 _ _ e
      have hA4 := hA.same s4
      have ha4 := tk _ _ ha
      -- parts = joins.parts_of(parts[1])
      refine ⟨_, rfl, p, dx, _, rfl, hA4.ob, jf_no (by decide +kernel), _, rfl, a, _, _, _, rfl, rfl, SqT.of ha4, atI_nat (j := 1) rfl, p, J, c.2, rfl, hJ.same s4, ok.b30, by omega, fun u hu => ?_⟩
      refine ⟨c.2, some k, done ++ [(J.al.length + k, B)], as ++ [t], u, rfl, s4, nl, by rw [upd_same, List.map_append]; rfl, ?_, hu, by omega, by omega, ?_, by rw [List.length_append, List.length_singleton]; omega⟩
      · refine Paired.snoc (hS.tk tk) ?_
        rw [upd_ne nlt.symm]
        exact upd_same
      · rw [heq, List.append_assoc]
        congr 1
        have hx : rsp J.al.length J.ps (m + 1) (J.al.length + k) B = (J.al.length + k, B) :: (match parts J.al.length J.ps (J.al.length + k) with
          | none => []
          | some c => rsp J.al.length J.ps m c.2 (some (J.al.length + k - J.al.length))) := rfl
        rw [hx, parts_made, hp, Nat.add_sub_cancel_left]
        rfl
theorem ok_left_spine (T : Txt K mg) : DefOk P w K mg base 5 "left_spine" ["joins", "piece"] (spSpine P w K lsp) := by
  have M_Joins_parts_of := ok_Joins_parts_of (P := P) (w := w) (base := base) T
  refine mk_left_spine T (fun vs H Q E h => ?_) (fun f cdv A outer s H vs Q E hr h => ?_)
  · obtain ⟨p, J, v, rfl, _⟩ := h
    rfl
  · obtain ⟨p, J, v, rfl, hJ, ok, hv, q⟩ := h
    obtain ⟨dx, pa, ta, ra, na, lg, prs, kvs, hA⟩ := id hJ
    refine ⟨_, (pss_cons (ps_st 2 sc_left_spine.nd (pe_met (pv 0) T.cls_J M_Joins_parts_of hr (pa_cons (pv 1) pa_nil)))
      (pss_cons (ps_st 3 sc_left_spine.nd (pe_lst (pa_cons (pe_tup (pa_cons (pv 1) (pa_cons pe_non pa_nil))) pa_nil)))
      (pss_cons (ps_while PassesOwn.never (pt_cmpR op_notN (pv 2) pe_non (nomark _)) (pss_cons (ps_expr (bmK (K := K) PySem.F.plainAttrs_list PySem.F.slot_list_append PySem.F.type_list_append mt_append (pv 3) (pa_cons (pe_tup (pa_cons (pe_ix (ix_tupK (K := K)) (pv 2) pe_int (fun _ _ => rfl)) (pa_cons (pdgetK (P := P) (w := w) (hu_of hr) (fldK (K := K) (pv 0)) (pv 2)) pa_nil))) pa_nil)))
        (pss_one (ps_st 2 sc_left_spine.nd (pe_met (pv 0) T.cls_J M_Joins_parts_of hr (pa_cons (pe_ix (ix_tupK (K := K)) (pv 2) pe_int (fun _ _ => rfl)) pa_nil))))))
      (pss_one (ps_ret (pe_callTy (tupK (K := K)) rfl T.b_tuple (by decide +kernel) (pa_cons (pv 3) pa_nil))))))), ?_⟩
    -- parts = joins.parts_of(piece)
    refine ⟨_, rfl, p, dx, _, rfl, hA.ob, jf_no (by decide +kernel), _, rfl, p, J, v, rfl, hJ, ok.b30, hv, fun u hu => ?_⟩
    -- spine = [(piece, None)]
    refine ⟨_, rfl, two_ok, fun t ht => ⟨by show 1 ≤ sizeLine; decide, fun l hl => ?_⟩⟩
    have s1 : Same H (upd H t (.tup [.int (v : Nat), .non])) := Same.new ht
    have s2 := s1.trans (Same.new (o := .lst [.ref t]) hl)
    -- while
    refine ⟨fun m σ' H' => ∃ (x : Nat) (B : Option Nat) (done : List (Nat × Option Nat)) (as : List Addr) (u : V), σ' = [some (.ref p), some (.int (v : Nat)), some u, some (.ref l)] ∧ Same H H' ∧ H l = none ∧ H' l = some (.lst (as.map V.ref)) ∧ SpineAt H' as (done ++ [(x, B)]) ∧
      OptPair H' u (parts J.al.length J.ps x) ∧ x < J.al.length + J.ps.length ∧ x ≤ m ∧ lsp J.al.length J.ps v v none = done ++ lsp J.al.length J.ps m x B ∧ as.length + m ≤ v + 1,
      ⟨v, v, none, [], [t], u, rfl, s2, s1.free hl, upd_same, .cons (by rw [upd_ne (ne_of_none upd_same hl)]; exact upd_same) .nil, hu.tk (.of s2), hv, Nat.le_refl _, rfl, Nat.le_of_eq (Nat.add_comm 1 v)⟩, ?_⟩
    rintro m σ' H' ⟨x, B, done, as, u, rfl, sm, nl, hL, hS, hO, hx, hxm, heq, hlen⟩
    refine ⟨_, rfl, rfl, _, rfl, ?_⟩
    cases hp : parts J.al.length J.ps x with
    | none =>
      rw [hp] at hO
      obtain rfl : u = V.non := hO
      refine iteF ?_
      -- return tuple(spine)
      refine ⟨_, rfl, l, _, rfl, .inl ⟨SqL.of hL, fun z hz => ?_⟩⟩
      refine q _ _ (sm.trans (Same.new hz)) ⟨z, as, rfl, upd_same, ?_⟩
      have e : lsp J.al.length J.ps m x B = [(x, B)] := by
        cases m with
        | zero => rfl
        | succ m =>
          unfold lsp
          rw [hp]
      rw [heq, e]
      exact hS.tk (.of (Same.new hz))
    | some c =>
      rw [hp] at hO
      obtain ⟨a, rfl, ha⟩ := hO
      have hxb : ¬ x < J.al.length := fun z => by
        rw [parts_letter z] at hp
        cases hp
      obtain ⟨k, rfl⟩ : ∃ k, x = J.al.length + k := ⟨x - J.al.length, by omega⟩
      rw [parts_made] at hp
      have hlow := ok.prop.low k c hp
      have h1 := ok.b1
      obtain ⟨m, rfl⟩ : ∃ m', m = m' + 1 := ⟨m - 1, by omega⟩
      refine iteT ?_
      refine ⟨_, fun σ' H' h => ⟨m, Nat.lt_succ_self _, h⟩, ?_⟩
      have hA' := hA.same sm
      have hJ' := hJ.same sm
      -- spine.append((parts[1], joins.ranks[parts]))
      refine ⟨_, rfl, .inl ⟨rfl, _, SqL.of hL⟩, _, rfl, a, _, _, _, rfl, rfl, SqT.of ha, atI_nat (j := 0) rfl, _, rfl, p, _, dx, _, _, rfl, hA'.ob, T.cls_J, T.no_J_ranks, jf_ranks, _, rfl, ra, a, pk c, _, .int (k : Nat), rfl, rfl, hA'.ranks, ha, ?_, two_ok, fun t ht => ?_⟩
      · rw [rkT_val, rk_of ok.prop.uniq hp]
        rfl
      have nlt : l ≠ t := ne_of_none hL ht
      have s3 : Same H' (upd H' t (.tup [.int (c.1 : Nat), .int (k : Nat)])) := Same.new ht
      refine ⟨l, _, _, rfl, rfl, by rw [upd_ne nlt]; exact hL, by rw [List.length_map, sizeLine_eq]; have := ok.p60; have := ok.b30; omega, ?_⟩
      have s4 : Same H (upd (upd H' t (.tup [.int (c.1 : Nat), .int (k : Nat)])) l (.lst (as.map V.ref ++ [.ref t]))) := fun b o e => by
        rw [upd_ne (ne_of_none e nl)]
        exact s3 _ _ (sm _ _ e)
      have tk : TK H' (upd (upd H' t (.tup [.int (c.1 : Nat), .int (k : Nat)])) l (.lst (as.map V.ref ++ [.ref t]))) := fun b xs e => by
        rw [upd_ne (ne_of e hL fun z => nomatch z)]
        exact s3 _ _ e
      have hA4 := hA.same s4
      have ha4 := tk _ _ ha
      -- parts = joins.parts_of(parts[1])
      refine ⟨_, rfl, p, dx, _, rfl, hA4.ob, jf_no (by decide +kernel), _, rfl, a, _, _, _, rfl, rfl, SqT.of ha4, atI_nat (j := 0) rfl, p, J, c.1, rfl, hJ.same s4, ok.b30, by omega, fun u hu => ?_⟩
      refine ⟨c.1, some k, done ++ [(J.al.length + k, B)], as ++ [t], u, rfl, s4, nl, by rw [upd_same, List.map_append]; rfl, ?_, hu, by omega, by omega, ?_, by rw [List.length_append, List.length_singleton]; omega⟩
      · refine Paired.snoc (hS.tk tk) ?_
        rw [upd_ne nlt.symm]
        exact upd_same
      · rw [heq, List.append_assoc]
        congr 1
        have hx : lsp J.al.length J.ps (m + 1) (J.al.length + k) B = (J.al.length + k, B) :: (match parts J.al.length J.ps (J.al.length + k) with
          | none => []
          | some c => lsp J.al.length J.ps m c.1 (some (J.al.length + k - J.al.length))) := rfl
        rw [hx, parts_made, hp, Nat.add_sub_cancel_left]
        rfl
/-- no join of these two crosses -/
def Free (ps : List (Nat × Nat)) (e d : Nat × Option Nat) : Prop := ∀ r, ps[r]? = some (e.1, d.1) → ¬ (ltB r e.2 = true ∧ leB r d.2 = true)
/-- what best tells of the pairs seen so far -/
def BestOk (b : Nat) (ps : List (Nat × Nat)) (l r : Nat) (seen : Nat × Option Nat → Nat × Option Nat → Prop) (best : V) : Prop :=
  (best = .non ∧ ∀ e d, seen e d → Free ps e d) ∨ ∃ k : Nat, best = .int k ∧ ¬ Side b ps l r
def spCross (P : Program) (w : World) (K : PySem.W.Frag) : Sp := fun vs H Q _ => ∃ p J, ∃ l r : Nat, vs = [.ref p, .int l, .int r] ∧ JIs P w K H p J ∧ J.Ok ∧ l < J.al.length + J.ps.length ∧ r < J.al.length + J.ps.length ∧
  ∀ H' u, Same H H' → ((u = .non ∧ Side J.al.length J.ps l r) ∨ ∃ k : Nat, u = .int k ∧ ¬ Side J.al.length J.ps l r) → Q u H'
theorem mem_take_succ {α : Type} {l : List α} {i : Nat} {x y : α} (h : l[i]? = some x) : y ∈ l.take (i + 1) ↔ y ∈ l.take i ∨ y = x := by
  rw [List.take_add_one, h]
  simp
theorem ok_crossing (T : Txt K mg) : DefOk P w K mg base 6 "crossing" ["joins", "left", "right"] (spCross P w K) := by
  have D_left_spine := ok_left_spine (P := P) (w := w) (base := base) T
  have D_right_spine := ok_right_spine (P := P) (w := w) (base := base) T
  refine mk_crossing T (fun vs H Q E h => ?_) (fun f cdv A outer s H vs Q E hr h => ?_)
  · obtain ⟨p, J, l, r, rfl, _⟩ := h
    rfl
  · obtain ⟨p, J, l, r, rfl, hJ, ok, hl, hr', q⟩ := h
    refine ⟨_, (pss_cons (ps_st 3 sc_crossing.nd pe_non)
      (pss_cons (ps_st 4 sc_crossing.nd (pe_def D_right_spine hr (pa_cons (pv 0) (pa_cons (pv 1) pa_nil))))
      (pss_cons (ps_st 5 sc_crossing.nd (pe_def D_left_spine hr (pa_cons (pv 0) (pa_cons (pv 2) pa_nil))))
      (pss_cons (ps_for PassesOwn.never rfl (pi_tup (pv 4)) (ptupK (K := K) (n := 2) rfl (pgs_cons (pg_n 6 sc_crossing.nd) (pgs_cons (pg_n 7 sc_crossing.nd) pgs_nil)))
        (pss_one (ps_for PassesOwn.never rfl (pi_tup (pv 5)) (ptupK (K := K) (n := 2) rfl (pgs_cons (pg_n 8 sc_crossing.nd) (pgs_cons (pg_n 9 sc_crossing.nd) pgs_nil)))
          (pss_cons (ps_st 10 sc_crossing.nd (pdget1K (P := P) (w := w) (hu_of hr) (fldK (K := K) (pv 0)) (pe_tup (pa_cons (pv 6) (pa_cons (pv 8) pa_nil)))))
          (pss_one (ps_if (PW.pt (pw_and (pt_cmpR op_notN (pv 10) pe_non (nomark _)) (pw_and (PW.pt (pw_or (pt_cmpR op_isN (pv 7) pe_non (nomark _)) (pw_or1 (pt_cmpR op_lt (pv 10) (pv 7) (nomark _))))) (pw_and1 (PW.pt (pw_or (pt_cmpR op_isN (pv 9) pe_non (nomark _)) (pw_or1 (pt_cmpR op_le (pv 10) (pv 9) (nomark _))))))))) (pss_one (ps_if (PW.pt (pw_or (pt_cmpR op_isN (pv 3) pe_non (nomark _)) (pw_or1 (pt_cmpR op_lt (pv 10) (pv 3) (nomark _))))) (pss_one (ps_st 3 sc_crossing.nd (pv 10))) pss_nil)) pss_nil))))))
      (pss_one (ps_ret (pv 3))))))), ?_⟩
    -- ahead, behind
    refine ⟨_, rfl, _, rfl, p, J, l, rfl, hJ, ok, hl, fun H1 u1 s1 hu1 => ?_⟩
    refine ⟨_, rfl, _, rfl, p, J, r, rfl, hJ.same s1, ok, hr', fun H2 u2 s2 hu2 => ?_⟩
    obtain ⟨t1, as, rfl, ht1, hS1⟩ := hu1.tk (.of s2)
    obtain ⟨t2, bs, rfl, ht2, hS2⟩ := hu2
    have s12 := s1.trans s2
    generalize hla : rsp J.al.length J.ps l l none = la at hS1
    generalize hlb : lsp J.al.length J.ps r r none = lb at hS2
    refine ⟨_, rfl, t1, rfl, ⟨_, SqT.of ht1⟩, for_tup (K := K) (xs := as.map V.ref) (fun i σ' H' => ∃ (best : V) (y6 y7 y8 y9 y10 : Option V), σ' = [some (.ref p), some (.int (l : Nat)), some (.int (r : Nat)), some best, some (.ref t1), some (.ref t2), y6, y7, y8, y9, y10] ∧ Same H2 H' ∧
      BestOk J.al.length J.ps l r (fun e d => e ∈ la.take i ∧ d ∈ lb) best) ⟨.non, none, none, none, none, none, rfl, Same.refl _, .inl ⟨rfl, fun e d z => by simp at z⟩⟩ (fun i σ' H' _ ⟨_, _, _, _, _, _, _, sm, _⟩ => SqT.of (sm _ _ ht1)) ?_ ?_⟩
    · rintro i xv σ' H' hi ⟨best, y6, y7, y8, y9, y10, rfl, sm, hB⟩
      rw [List.getElem?_map] at hi
      obtain ⟨a, ha, rfl⟩ := Option.map_eq_some_iff.mp hi
      obtain ⟨e, he, hae⟩ := paired_get' hS1 ha
      refine ⟨a, _, rfl, SqT.of (sm _ _ hae), rfl, _, _, rfl, _, _, rfl, rfl, ?_⟩
      -- the inner walk
      refine ⟨_, rfl, t2, rfl, ⟨_, SqT.of (sm _ _ ht2)⟩, for_tup (K := K) (xs := bs.map V.ref) (fun j σ' H3 => ∃ (best : V) (y8 y9 y10 : Option V), σ' = [some (.ref p), some (.int (l : Nat)), some (.int (r : Nat)), some best, some (.ref t1), some (.ref t2), some (.int (e.1 : Nat)), some (nV e.2), y8, y9, y10] ∧ Same H2 H3 ∧
        BestOk J.al.length J.ps l r (fun e' d => (e' ∈ la.take i ∧ d ∈ lb) ∨ (e' = e ∧ d ∈ lb.take j)) best) ⟨best, y8, y9, y10, rfl, sm, ?_⟩ (fun j σ' H3 _ ⟨_, _, _, _, _, sm3, _⟩ => SqT.of (sm3 _ _ ht2)) ?_ ?_⟩
      · rcases hB with ⟨rfl, hB⟩ | hB
        · refine .inl ⟨rfl, fun e' d z => ?_⟩
          rcases z with z | z
          · exact hB e' d z
          · simp at z
        · exact .inr hB
      · rintro j xv σ' H3 hj ⟨best, y8, y9, y10, rfl, sm3, hB⟩
        rw [List.getElem?_map] at hj
        obtain ⟨c, hc, rfl⟩ := Option.map_eq_some_iff.mp hj
        obtain ⟨d, hd, hcd⟩ := paired_get' hS2 hc
        refine ⟨c, _, rfl, SqT.of (sm3 _ _ hcd), rfl, _, _, rfl, _, _, rfl, rfl, ?_⟩
        -- rank = joins.ranks.get((x, y))
        have hJ3 := hJ.same (s12.trans sm3)
        obtain ⟨dx, pa, ta, ra, na, lg, prs, kvs, hA⟩ := hJ3
        refine ⟨_, rfl, p, _, dx, _, _, rfl, hA.ob, T.cls_J, T.no_J_ranks, jf_ranks, ra, _, rfl, hA.ranks, _, rfl, _, rfl, two_ok, fun t ht => ?_⟩
        have s4 : Same H3 (upd H3 t (.tup [.int (e.1 : Nat), .int (d.1 : Nat)])) := Same.new ht
        have sm4 := sm3.trans s4
        refine ⟨t, pk (e.1, d.1), _, rfl, hA.ranks.same s4, upd_same, ?_⟩
        rw [rkT_val]
        -- both ways on
        have go : ∀ (best' : V) (y10 : Option V), BestOk J.al.length J.ps l r (fun e' d' => (e' ∈ la.take i ∧ d' ∈ lb) ∨ (e' = e ∧ d' ∈ lb.take (j + 1))) best' →
            ∃ (b2 : V) (z8 z9 z10 : Option V), [some (.ref p), some (.int (l : Nat)), some (.int (r : Nat)), some best', some (.ref t1), some (.ref t2), some (.int (e.1 : Nat)), some (nV e.2), some (V.int (d.1 : Nat)), some (nV d.2), y10] = [some (.ref p), some (.int (l : Nat)), some (.int (r : Nat)), some b2, some (.ref t1), some (.ref t2), some (.int (e.1 : Nat)), some (nV e.2), z8, z9, z10] ∧
              Same H2 (upd H3 t (.tup [.int (e.1 : Nat), .int (d.1 : Nat)])) ∧ BestOk J.al.length J.ps l r (fun e' d' => (e' ∈ la.take i ∧ d' ∈ lb) ∨ (e' = e ∧ d' ∈ lb.take (j + 1))) b2 := fun best' y10 hb => ⟨best', _, _, y10, rfl, sm4, hb⟩
        have keep : Free J.ps e d → BestOk J.al.length J.ps l r (fun e' d' => (e' ∈ la.take i ∧ d' ∈ lb) ∨ (e' = e ∧ d' ∈ lb.take (j + 1))) best := fun hf => by
          rcases hB with ⟨rfl, hB⟩ | hB
          · refine .inl ⟨rfl, fun e' d' z => ?_⟩
            rcases z with z | ⟨rfl, z⟩
            · exact hB e' d' (.inl z)
            · rcases (mem_take_succ hd).mp z with z | rfl
              · exact hB e' d' (.inr ⟨rfl, z⟩)
              · exact hf
          · exact .inr hB
        cases hrk : rk 0 J.ps (e.1, d.1) with
        | none =>
          refine ⟨_, rfl, rfl, _, rfl, iteF (iteF ?_)⟩
          refine go best _ (keep fun k hk => ?_)
          exact absurd (List.mem_of_getElem? hk) (rk_none.mp hrk)
        | some k =>
          have hk := rk_some hrk
          refine ⟨_, rfl, rfl, _, rfl, iteT ?_⟩
          have bad : ltB k e.2 = true → leB k d.2 = true → ¬ Side J.al.length J.ps l r := fun h1 h2 hs =>
            hs e (by rw [hla]; exact List.mem_of_getElem? he) d (by rw [hlb]; exact List.mem_of_getElem? hd) k hk ⟨h1, h2⟩
          have free1 : ltB k e.2 = false → Free J.ps e d := fun h1 r' hr' z => by
            rw [ok.prop.uniq _ _ _ hr' hk, h1] at z
            exact Bool.noConfusion z.1
          have free2 : leB k d.2 = false → Free J.ps e d := fun h1 r' hr' z => by
            rw [ok.prop.uniq _ _ _ hr' hk, h1] at z
            exact Bool.noConfusion z.2
          obtain ⟨e1, e2⟩ := e
          obtain ⟨d1, d2⟩ := d
          cases e2 with
          | none =>
            refine ⟨_, rfl, rfl, _, rfl, iteT (iteT ?_)⟩
            cases d2 with
            | none =>
              refine ⟨_, rfl, rfl, _, rfl, iteT (iteT ?_)⟩
              have hb := bad rfl rfl
              rcases hB with ⟨rfl, hB⟩ | ⟨k0, rfl, hB⟩
              · exact ⟨_, rfl, rfl, _, rfl, iteT (iteT ⟨_, rfl, go _ _ (.inr ⟨k, rfl, hb⟩)⟩)⟩
              · refine ⟨_, rfl, rfl, _, rfl, iteF ⟨_, rfl, _, rfl, _, _, rfl, rfl, _, rfl, ite2 (fun _ => ⟨_, rfl, go _ _ (.inr ⟨k, rfl, hb⟩)⟩) fun _ => go _ _ (.inr ⟨k0, rfl, hb⟩)⟩⟩
            | some kd =>
              refine ⟨_, rfl, rfl, _, rfl, iteF ⟨_, rfl, _, rfl, _, _, rfl, rfl, _, rfl, ite2 (fun h2 => ?_) fun h2 => ?_⟩⟩
              · have hb := bad rfl (decide_eq_true (show k ≤ kd by have := of_decide_eq_true h2; omega))
                rcases hB with ⟨rfl, hB⟩ | ⟨k0, rfl, hB⟩
                · exact ⟨_, rfl, rfl, _, rfl, iteT (iteT ⟨_, rfl, go _ _ (.inr ⟨k, rfl, hb⟩)⟩)⟩
                · refine ⟨_, rfl, rfl, _, rfl, iteF ⟨_, rfl, _, rfl, _, _, rfl, rfl, _, rfl, ite2 (fun _ => ⟨_, rfl, go _ _ (.inr ⟨k, rfl, hb⟩)⟩) fun _ => go _ _ (.inr ⟨k0, rfl, hb⟩)⟩⟩
              · exact go _ _ (keep (free2 (decide_eq_false fun z => h2 (decide_eq_true (by omega)))))
          | some ke =>
            refine ⟨_, rfl, rfl, _, rfl, iteF ⟨_, rfl, _, rfl, _, _, rfl, rfl, _, rfl, ite2 (fun h1 => ?_) fun h1 => ?_⟩⟩
            · have h1 : ltB k (some ke) = true := decide_eq_true (show k < ke by have := of_decide_eq_true h1; omega)
              cases d2 with
              | none =>
                refine ⟨_, rfl, rfl, _, rfl, iteT (iteT ?_)⟩
                have hb := bad h1 rfl
                rcases hB with ⟨rfl, hB⟩ | ⟨k0, rfl, hB⟩
                · exact ⟨_, rfl, rfl, _, rfl, iteT (iteT ⟨_, rfl, go _ _ (.inr ⟨k, rfl, hb⟩)⟩)⟩
                · refine ⟨_, rfl, rfl, _, rfl, iteF ⟨_, rfl, _, rfl, _, _, rfl, rfl, _, rfl, ite2 (fun _ => ⟨_, rfl, go _ _ (.inr ⟨k, rfl, hb⟩)⟩) fun _ => go _ _ (.inr ⟨k0, rfl, hb⟩)⟩⟩
              | some kd =>
                refine ⟨_, rfl, rfl, _, rfl, iteF ⟨_, rfl, _, rfl, _, _, rfl, rfl, _, rfl, ite2 (fun h2 => ?_) fun h2 => ?_⟩⟩
                · have hb := bad h1 (decide_eq_true (show k ≤ kd by have := of_decide_eq_true h2; omega))
                  rcases hB with ⟨rfl, hB⟩ | ⟨k0, rfl, hB⟩
                  · exact ⟨_, rfl, rfl, _, rfl, iteT (iteT ⟨_, rfl, go _ _ (.inr ⟨k, rfl, hb⟩)⟩)⟩
                  · refine ⟨_, rfl, rfl, _, rfl, iteF ⟨_, rfl, _, rfl, _, _, rfl, rfl, _, rfl, ite2 (fun _ => ⟨_, rfl, go _ _ (.inr ⟨k, rfl, hb⟩)⟩) fun _ => go _ _ (.inr ⟨k0, rfl, hb⟩)⟩⟩
                · exact go _ _ (keep (free2 (decide_eq_false fun z => h2 (decide_eq_true (by omega)))))
            · exact go _ _ (keep (free1 (decide_eq_false fun z => h1 (decide_eq_true (by omega)))))
      · rintro σ' H3 ⟨best, y8, y9, y10, rfl, sm3, hB⟩
        refine ⟨best, _, _, y8, y9, y10, rfl, sm3, ?_⟩
        rcases hB with ⟨rfl, hB⟩ | hB
        · refine .inl ⟨rfl, fun e' d z => ?_⟩
          rcases (mem_take_succ he).mp z.1 with z1 | z1
          · exact hB e' d (.inl ⟨z1, z.2⟩)
          · refine hB e' d (.inr ⟨z1, ?_⟩)
            rw [List.length_map, hS2.length, List.take_length]
            exact z.2
        · exact .inr hB
    · rintro σ' H' ⟨best, y6, y7, y8, y9, y10, rfl, sm, hB⟩
      refine ⟨_, rfl, q _ _ (s12.trans sm) ?_⟩
      rcases hB with ⟨rfl, hB⟩ | hB
      · refine .inl ⟨rfl, fun e he d hd k hk => ?_⟩
        rw [hla] at he
        rw [hlb] at hd
        refine hB e d ⟨?_, hd⟩ k hk
        rw [List.length_map, hS1.length, List.take_length]
        exact he
      · exact .inr hB
/-- side by side, told by a Bool -/
noncomputable def sideB (b : Nat) (ps : List (Nat × Nat)) (l r : Nat) : Bool := @decide (Side b ps l r) (Classical.propDecidable _)
theorem sideB_iff {b : Nat} {ps : List (Nat × Nat)} {l r : Nat} : sideB b ps l r = true ↔ Side b ps l r := by
  unfold sideB
  exact @decide_eq_true_iff _ (Classical.propDecidable _)
def spSide (P : Program) (w : World) (K : PySem.W.Frag) : Sp := fun vs H Q _ => ∃ p J, ∃ l r : Nat, vs = [.ref p, .int l, .int r] ∧ JIs P w K H p J ∧ J.Ok ∧ l < J.al.length + J.ps.length ∧ r < J.al.length + J.ps.length ∧
  ∀ H', Same H H' → Q (.bl (sideB J.al.length J.ps l r)) H'
theorem ok_side_by_side (T : Txt K mg) : DefOk P w K mg base 7 "side_by_side" ["joins", "left", "right"] (spSide P w K) := by
  have D_crossing := ok_crossing (P := P) (w := w) (base := base) T
  refine mk_side_by_side T (fun vs H Q E h => ?_) (fun f cdv A outer s H vs Q E hr h => ?_)
  · obtain ⟨p, J, l, r, rfl, _⟩ := h
    rfl
  · obtain ⟨p, J, l, r, rfl, hJ, ok, hl, hr', q⟩ := h
    refine ⟨_, (pss_one (ps_ret (pe_cmpR op_isN (pe_def D_crossing hr (pa_cons (pv 0) (pa_cons (pv 1) (pa_cons (pv 2) pa_nil)))) pe_non (nomark _)))), ?_⟩
    refine ⟨_, rfl, _, rfl, _, rfl, p, J, l, r, rfl, hJ, ok, hl, hr', fun H1 u s1 hu => ?_⟩
    refine ⟨rfl, ?_⟩
    rcases hu with ⟨rfl, hs⟩ | ⟨k, rfl, hs⟩
    · have := q H1 s1
      rw [sideB_iff.mpr hs] at this
      exact this
    · have := q H1 s1
      have e : sideB J.al.length J.ps l r = false := by
        cases h : sideB J.al.length J.ps l r with
        | false => rfl
        | true => exact absurd (sideB_iff.mp h) hs
      rw [e] at this
      exact this
end
end J

set_option Elab.async false
set_option linter.all false
set_option maxRecDepth 100000
set_option maxHeartbeats 4000000
/-! Walks: alphabets, rows put together, the cut of a row. -/
namespace J
open PySem PySem.Spec PyProof.Rows L2
section
variable {P : Program} {w : World} {K : PySem.W.Frag} {mg : Str → Option Value} {base : Heap}
/-- an alphabet: 1 to 30 ascending signs from the blank to ~ -/
structure AlOk (al : List Nat) : Prop where
  b1 : 1 ≤ al.length
  b30 : al.length ≤ 30
  asc : al.Pairwise (· < ·)
  rng : ∀ c ∈ al, 32 ≤ c ∧ c ≤ 126
theorem AlOk.nodup {al : List Nat} (h : AlOk al) : al.Nodup := h.asc.imp fun h => Nat.ne_of_lt h
def spAlpha : Sp := fun vs H Q _ => ∃ al, vs = [.str (alS al)] ∧ AlOk al ∧ Q (.bl true) H
theorem alS_get (al : List Nat) (i : Nat) : (alS al).cps[i]? = al[i]? := by simp [alS]
theorem str32 : (" " : Str) = ⟨#[32]⟩ := by decide +kernel
theorem str126 : ("~" : Str) = ⟨#[126]⟩ := by decide +kernel
theorem ok_is_alphabet (T : Txt K mg) : DefOk P w K mg base 1 "is_alphabet" ["alphabet"] spAlpha := by
  refine mk_is_alphabet T (fun vs H Q E h => ?_) (fun f cdv A outer s H vs Q E hr h => ?_)
  · obtain ⟨al, rfl, _⟩ := h
    rfl
  · obtain ⟨al, rfl, ok, q⟩ := h
    have hlen : (alS al).length ≤ sizeLine := by rw [alS_len]; exact small_ok (by have := ok.b30; omega)
    refine ⟨_, (pss_cons (ps_if (pt_not (pt_chain op_le op_le pe_int (pe_callB call_len_str rfl T.b_len PySem.boot_len (pa_cons (pv 0) pa_nil)) (pe_gint T.MOST_LETTERS))) (pss_one (ps_ret pe_bl)) pss_nil)
      (pss_cons (ps_for PassesOwn.never rfl (pi_str (pv 0)) (pg_n 1 sc_is_alphabet.nd)
        (pss_one (ps_if (pt_not (pt_chain op_le_str op_le_str pe_str (pv 1) pe_str)) (pss_one (ps_ret pe_bl)) pss_nil)))
      (pss_cons (ps_for PassesOwn.never rfl (pi_range2 rfl T.b_range (pa_cons pe_int (pa_cons (pe_callB call_len_str rfl T.b_len PySem.boot_len (pa_cons (pv 0) pa_nil)) pa_nil))) (pg_n 2 sc_is_alphabet.nd)
        (pss_one (ps_if (pt_cmpR op_ge_str (pe_ix ix_str (pv 0) (pe_op op_sub (pv 2) pe_int) (fun _ _ => rfl)) (pe_ix ix_str (pv 0) (pv 2) (fun _ _ => rfl)) (nomark _)) (pss_one (ps_ret pe_bl)) pss_nil)))
      (pss_one (ps_ret pe_bl))))), ?_⟩
    refine ⟨_, rfl, _, rfl, hlen, 1, _, rfl, rfl, _, rfl, ?_⟩
    rw [if_pos (decide_eq_true (by rw [alS_len]; have := ok.b1; omega))]
    refine ⟨_, 30, rfl, rfl, _, rfl, ?_⟩
    rw [decide_eq_true (show ((alS al).length : Int) ≤ 30 by rw [alS_len]; have := ok.b30; omega)]
    refine iteF ?_
    -- for sign in alphabet
    refine ⟨_, rfl, _, rfl, for_str (fun i σ' H' => ∃ y1 y2, σ' = [some (.str (alS al)), y1, y2] ∧ H = H') ⟨none, none, rfl, rfl⟩ ?_ ?_⟩
    · rintro i c σ' H' hc ⟨y1, y2, rfl, rfl⟩
      rw [alS_get] at hc
      obtain ⟨h1, h2⟩ := ok.rng c (List.mem_of_getElem? hc)
      refine ⟨_, rfl, (" " : Str), _, rfl, rfl, _, rfl, ?_⟩
      rw [str32, decide_eq_false (show ¬ (⟨#[c]⟩ : Str).cps.toList < (⟨#[32]⟩ : Str).cps.toList from fun z => by have := one_lt.mp z; omega)]
      refine iteT ?_
      refine ⟨_, ("~" : Str), rfl, rfl, _, rfl, ?_⟩
      rw [str126, decide_eq_false (show ¬ (⟨#[126]⟩ : Str).cps.toList < (⟨#[c]⟩ : Str).cps.toList from fun z => by have := one_lt.mp z; omega)]
      refine iteF ?_
      exact ⟨_, y2, rfl, rfl⟩
    · rintro σ' H' ⟨y1, y2, rfl, rfl⟩
      -- for at in range(1, len(alphabet))
      refine ⟨_, rfl, _, rfl, hlen, 1, _, rfl, ⟨by decide, by decide, by rw [alS_len]; omega, by rw [alS_len]; have := ok.b30; omega⟩, for_range (lo := 1) (fun i σ' H' => ∃ y1 y2, σ' = [some (.str (alS al)), y1, y2] ∧ H = H') ⟨y1, y2, rfl, rfl⟩ ?_ ?_⟩
      · rintro i σ' H' hi ⟨y1, y2, rfl, rfl⟩
        rw [alS_len] at hi
        have hi1 : i + 1 < al.length := by omega
        have e1 : (alS al).cps.toList[i]? = some al[i] := by
          show al.toArray.toList[i]? = _
          simp
        have e2 : (alS al).cps.toList[i + 1]? = some al[i + 1] := by
          show al.toArray.toList[i + 1]? = _
          simp
        refine ⟨_, rfl, _, rfl, 1 + (i : Int), 1, rfl, rfl, _, _, al[i], rfl, rfl, hlen, ?_, _, rfl, _, rfl, _, _, al[i + 1], rfl, rfl, hlen, ?_, _, _, rfl, rfl, ?_⟩
        · have e : (1 + (i : Int)) - 1 = ((i : Nat) : Int) := by omega
          rw [e]
          exact atI_nat e1
        · have e : 1 + (i : Int) = ((i + 1 : Nat) : Int) := by omega
          rw [e]
          exact atI_nat e2
        · have hlt : al[i] < al[i + 1] := List.pairwise_iff_getElem.mp ok.asc i (i + 1) (by omega) hi1 (by omega)
          rw [decide_eq_true (one_lt.mpr hlt)]
          refine ⟨_, rfl, iteF ?_⟩
          exact ⟨y1, _, rfl, rfl⟩
      · rintro σ' H' ⟨y1, y2, rfl, rfl⟩
        exact q
def spAlpha2 : Sp := fun vs H Q _ => ∃ al, vs = [.str (alS al)] ∧ AlOk al ∧ Q (.str (alS al)) H
theorem ok_checked_alphabet (T : Txt K mg) : DefOk P w K mg base 2 "checked_alphabet" ["alphabet"] spAlpha2 := by
  have D_is_alphabet := ok_is_alphabet (P := P) (w := w) (base := base) T
  refine mk_checked_alphabet T (fun vs H Q E h => ?_) (fun f cdv A outer s H vs Q E hr h => ?_)
  · obtain ⟨al, rfl, _⟩ := h
    rfl
  · obtain ⟨al, rfl, ok, q⟩ := h
    refine ⟨_, (pss_cons (ps_if (pt_not (pt_val (pe_def D_is_alphabet hr (pa_cons (pv 0) pa_nil)))) (pss_one ps_never) pss_nil)
      (pss_one (ps_ret (pv 0)))), ?_⟩
    exact ⟨_, rfl, al, rfl, ok, _, rfl, iteF ⟨_, rfl, q⟩⟩
/-! ### put together -/
def spPut : Sp := fun vs H Q _ => ∃ r pr R, ∃ a c n : Nat, vs = [.ref r, .ref pr, .int n] ∧ H r = some (.tup (nIs R)) ∧ H pr = some (.tup (nIs [a, c])) ∧ R.length ≤ 100000 ∧ ∀ H' z, Same H H' → H z = none → H' z = some (.tup (nIs (mrg a c n R))) → Q (.ref z) H'
theorem ok_put_together (T : Txt K mg) : DefOk P w K mg base 1 "put_together" ["row", "pair", "piece"] spPut := by
  refine mk_put_together T (fun vs H Q E h => ?_) (fun f cdv A outer s H vs Q E hr h => ?_)
  · obtain ⟨r, pr, R, a, c, n, rfl, _⟩ := h
    rfl
  · obtain ⟨r, pr, R, a, c, n, rfl, hR, hp, hl, q⟩ := h
    refine ⟨_, (pss_cons (ps_st 3 sc_put_together.nd (pe_lst pa_nil))
      (pss_cons (ps_st 4 sc_put_together.nd pe_int)
      (pss_cons (ps_while PassesOwn.never (pt_cmpR op_lt (pv 4) (pe_callB (lenK (K := K)) rfl T.b_len PySem.boot_len (pa_cons (pv 0) pa_nil)) (nomark _)) (pss_one (ps_if (PW.pt (pw_and (pt_cmpR op_lt (pe_op op_add (pv 4) pe_int) (pe_callB (lenK (K := K)) rfl T.b_len PySem.boot_len (pa_cons (pv 0) pa_nil)) (nomark _)) (pw_and1 (pt_cmpR (eqDK (K := K) hr.units) (pe_tup (pa_cons (pe_ix (ix_tupK (K := K)) (pv 0) (pv 4) (fun _ _ => rfl)) (pa_cons (pe_ix (ix_tupK (K := K)) (pv 0) (pe_op op_add (pv 4) pe_int) (fun _ _ => rfl)) pa_nil))) (pv 1) (nomark _))))) (pss_cons (ps_expr (bmK (K := K) PySem.F.plainAttrs_list PySem.F.slot_list_append PySem.F.type_list_append mt_append (pv 3) (pa_cons (pv 2) pa_nil)))
          (pss_one (ps_ag 4 sc_put_together.nd pe_int ip_add))) (pss_cons (ps_expr (bmK (K := K) PySem.F.plainAttrs_list PySem.F.slot_list_append PySem.F.type_list_append mt_append (pv 3) (pa_cons (pe_ix (ix_tupK (K := K)) (pv 0) (pv 4) (fun _ _ => rfl)) pa_nil)))
          (pss_one (ps_ag 4 sc_put_together.nd pe_int ip_add))))))
      (pss_one (ps_ret (pe_callTy (tupK (K := K)) rfl T.b_tuple (by decide +kernel) (pa_cons (pv 3) pa_nil))))))), ?_⟩
    refine ⟨Nat.zero_le _, fun l hl0 => ?_⟩
    have s1 : Same H (upd H l (.lst [])) := Same.new hl0
    have nl := hl0
    refine ⟨fun m σ' H' => ∃ (at_ : Nat) (acc : List Nat), σ' = [some (.ref r), some (.ref pr), some (.int (n : Nat)), some (.ref l), some (.int (at_ : Nat))] ∧ Same H H' ∧ H' l = some (.lst (nIs acc)) ∧ at_ + m = R.length ∧ mrg a c n R = acc ++ mrg a c n (R.drop at_) ∧ acc.length ≤ at_,
      ⟨R.length, 0, [], rfl, s1, upd_same, Nat.zero_add _, rfl, Nat.le_refl _⟩, ?_⟩
    rintro m σ' H' ⟨at_, acc, rfl, sm, hL, hm, heq, hacc⟩
    have hR' := sm _ _ hR
    refine ⟨_, rfl, _, rfl, r, _, rfl, .inr (SqT.of hR'), _, _, rfl, rfl, _, rfl, ite2 (fun h1 => ?_) fun h1 => ?_⟩
    · have h1 : at_ < R.length := by have := of_decide_eq_true h1; rw [nIs_len] at this; omega
      obtain ⟨m, rfl⟩ : ∃ m', m = m' + 1 := ⟨m - 1, by omega⟩
      have hx : R[at_]? = some R[at_] := List.getElem?_eq_getElem h1
      have hdrop : R.drop at_ = R[at_] :: R.drop (at_ + 1) := List.drop_eq_getElem_cons h1
      have hz : acc.length ≤ 100000 := by omega
      refine ⟨fun σ' H' => ∃ (at_ : Nat) (acc : List Nat), σ' = [some (.ref r), some (.ref pr), some (.int (n : Nat)), some (.ref l), some (.int (at_ : Nat))] ∧ Same H H' ∧ H' l = some (.lst (nIs acc)) ∧ at_ ≤ R.length ∧ R.length - at_ ≤ m ∧ mrg a c n R = acc ++ mrg a c n (R.drop at_) ∧ acc.length ≤ at_, fun σ' H' ⟨a2, acc2, e1, e2, e3, e4, e5, e6, e7⟩ => ⟨R.length - a2, by omega, a2, acc2, e1, e2, e3, by omega, e6, e7⟩, ?_⟩
      refine ⟨_, rfl, _, _, rfl, rfl, _, rfl, r, _, rfl, .inr (SqT.of hR'), _, _, rfl, rfl, _, rfl, ite2 (fun h2 => ?_) fun h2 => ?_⟩
      · have h2 : at_ + 1 < R.length := by have := of_decide_eq_true h2; rw [nIs_len] at this; omega
        have hy : R[at_ + 1]? = some R[at_ + 1] := List.getElem?_eq_getElem h2
        have hdrop2 : R.drop (at_ + 1) = R[at_ + 1] :: R.drop (at_ + 2) := List.drop_eq_getElem_cons h2
        refine ⟨_, rfl, _, rfl, r, _, _, _, rfl, rfl, SqT.of hR', atI_nat (nIs_get hx), _, rfl, _, rfl, _, _, rfl, rfl, r, _, _, _, rfl, rfl, SqT.of hR', at_of (j := at_ + 1) (by omega) (nIs_get hy), two_ok, fun t ht => ?_⟩
        have s3 : Same H' (upd H' t (.tup (nIs [R[at_], R[at_ + 1]]))) := Same.new ht
        have sm3 := sm.trans s3
        have hL3 := s3 _ _ hL
        refine ⟨_, rfl, eq_tups (ns := [R[at_], R[at_ + 1]]) (ms := [a, c]) upd_same (sm3 _ _ hp) ⟨_, rfl, ite2 (fun h3 => ?_) fun h3 => ?_⟩⟩
        · have h3 := of_decide_eq_true h3
          simp only [List.cons.injEq, and_true] at h3
          -- found.append(piece); at += 2
          refine ⟨_, rfl, .inl ⟨rfl, _, SqL.of hL3⟩, _, rfl, l, _, _, rfl, rfl, hL3, by rw [nIs_len]; exact small_lt hz, _, rfl, _, _, rfl, rfl, at_ + 2, acc ++ [n], rfl, ?_, ?_, by omega, by omega, ?_, by rw [List.length_append, List.length_singleton]; omega⟩
          · intro b o e
            rw [upd_ne (ne_of_none e nl)]
            exact sm3 b o e
          · rw [upd_same]
            exact congrArg (fun z => some (HO.lst z)) (nIs_snoc acc n)
          · rw [heq, hdrop, hdrop2, h3.1, h3.2, mrg_hit, List.append_assoc]
            rfl
        · have h3 : ¬ (R[at_] = a ∧ R[at_ + 1] = c) := fun z => h3 (decide_eq_true (by rw [z.1, z.2]))
          refine ⟨_, rfl, .inl ⟨rfl, _, SqL.of hL3⟩, _, rfl, _, rfl, r, _, _, _, rfl, rfl, SqT.of (s3 _ _ hR'), atI_nat (nIs_get hx), l, _, _, rfl, rfl, hL3, by rw [nIs_len]; exact small_lt hz, _, rfl, _, _, rfl, rfl, at_ + 1, acc ++ [R[at_]], rfl, ?_, ?_, by omega, by omega, ?_, by rw [List.length_append, List.length_singleton]; omega⟩
          · intro b o e
            rw [upd_ne (ne_of_none e nl)]
            exact sm3 b o e
          · rw [upd_same, nIs_snoc]
          · rw [heq, hdrop, mrg_cons_miss (fun y t e q => h3 ⟨q.1, by rw [hdrop2] at e; injection e with e1 _; rw [e1]; exact q.2⟩), List.append_assoc]
            rfl
      · have h2 : ¬ at_ + 1 < R.length := fun z => h2 (decide_eq_true (by rw [nIs_len]; omega))
        refine ⟨_, rfl, .inl ⟨rfl, _, SqL.of hL⟩, _, rfl, _, rfl, r, _, _, _, rfl, rfl, SqT.of hR', atI_nat (nIs_get hx), l, _, _, rfl, rfl, hL, by rw [nIs_len]; exact small_lt hz, _, rfl, _, _, rfl, rfl, at_ + 1, acc ++ [R[at_]], rfl, ?_, ?_, by omega, by omega, ?_, by rw [List.length_append, List.length_singleton]; omega⟩
        · intro b o e
          rw [upd_ne (ne_of_none e nl)]
          exact sm b o e
        · rw [upd_same, nIs_snoc]
        · rw [heq, hdrop, mrg_cons_miss (fun y t e q => by rw [List.drop_eq_nil_of_le (by omega)] at e; cases e), List.append_assoc]
          rfl
    · have h1 : ¬ at_ < R.length := fun z => h1 (decide_eq_true (by rw [nIs_len]; omega))
      refine ⟨_, rfl, l, _, rfl, .inl ⟨SqL.of hL, fun z hz => ?_⟩⟩
      refine q _ _ (sm.trans (Same.new hz)) (sm.free hz) ?_
      rw [upd_same, heq, List.drop_eq_nil_of_le (by omega)]
      simp [mrg]
/-! ### the lowest pair -/
theorem adj_ix {x y : Nat} {R : List Nat} : Adj x y R ↔ ∃ j, R[j]? = some x ∧ R[j + 1]? = some y := by
  constructor
  · rintro ⟨s, t, e⟩
    refine ⟨s.length, ?_, ?_⟩
    · rw [e, List.getElem?_append_right (Nat.le_refl _), Nat.sub_self]
      rfl
    · rw [e, List.getElem?_append_right (by omega), Nat.add_sub_cancel_left]
      rfl
  · rintro ⟨j, h1, h2⟩
    obtain ⟨k1, e1⟩ := List.getElem?_eq_some_iff.mp h1
    obtain ⟨k2, e2⟩ := List.getElem?_eq_some_iff.mp h2
    refine ⟨R.take j, R.drop (j + 2), ?_⟩
    rw [← e1, ← e2, List.getElem_cons_drop, List.getElem_cons_drop, List.take_append_drop]
/-- what lowest_pair hands back -/
def LowV (H : Hp) (u : V) (ps : List (Nat × Nat)) (R : List Nat) : Prop :=
  (u = .non ∧ ∀ p ∈ ps, ¬ Adj p.1 p.2 R) ∨ ∃ k c b, u = .ref b ∧ H b = some (.tup (nIs [c.1, c.2])) ∧ ps[k]? = some c ∧ Adj c.1 c.2 R ∧ ∀ (j : Nat) (p : Nat × Nat), j < k → ps[j]? = some p → ¬ Adj p.1 p.2 R
theorem LowV.tk {H H' : Hp} {u : V} {ps : List (Nat × Nat)} {R : List Nat} (h : LowV H u ps R) (t : TK H H') : LowV H' u ps R := by
  rcases h with h | ⟨k, c, b, e, hb, r⟩
  · exact .inl h
  · exact .inr ⟨k, c, b, e, t _ _ hb, r⟩
/-- .. of the first i neighbours -/
def LowI (H : Hp) (u : V) (ps : List (Nat × Nat)) (R : List Nat) (i : Nat) : Prop :=
  (u = .non ∧ ∀ j c, j < i → R[j]? = some c.1 → R[j + 1]? = some c.2 → c ∉ ps) ∨
    ∃ k c b, u = .ref b ∧ H b = some (.tup (nIs [c.1, c.2])) ∧ ps[k]? = some c ∧ Adj c.1 c.2 R ∧ ∀ (j : Nat) (d : Nat × Nat) (r : Nat), j < i → R[j]? = some d.1 → R[j + 1]? = some d.2 → ps[r]? = some d → k ≤ r
theorem LowI.tk {H H' : Hp} {u : V} {ps : List (Nat × Nat)} {R : List Nat} {i : Nat} (h : LowI H u ps R i) (t : TK H H') : LowI H' u ps R i := by
  rcases h with h | ⟨k, c, b, e, hb, r⟩
  · exact .inl h
  · exact .inr ⟨k, c, b, e, t _ _ hb, r⟩
def spLowest (P : Program) (w : World) : Sp := fun vs H Q _ => ∃ ra r ps R, vs = [.ref ra, .ref r] ∧ PD P w H ra (rkT 0 ps) ∧ Uniq ps ∧ H r = some (.tup (nIs R)) ∧ R.length ≤ 100000 ∧ ∀ H' u, Same H H' → LowV H' u ps R → Q u H'
theorem ok_lowest_pair (T : Txt K mg) : DefOk P w K mg base 1 "lowest_pair" ["ranks", "row"] (spLowest P w) := by
  refine mk_lowest_pair T (fun vs H Q E h => ?_) (fun f cdv A outer s H vs Q E hr h => ?_)
  · obtain ⟨ra, r, ps, R, rfl, _⟩ := h
    rfl
  · obtain ⟨ra, r, ps, R, rfl, hD, hU, hR, hl, q⟩ := h
    refine ⟨_, (pss_cons (ps_st 2 sc_lowest_pair.nd pe_non)
      (pss_cons (ps_for PassesOwn.never rfl (pi_range1 rfl T.b_range (pa_cons (pe_op op_sub (pe_callB (lenK (K := K)) rfl T.b_len PySem.boot_len (pa_cons (pv 1) pa_nil)) pe_int) pa_nil)) (pg_n 3 sc_lowest_pair.nd)
        (pss_cons (ps_st 4 sc_lowest_pair.nd (pe_tup (pa_cons (pe_ix (ix_tupK (K := K)) (pv 1) (pv 3) (fun _ _ => rfl)) (pa_cons (pe_ix (ix_tupK (K := K)) (pv 1) (pe_op op_add (pv 3) pe_int) (fun _ _ => rfl)) pa_nil))))
        (pss_one (ps_if (PW.pt (pw_and (pt_cmp (pdinK (P := P) (w := w) (hu_of hr) (pv 4) (pv 0))) (pw_and1 (PW.pt (pw_or (pt_cmpR op_isN (pv 2) pe_non (nomark _)) (pw_or1 (pt_cmpR op_lt (pdgetK (P := P) (w := w) (hu_of hr) (pv 0) (pv 4)) (pdgetK (P := P) (w := w) (hu_of hr) (pv 0) (pv 2)) (nomark _)))))))) (pss_one (ps_st 2 sc_lowest_pair.nd (pv 4))) pss_nil))))
      (pss_one (ps_ret (pv 2))))), ?_⟩
    refine ⟨_, rfl, r, _, rfl, .inr (SqT.of hR), _, 1, rfl, rfl, _, rfl, by rw [nIs_len]; omega, by rw [nIs_len]; omega, for_range (lo := 0) (fun i σ' H' => ∃ u y3 y4, σ' = [some (.ref ra), some (.ref r), some u, y3, y4] ∧ Same H H' ∧ LowI H' u ps R i)
      ⟨.non, none, none, rfl, Same.refl _, .inl ⟨rfl, fun j c h => absurd h (Nat.not_lt_zero _)⟩⟩ ?_ ?_⟩
    · rintro i σ' H' hi ⟨u, y3, y4, rfl, sm, hI0⟩
      rw [nIs_len] at hi
      have hi1 : i + 1 < R.length := by omega
      have hx : R[i]? = some R[i] := List.getElem?_eq_getElem (by omega)
      have hy : R[i + 1]? = some R[i + 1] := List.getElem?_eq_getElem hi1
      have hR' := sm _ _ hR
      -- pair = (row[at], row[at + 1])
      refine ⟨_, rfl, _, rfl, r, _, _, _, rfl, rfl, SqT.of hR', at_of (j := i) (by omega) (nIs_get hx), _, rfl, _, rfl, _, _, rfl, rfl, r, _, _, _, rfl, rfl, SqT.of hR', at_of (j := i + 1) (by omega) (nIs_get hy), two_ok, fun t ht => ?_⟩
      have s3 : Same H' (upd H' t (.tup (nIs [R[i], R[i + 1]]))) := Same.new ht
      have sm3 := sm.trans s3
      have hT : (upd H' t (.tup (nIs [R[i], R[i + 1]]))) t = some (.tup (pkV (pk (R[i], R[i + 1])))) := upd_same
      have hD3 := hD.same sm3
      -- if pair in ranks and ..
      refine ⟨_, rfl, _, rfl, ra, t, pk (R[i], R[i + 1]), _, rfl, rfl, hD3, hT, _, rfl, ?_⟩
      rw [rkT_val]
      cases hk : rk 0 ps (R[i], R[i + 1]) with
      | none =>
        refine iteF (iteF ⟨u, _, _, rfl, sm3, ?_⟩)
        have hno := rk_none.mp hk
        rcases hI0.tk (.of s3) with ⟨rfl, hI⟩ | ⟨k, c, b, rfl, hb, hc, ha, hI⟩
        · refine .inl ⟨rfl, fun j c hj h1 h2 => ?_⟩
          by_cases e : j = i
          · subst e
            rw [hx] at h1
            rw [hy] at h2
            have ec : c = (R[j], R[j + 1]) := Prod.ext (Option.some.inj h1).symm (Option.some.inj h2).symm
            rw [ec]
            exact hno
          · exact hI j c (by omega) h1 h2
        · refine .inr ⟨k, c, b, rfl, hb, hc, ha, fun j d r' hj h1 h2 h3 => ?_⟩
          by_cases e : j = i
          · subst e
            rw [hx] at h1
            rw [hy] at h2
            have ec : d = (R[j], R[j + 1]) := Prod.ext (Option.some.inj h1).symm (Option.some.inj h2).symm
            rw [ec] at h3
            exact absurd (List.mem_of_getElem? h3) hno
          · exact hI j d r' (by omega) h1 h2 h3
      | some k =>
        have hk' := rk_some hk
        have hadj : Adj R[i] R[i + 1] R := adj_ix.mpr ⟨i, hx, hy⟩
        refine iteT ?_
        rcases hI0.tk (.of s3) with ⟨rfl, hI⟩ | ⟨k0, c, b, rfl, hb, hc, ha, hI⟩
        · refine ⟨_, rfl, rfl, _, rfl, iteT (iteT ?_)⟩
          refine ⟨_, rfl, .ref t, _, _, rfl, sm3, .inr ⟨k, (R[i], R[i + 1]), t, rfl, upd_same, hk', hadj, fun j d r' hj h1 h2 h3 => ?_⟩⟩
          by_cases e : j = i
          · subst e
            rw [hx] at h1
            rw [hy] at h2
            have ec : d = (R[j], R[j + 1]) := Prod.ext (Option.some.inj h1).symm (Option.some.inj h2).symm
            rw [ec] at h3
            exact Nat.le_of_eq (hU _ _ _ hk' h3)
          · exact absurd (List.mem_of_getElem? h3) (hI j d (by omega) h1 h2)
        · refine ⟨_, rfl, rfl, _, rfl, iteF ?_⟩
          refine ⟨_, rfl, _, rfl, ra, t, pk (R[i], R[i + 1]), _, .int (k : Nat), rfl, rfl, hD3, hT, by rw [rkT_val, hk]; rfl, _, rfl, _, rfl, ra, b, pk c, _, .int (k0 : Nat), rfl, rfl, hD3, hb, by rw [rkT_val, rk_of hU hc]; rfl, _, _, rfl, rfl, _, rfl, ite2 (fun h => ?_) fun h => ?_⟩
          · have h : k < k0 := by have := of_decide_eq_true h; omega
            refine ⟨_, rfl, .ref t, _, _, rfl, sm3, .inr ⟨k, (R[i], R[i + 1]), t, rfl, upd_same, hk', hadj, fun j d r' hj h1 h2 h3 => ?_⟩⟩
            by_cases e : j = i
            · subst e
              rw [hx] at h1
              rw [hy] at h2
              have ec : d = (R[j], R[j + 1]) := Prod.ext (Option.some.inj h1).symm (Option.some.inj h2).symm
              rw [ec] at h3
              exact Nat.le_of_eq (hU _ _ _ hk' h3)
            · have := hI j d r' (by omega) h1 h2 h3
              omega
          · have h : k0 ≤ k := by
              have : ¬ ((k : Int) < (k0 : Int)) := fun z => h (decide_eq_true z)
              omega
            refine ⟨.ref b, _, _, rfl, sm3, .inr ⟨k0, c, b, rfl, hb, hc, ha, fun j d r' hj h1 h2 h3 => ?_⟩⟩
            by_cases e : j = i
            · subst e
              rw [hx] at h1
              rw [hy] at h2
              have ec : d = (R[j], R[j + 1]) := Prod.ext (Option.some.inj h1).symm (Option.some.inj h2).symm
              rw [ec] at h3
              rw [← hU _ _ _ hk' h3]
              exact h
            · exact hI j d r' (by omega) h1 h2 h3
    · rintro σ' H' ⟨u, y3, y4, rfl, sm, hI⟩
      refine ⟨_, rfl, q _ _ sm ?_⟩
      have hn : (((nIs R).length : Int) - 1).toNat = R.length - 1 := by rw [nIs_len]; omega
      rw [hn] at hI
      rcases hI with ⟨rfl, hI⟩ | ⟨k, c, b, rfl, hb, hc, ha, hI⟩
      · refine .inl ⟨rfl, fun p hp hadj => ?_⟩
        obtain ⟨j, h1, h2⟩ := adj_ix.mp hadj
        have := (List.getElem?_eq_some_iff.mp h2).1
        exact hI j p (by omega) h1 h2 hp
      · refine .inr ⟨k, c, b, rfl, hb, hc, ha, fun j p hj hp hadj => ?_⟩
        obtain ⟨i, h1, h2⟩ := adj_ix.mp hadj
        have h3 := (List.getElem?_eq_some_iff.mp h2).1
        have := hI i p j (by omega) h1 h2 hp
        omega
/-! ### the cut of a row -/
def spCutRow (P : Program) (w : World) : Sp := fun vs H Q _ => ∃ ra r, ∃ b : Nat, ∃ ps R, vs = [.ref ra, .int b, .ref r] ∧ PD P w H ra (rkT 0 ps) ∧ Uniq ps ∧ Low b ps ∧ H r = some (.tup (nIs R)) ∧ R.length ≤ 100000 ∧
  ∀ H' z, Same H H' → H' z = some (.tup (nIs (stg b ps R))) → Q (.ref z) H'
theorem ok_cut_row (T : Txt K mg) : DefOk P w K mg base 2 "cut_row" ["ranks", "letters", "row"] (spCutRow P w) := by
  have D_lowest_pair := ok_lowest_pair (P := P) (w := w) (base := base) T
  have D_put_together := ok_put_together (P := P) (w := w) (base := base) T
  refine mk_cut_row T (fun vs H Q E h => ?_) (fun f cdv A outer s H vs Q E hr h => ?_)
  · obtain ⟨ra, r, b, ps, R, rfl, _⟩ := h
    rfl
  · obtain ⟨ra, r, b, ps, R, rfl, hD, hU, hLow, hR, hl, q⟩ := h
    refine ⟨_, (pss_cons (ps_st 3 sc_cut_row.nd (pe_def D_lowest_pair hr (pa_cons (pv 0) (pa_cons (pv 2) pa_nil))))
      (pss_cons (ps_while PassesOwn.never (pt_cmpR op_notN (pv 3) pe_non (nomark _)) (pss_cons (ps_st 2 sc_cut_row.nd (pe_def D_put_together hr (pa_cons (pv 2) (pa_cons (pv 3) (pa_cons (pe_op op_add (pv 1) (pdgetK (P := P) (w := w) (hu_of hr) (pv 0) (pv 3))) pa_nil)))))
        (pss_one (ps_st 3 sc_cut_row.nd (pe_def D_lowest_pair hr (pa_cons (pv 0) (pa_cons (pv 2) pa_nil)))))))
      (pss_one (ps_ret (pv 2))))), ?_⟩
    refine ⟨_, rfl, _, rfl, ra, r, ps, R, rfl, hD, hU, hR, hl, fun H1 u s1 hu => ?_⟩
    refine ⟨fun m σ' H' => ∃ r' R' u, σ' = [some (.ref ra), some (.int (b : Nat)), some (.ref r'), some u] ∧ Same H H' ∧ H' r' = some (.tup (nIs R')) ∧ stg b ps R' = stg b ps R ∧ LowV H' u ps R' ∧ R'.length ≤ m ∧ R'.length ≤ 100000, ⟨R.length, r, R, u, rfl, s1, s1 _ _ hR, rfl, hu, Nat.le_refl _, hl⟩, ?_⟩
    rintro m σ' H' ⟨r', R', u, rfl, sm, hR', heq, hu, hm, hl'⟩
    rcases hu with ⟨rfl, hno⟩ | ⟨k, c, t, rfl, ht, hc, ha, hno⟩
    · refine ⟨_, rfl, rfl, _, rfl, iteF ?_⟩
      refine ⟨_, rfl, q _ _ sm ?_⟩
      rw [← heq, stg_noop b ps hno]
      exact hR'
    · refine ⟨_, rfl, rfl, _, rfl, iteT ?_⟩
      have hlt := mrg_len_lt (n := b + k) ha
      obtain ⟨m, rfl⟩ : ∃ m', m = m' + 1 := ⟨m - 1, by omega⟩
      refine ⟨_, fun σ' H' h => ⟨m, Nat.lt_succ_self _, h⟩, ?_⟩
      have hD' := hD.same sm
      -- row = put_together(row, pair, letters + ranks[pair])
      refine ⟨_, rfl, _, rfl, _, rfl, _, rfl, _, rfl, ra, t, pk c, _, .int (k : Nat), rfl, rfl, hD', ht, by rw [rkT_val, rk_of hU hc]; rfl, _, _, rfl, rfl, r', t, R', c.1, c.2, b + k, ?_, hR', ht, hl', fun H2 z s2 hz hz2 => ?_⟩
      · show ([.ref r', .ref t, .int ((b : Int) + (k : Int))] : List V) = [.ref r', .ref t, .int ((b + k : Nat) : Int)]
        rw [show ((b : Int) + (k : Int)) = ((b + k : Nat) : Int) by omega]
      -- pair = lowest_pair(ranks, row)
      have sm2 := sm.trans s2
      refine ⟨_, rfl, _, rfl, ra, z, ps, _, rfl, hD.same sm2, hU, hz2, by omega, fun H3 u s3 hu => ?_⟩
      refine ⟨z, _, u, rfl, sm2.trans s3, s3 _ _ hz2, ?_, hu, by omega, by omega⟩
      rw [← heq, step_all hLow hc hno]
end
end J

set_option Elab.async false
set_option linter.all false
set_option maxRecDepth 100000
set_option maxHeartbeats 4000000
/-! Walks: texts to rows and back, the cut of a text, rows that are cuts. -/
namespace J
open PySem PySem.Spec PyProof.Rows L2
theorem ix_A {K : PySem.W.Frag} {H : Hp} {a : Addr} {xs : List V} {i : Int} {v : V} {Q : V → Hp → Prop} (h : SqA K H a xs) (e : atI xs i = some v) (q : Q v H) : rIx K (.ref a) (.int i) H Q := by
  rcases h with h | h
  · exact .inl ⟨a, xs, i, v, rfl, rfl, h, e, q⟩
  · exact .inr (.inl ⟨a, xs, i, v, rfl, rfl, h, e, q⟩)
theorem lc_seq {K : PySem.W.Frag} {a : Addr} {xs : List V} {g : TG} {tt : TT} {te : TE} {vs : List Nat} {σ : L2.St} {H1 : Hp} {Qd : Addr → Hp → Prop} (h : SqA K H1 a xs)
    (f : ∀ D, H1 D = none → (SqL K H1 a xs → LcB g tt te vs (Itl K a) σ H1 D (Qd D)) ∧ (SqT K H1 a xs → LcB g tt te vs (Itt K a) σ H1 D (Qd D))) :
    ((∃ xs, SqL K H1 a xs) ∧ ∀ D, H1 D = none → LcB g tt te vs (Itl K a) σ H1 D (Qd D)) ∨ ((∃ xs, SqT K H1 a xs) ∧ ∀ D, H1 D = none → LcB g tt te vs (Itt K a) σ H1 D (Qd D)) := by
  rcases h with h | h
  · exact .inl ⟨⟨_, h⟩, fun D hD => (f D hD).1 h⟩
  · exact .inr ⟨⟨_, h⟩, fun D hD => (f D hD).2 h⟩
theorem yes {σ : L2.St} {H : Hp} {Q : Bool → Hp → Prop} (h : Q true H) : tYes σ H Q := h
theorem str_app (a b : Array Nat) : (⟨a⟩ : Str) ++ ⟨b⟩ = ⟨a ++ b⟩ := rfl
theorem empty_str : ("" : Str) = ⟨#[]⟩ := by decide +kernel
theorem join_tx (al : List Nat) : ∀ Ws : List (List Nat), Txt.join ("" : Str) (Ws.map (tx al)) = tx al (Ws.flatMap id) := by
  intro Ws
  rw [TL.join_eq, empty_str]
  induction Ws with
  | nil => rfl
  | cons U Ws ih =>
    cases Ws with
    | nil =>
      show tx al U = _
      simp
    | cons V Ws =>
      show tx al U ++ (⟨#[]⟩ : Str) ++ Str.join ⟨#[]⟩ ((V :: Ws).map (tx al)) = _
      rw [ih]
      have e : tx al U ++ (⟨#[]⟩ : Str) = tx al U := by
        show (⟨_ ++ #[]⟩ : Str) = _
        rw [Array.append_empty]
      rw [e, ← tx_app]
      rfl
section
variable {P : Program} {w : World} {K : PySem.W.Frag} {mg : Str → Option Value} {base : Heap}
def spPieceOf (P : Program) (w : World) (K : PySem.W.Frag) : Sp := fun vs H Q _ => ∃ p J, ∃ i : Nat, vs = [.ref p, .str (tx J.al [i])] ∧ JIs P w K H p J ∧ i < J.al.length ∧ Q (.int i) H
theorem ok_Joins_piece_of (T : Txt K mg) : MetOk P w K mg base 1 (CJ K) "piece_of" ["self", "text"] (spPieceOf P w K) := by
  refine mk_Joins_piece_of T (fun vs H Q E h => ?_) (fun f cdv A outer s H vs Q E hr h => ?_)
  · obtain ⟨p, J, i, rfl, _⟩ := h
    rfl
  · obtain ⟨p, J, i, rfl, ⟨dx, pa, ta, ra, na, lg, prs, kvs, hA⟩, hi, q⟩ := h
    refine ⟨_, (pss_one (ps_ret (pe_dget1 (hu_of hr) (fldK (K := K) (pv 0)) (pv 1) ⟨rfl, rfl, rfl, rfl⟩))), ?_⟩
    refine ⟨_, rfl, p, _, dx, _, _, rfl, hA.ob, T.cls_J, T.no_J_numbers, jf_numbers, na, rfl, .inl ⟨_, .inl hA.nums⟩, _, rfl, _, DGet.k (k := Sum.inr _) hA.nums, ?_⟩
    rw [hA.num1 i hi]
    exact q
def spLetters (P : Program) (w : World) (K : PySem.W.Frag) : Sp := fun vs H Q _ => ∃ p J W, vs = [.ref p, .str (tx J.al W)] ∧ JIs P w K H p J ∧ (∀ x ∈ W, x < J.al.length) ∧ W.length ≤ 100000 ∧ ∀ H' z, Same H H' → H' z = some (.tup (nIs W)) → Q (.ref z) H'
theorem ok_letters_of (T : Txt K mg) : DefOk P w K mg base 2 "letters_of" ["joins", "text"] (spLetters P w K) := by
  have M_Joins_piece_of := ok_Joins_piece_of (P := P) (w := w) (base := base) T
  refine mk_letters_of T (fun vs H Q E h => ?_) (fun f cdv A outer s H vs Q E hr h => ?_)
  · obtain ⟨p, J, W, rfl, _⟩ := h
    rfl
  · obtain ⟨p, J, W, rfl, hJ, hW, hl, q⟩ := h
    refine ⟨_, (pss_cons (ps_st 2 sc_letters_of.nd (pe_lst pa_nil))
      (pss_cons (ps_for PassesOwn.never rfl (pi_enumx T.b_enumerate (pa_cons (pv 1) pa_nil)) (ptupK (K := K) (n := 2) rfl (pgs_cons (pg_n 3 sc_letters_of.nd) (pgs_cons (pg_n 4 sc_letters_of.nd) pgs_nil)))
        (pss_cons (ps_if (pt_cmpR op_notIn_sign (pv 4) (fldK (K := K) (pv 0)) rfl) (pss_one ps_never) pss_nil)
        (pss_one (ps_expr (bmK (K := K) PySem.F.plainAttrs_list PySem.F.slot_list_append PySem.F.type_list_append mt_append (pv 2) (pa_cons (pe_met (pv 0) T.cls_J M_Joins_piece_of hr (pa_cons (pv 4) pa_nil)) pa_nil))))))
      (pss_one (ps_ret (pe_callTy (tupK (K := K)) rfl T.b_tuple (by decide +kernel) (pa_cons (pv 2) pa_nil)))))), ?_⟩
    refine ⟨Nat.zero_le _, fun l nl => ?_⟩
    have s1 : Same H (upd H l (.lst [])) := Same.new nl
    refine ⟨_, rfl, _, rfl, for_enx (fun i σ' H' => ∃ y3 y4, σ' = [some (.ref p), some (.str (tx J.al W)), some (.ref l), y3, y4] ∧ Same H H' ∧ H' l = some (.lst (nIs (W.take i)))) ⟨none, none, rfl, s1, upd_same⟩ ?_ ?_⟩
    · rintro i c σ' H' t hc ⟨y3, y4, rfl, sm, hL⟩ ht
      rw [tx_get] at hc
      obtain ⟨x, hx, hcx⟩ := Option.map_eq_some_iff.mp hc
      have hxb : x < J.al.length := hW x (List.mem_of_getElem? hx)
      have hac : J.al[x]? = some c := by rw [← hcx]; exact getD_at hxb
      have sm3 := sm.trans (Same.new (o := .tup [.int (i : Nat), .str ⟨#[c]⟩]) ht)
      have hlt : l ≠ t := ne_of_none hL ht
      obtain ⟨dx, pa, ta, ra, na, lg, prs, kvs, hA⟩ := hJ.same sm3
      refine ⟨t, _, rfl, SqT.of upd_same, rfl, _, _, rfl, _, _, rfl, rfl, ?_⟩
      refine ⟨_, rfl, _, rfl, p, _, dx, _, _, rfl, hA.ob, T.cls_J, T.no_J_alphabet, jf_alphabet, c, _, rfl, rfl, _, rfl, iteNS ?_ ?_⟩
      · show c ∈ J.al.toArray.toList
        exact List.mem_of_getElem? (by simpa using hac)
      refine ⟨_, rfl, .inl ⟨rfl, _, SqL.of (by rw [upd_ne hlt]; exact hL)⟩, _, rfl, p, dx, _, rfl, hA.ob, jf_no (by decide +kernel), _, rfl, p, J, x, by rw [tx_one hac]; rfl, hJ.same sm3, hxb, l, _, _, rfl, rfl, by rw [upd_ne hlt]; exact hL, by rw [nIs_len, List.length_take]; exact small_lt (by omega), ?_⟩
      refine ⟨_, _, rfl, fun b o e => ?_, ?_⟩
      · rw [upd_ne (ne_of_none e nl)]
        exact sm3 _ _ e
      · rw [upd_same, List.take_add_one, hx]
        exact congrArg (fun z => some (HO.lst z)) (nIs_snoc _ x)
    · rintro σ' H' ⟨y3, y4, rfl, sm, hL⟩
      rw [tx_size, List.take_length] at hL
      refine ⟨_, rfl, l, _, rfl, .inl ⟨SqL.of hL, fun z hz => q _ _ (sm.trans (Same.new hz)) upd_same⟩⟩
def spCut (P : Program) (w : World) (K : PySem.W.Frag) : Sp := fun vs H Q _ => ∃ p J W, vs = [.ref p, .str (tx J.al W)] ∧ JIs P w K H p J ∧ J.Ok ∧ (∀ x ∈ W, x < J.al.length) ∧ W.length ≤ 100000 ∧ ∀ H' z, Same H H' → H' z = some (.tup (nIs (stg J.al.length J.ps W))) → Q (.ref z) H'
theorem ok_cut (T : Txt K mg) : DefOk P w K mg base 3 "cut" ["joins", "text"] (spCut P w K) := by
  have D_cut_row := ok_cut_row (P := P) (w := w) (base := base) T
  have D_letters_of := ok_letters_of (P := P) (w := w) (base := base) T
  refine mk_cut T (fun vs H Q E h => ?_) (fun f cdv A outer s H vs Q E hr h => ?_)
  · obtain ⟨p, J, W, rfl, _⟩ := h
    rfl
  · obtain ⟨p, J, W, rfl, hJ, ok, hW, hl, q⟩ := h
    obtain ⟨dx, pa, ta, ra, na, lg, prs, kvs, hA⟩ := id hJ
    refine ⟨_, (pss_one (ps_ret (pe_def D_cut_row hr (pa_cons (fldK (K := K) (pv 0)) (pa_cons (pe_callB call_len_str rfl T.b_len PySem.boot_len (pa_cons (fldK (K := K) (pv 0)) pa_nil)) (pa_cons (pe_def D_letters_of hr (pa_cons (pv 0) (pa_cons (pv 1) pa_nil))) pa_nil)))))), ?_⟩
    refine ⟨_, rfl, p, _, dx, _, _, rfl, hA.ob, T.cls_J, T.no_J_ranks, jf_ranks, _, rfl, p, _, dx, _, _, rfl, hA.ob, T.cls_J, T.no_J_alphabet, jf_alphabet, _, rfl, by rw [alS_len]; exact small_ok (by have := ok.b30; omega), _, rfl, _, rfl, p, J, W, rfl, hJ, hW, hl, fun H1 z s1 hz => ?_⟩
    rw [alS_len]
    exact ⟨ra, z, J.al.length, J.ps, W, rfl, hA.ranks.same s1, ok.prop.uniq, ok.prop.low, hz, hl, fun H2 z2 s2 hz2 => q _ _ (s1.trans s2) hz2⟩
def spTextRow (P : Program) (w : World) (K : PySem.W.Frag) : Sp := fun vs H Q _ => ∃ p J r R, vs = [.ref p, .ref r] ∧ JIs P w K H p J ∧ J.Ok ∧ SqA K H r (nIs R) ∧ (∀ x ∈ R, x < J.al.length + J.ps.length) ∧ R.length ≤ 2000 ∧ ∀ H', Same H H' → Q (.str (tx J.al (flat J.al.length J.ps R))) H'
theorem ok_text_of_row (T : Txt K mg) : DefOk P w K mg base 5 "text_of_row" ["joins", "row"] (spTextRow P w K) := by
  have M_Joins_text_of := ok_Joins_text_of (P := P) (w := w) (base := base) T
  refine mk_text_of_row T (fun vs H Q E h => ?_) (fun f cdv A outer s H vs Q E hr h => ?_)
  · obtain ⟨p, J, r, R, rfl, _⟩ := h
    rfl
  · obtain ⟨p, J, r, R, rfl, hJ, ok, hS, hR, hl, q⟩ := h
    refine ⟨_, (pss_one (ps_ret (pe_join pe_str (pe_lc (own := [("piece", 2)]) (g := (gName 2)) (tt := tYes) rfl sc_text_of_row.nd (pi_seq (pv 1)) (blkOk_by (N := N_text_of_row) (sc := defScope s_text_of_row) (by decide +kernel)) (fun _ _ _ _ _ => (pg_n 2 sc_text_of_row.nd)) (fun _ _ _ _ _ => pts_nil) (fun _ _ _ _ _ => (pe_met (pv 0) T.cls_J M_Joins_text_of hr (pa_cons (pv 2) pa_nil))))))), ?_⟩
    refine ⟨⟨_, rfl⟩, _, rfl, r, rfl, lc_seq hS fun D hD => lc_seqL hS (fun i H' => Same H H' ∧ H' D = some (.lst (((R.take i).map fun x => tx J.al (ex J.al.length J.ps x)).map V.str))) ⟨Same.new hD, upd_same⟩ (fun i H' _ h => h.1) ?_ ?_⟩
    · rintro i x H' hx ⟨sm, hDl⟩
      obtain ⟨v, hv, rfl⟩ := nIs_get' hx
      obtain ⟨dx, pa, ta, ra, na, lg, prs, kvs, hA⟩ := hJ.same sm
      refine ⟨rfl, yes (iteT ?_)⟩
      refine ⟨_, rfl, p, dx, _, rfl, hA.ob, jf_no (by decide +kernel), _, rfl, p, J, v, rfl, hJ.same sm, hR v (List.mem_of_getElem? hv), _, hDl, by rw [List.length_map, List.length_map, List.length_take]; exact small_lt (by omega), ?_, ?_⟩
      · intro b o e
        rw [upd_ne (ne_of_none e hD)]
        exact sm _ _ e
      · rw [upd_same, List.take_add_one, hv]
        simp
    · rintro H' ⟨sm, hDl⟩
      rw [nIs_len, List.take_length] at hDl
      refine ⟨_, D, (R.map fun x => tx J.al (ex J.al.length J.ps x)), rfl, rfl, .inl (SqL.of hDl), ?_, ?_⟩
      · have key : ∀ S : List Nat, (∀ x ∈ S, x < J.al.length + J.ps.length) → ((S.map fun x => tx J.al (ex J.al.length J.ps x)).map (·.length)).sum ≤ 40 * S.length := by
          intro S
          induction S with
          | nil => intro _; simp
          | cons x S ih =>
            intro h
            have h1 := ok.short x (h x (List.mem_cons_self ..))
            have h2 := ih fun y hy => h y (List.mem_cons_of_mem _ hy)
            simp only [List.map_cons, List.sum_cons, List.length_cons, tx_len] at h2 ⊢
            omega
        have h1 := key R hR
        have h2 : ("" : Str).length = 0 := by decide +kernel
        rw [h2]
        omega
      · have e : (R.map fun x => tx J.al (ex J.al.length J.ps x)) = (R.map (ex J.al.length J.ps)).map (tx J.al) := by rw [List.map_map]; rfl
        rw [e, join_tx]
        have e2 : (R.map (ex J.al.length J.ps)).flatMap id = flat J.al.length J.ps R := by
          unfold flat
          rw [List.flatMap_map]
          rfl
        rw [e2]
        exact q _ sm
def spIsCut (P : Program) (w : World) (K : PySem.W.Frag) : Sp := fun vs H Q _ => ∃ p J r R, vs = [.ref p, .ref r] ∧ JIs P w K H p J ∧ J.Ok ∧ SqA K H r (nIs R) ∧ (∀ x ∈ R, x < J.al.length + J.ps.length) ∧ Chain J.al.length J.ps R ∧ R.length ≤ 2000 ∧ ∀ H', Same H H' → Q (.bl true) H'
theorem chain_at {b : Nat} {ps : List (Nat × Nat)} : ∀ {R : List Nat} {i x y : Nat}, Chain b ps R → R[i]? = some x → R[i + 1]? = some y → Side b ps x y
  | [], _, _, _, _, h, _ => by simp at h
  | [_], 0, _, _, _, _, h => by simp at h
  | [_], _ + 1, _, _, _, h, _ => by simp at h
  | a :: c :: R, 0, x, y, hc, h1, h2 => by
    simp at h1 h2
    rw [← h1, ← h2]
    exact hc.1
  | a :: c :: R, i + 1, x, y, hc, h1, h2 => chain_at (R := c :: R) hc.2 (by simpa using h1) (by simpa using h2)
theorem ok_is_cut (T : Txt K mg) : DefOk P w K mg base 8 "is_cut" ["joins", "row"] (spIsCut P w K) := by
  have D_side_by_side := ok_side_by_side (P := P) (w := w) (base := base) T
  have M_Joins_is_piece := ok_Joins_is_piece (P := P) (w := w) (base := base) T
  refine mk_is_cut T (fun vs H Q E h => ?_) (fun f cdv A outer s H vs Q E hr h => ?_)
  · obtain ⟨p, J, r, R, rfl, _⟩ := h
    rfl
  · obtain ⟨p, J, r, R, rfl, hJ, ok, hS, hR, hc, hl, q⟩ := h
    refine ⟨_, (pss_cons (ps_for PassesOwn.never rfl (pi_seq (pv 1)) (pg_n 2 sc_is_cut.nd)
        (pss_one (ps_if (pt_not (pt_val (pe_met (pv 0) T.cls_J M_Joins_is_piece hr (pa_cons (pv 2) pa_nil)))) (pss_one (ps_ret pe_bl)) pss_nil)))
      (pss_cons (ps_for PassesOwn.never rfl (pi_range1 rfl T.b_range (pa_cons (pe_op op_sub (pe_callB (lenK (K := K)) rfl T.b_len PySem.boot_len (pa_cons (pv 1) pa_nil)) pe_int) pa_nil)) (pg_n 3 sc_is_cut.nd)
        (pss_one (ps_if (pt_not (pt_val (pe_def D_side_by_side hr (pa_cons (pv 0) (pa_cons (pe_ix (ix_seqK (K := K)) (pv 1) (pv 3) (fun _ _ => rfl)) (pa_cons (pe_ix (ix_seqK (K := K)) (pv 1) (pe_op op_add (pv 3) pe_int) (fun _ _ => rfl)) pa_nil)))))) (pss_one (ps_ret pe_bl)) pss_nil)))
      (pss_one (ps_ret pe_bl)))), ?_⟩
    refine ⟨_, rfl, r, rfl, for_seq hS (fun i σ' H' => ∃ y2 y3, σ' = [some (.ref p), some (.ref r), y2, y3] ∧ Same H H') ⟨none, none, rfl, Same.refl _⟩ (fun i σ' H' _ ⟨_, _, _, sm⟩ => sm) ?_ ?_⟩
    · rintro i x σ' H' hx ⟨y2, y3, rfl, sm⟩
      obtain ⟨v, hv, rfl⟩ := nIs_get' hx
      obtain ⟨dx, pa, ta, ra, na, lg, prs, kvs, hA⟩ := hJ.same sm
      have hlt := hR v (List.mem_of_getElem? hv)
      refine ⟨_, rfl, p, dx, _, rfl, hA.ob, jf_no (by decide +kernel), _, rfl, p, J, v, rfl, hJ.same sm, _, rfl, iteNS (by omega) ?_⟩
      exact ⟨_, _, rfl, sm⟩
    · rintro σ' H' ⟨y2, y3, rfl, sm⟩
      refine ⟨_, rfl, r, _, rfl, hS.same sm, _, 1, rfl, rfl, _, rfl, by rw [nIs_len]; omega, by rw [nIs_len]; omega, for_range (lo := 0) (fun i σ' H' => ∃ y2 y3, σ' = [some (.ref p), some (.ref r), y2, y3] ∧ Same H H') ⟨y2, y3, rfl, sm⟩ ?_ ?_⟩
      · rintro i σ' H' hi ⟨y2, y3, rfl, sm⟩
        rw [nIs_len] at hi
        have hx : R[i]? = some R[i] := List.getElem?_eq_getElem (by omega)
        have hy : R[i + 1]? = some R[i + 1] := List.getElem?_eq_getElem (by omega)
        have hS' := hS.same sm
        refine ⟨_, rfl, _, rfl, _, rfl, ix_A hS' (at_of (j := i) (by omega) (nIs_get hx)) ⟨_, rfl, _, rfl, _, 1, rfl, rfl, ix_A hS' (at_of (j := i + 1) (by omega) (nIs_get hy)) ⟨p, J, R[i], R[i + 1], rfl, hJ.same sm, ok, hR _ (List.mem_of_getElem? hx), hR _ (List.mem_of_getElem? hy), fun H2 s2 => ⟨_, rfl, ?_⟩⟩⟩⟩
        rw [sideB_iff.mpr (chain_at hc hx hy)]
        exact iteF ⟨_, _, rfl, sm.trans s2⟩
      · rintro σ' H' ⟨y2, y3, rfl, sm⟩
        exact q _ sm
end
end J

set_option Elab.async false
set_option linter.all false
set_option maxRecDepth 100000
set_option maxHeartbeats 4000000
/-! Walks: how a Joins is made. -/
namespace J
open PySem PySem.Spec PyProof.Rows L2
theorem Same.own {H H' : Hp} {D : Addr} {o : HO} (sm : Same H H') (hD : H D = none) : Same H (upd H' D o) := fun b x e => by
  rw [upd_ne (ne_of_none e hD)]
  exact sm _ _ e
theorem TK.own {H H' : Hp} {D : Addr} {o u : HO} (t : TK H H') (e : H' D = some u) (hu : ∀ xs, u ≠ .tup xs) : TK H (L2.upd H' D o) := fun b xs q => by
  have q2 := t _ _ q
  rw [L2.upd_ne (ne_of q2 e fun z => hu xs z.symm)]
  exact q2
theorem PD.keep {P : Program} {w : World} {H H' : Hp} {a : Addr} {kvs : List (PKey × V)} (d : PD P w H a kvs) (e : H' a = H a) (t : TK H H') : PD P w H' a kvs := by
  obtain ⟨xs, e1, r, z, m⟩ := d
  exact ⟨xs, e.trans e1, r.keeps t, z, m⟩
theorem PdPut.tk {P : Program} {w : World} {H H' : Hp} {a : Addr} {kvs kv0 : List (PKey × V)} (d0 : PD P w H a kv0) (d : PdPut P w H a kvs H') : TK H H' := fun b xs q => by
  obtain ⟨ys, e1, _⟩ := d0
  rw [d.2 b (ne_of q e1 fun z => nomatch z)]
  exact q
theorem PdPut.own {P : Program} {w : World} {G H H' : Hp} {a : Addr} {kvs : List (PKey × V)} (d : PdPut P w H a kvs H') (s : Same G H) (n : G a = none) : Same G H' := fun b x e => by
  rw [d.2 b (ne_of_none e n)]
  exact s _ _ e
theorem cat_new {K : PySem.W.Frag} {H : Hp} {a b : Addr} {xs ys : List V} {Q : V → Hp → Prop} (ha : H a = some (.tup xs)) (hb : H b = some (.tup ys)) (hy : ys ≠ []) (hz : xs.length + ys.length ≤ sizeLine)
    (q : ∀ c H', Same H H' → H' c = some (.tup (xs ++ ys)) → Q (.ref c) H') : rCatA K (.ref a) (.ref b) H Q := by
  refine ⟨a, b, xs, ys, rfl, rfl, SqT.of ha, SqT.of hb, hz, fun e => ?_, fun _ e => absurd e hy, fun _ _ c hc => q _ _ (Same.new hc) upd_same⟩
  subst e
  exact q _ _ (Same.refl _) hb
theorem putF_hit {f : Str} {v x : V} {fs : List (Str × V)} : putF f v ((f, x) :: fs) = (f, v) :: fs := by
  unfold putF
  rw [if_pos rfl]
theorem putF_skip {f g : Str} {v x : V} {fs : List (Str × V)} (h : (g == f) = false) : putF f v ((g, x) :: fs) = (g, x) :: putF f v fs := by
  rw [show putF f v ((g, x) :: fs) = (if g = f then (g, v) :: fs else (g, x) :: putF f v fs) from rfl, if_neg (beq_eq_false_iff_ne.mp h)]
theorem jf_put_pairs {al : List Nat} {pa pa' ta ra na : Addr} {lg : Int} : putF ("pairs" : Str) (.ref pa') (jf al pa ta ra na lg) = jf al pa' ta ra na lg := by
  unfold jf
  rw [putF_skip (by decide +kernel), putF_hit]
theorem jf_put_longest {al : List Nat} {pa ta ra na : Addr} {lg lg' : Int} : putF ("longest" : Str) (.int lg') (jf al pa ta ra na lg) = jf al pa ta ra na lg' := by
  unfold jf
  rw [putF_skip (by decide +kernel), putF_skip (by decide +kernel), putF_skip (by decide +kernel), putF_skip (by decide +kernel), putF_skip (by decide +kernel), putF_hit]
theorem jf_len {al : List Nat} {pa ta ra na : Addr} {lg : Int} : (jf al pa ta ra na lg).length < 1000 := by
  show 6 < 1000
  decide
theorem one_ok : ([] : List V).length + 1 ≤ sizeLine := by decide
section
variable {P : Program} {w : World} {K : PySem.W.Frag} {mg : Str → Option Value} {base : Heap}
def spProper (P : Program) (w : World) (K : PySem.W.Frag) : Sp := fun vs H Q _ => ∃ p J a, ∃ l q : Nat, vs = [.ref p, .ref a] ∧ JIs P w K H p J ∧ J.Ok ∧ H a = some (.tup [nI l, nI q]) ∧ l < J.al.length + J.ps.length ∧ q < J.al.length + J.ps.length ∧
  (ex J.al.length J.ps l ++ ex J.al.length J.ps q).length ≤ 40 ∧ stg J.al.length J.ps (ex J.al.length J.ps l ++ ex J.al.length J.ps q) = [l, q] ∧ ∀ H', Same H H' → Q (.bl true) H'
theorem ok_Joins_is_proper (T : Txt K mg) : MetOk P w K mg base 3 (CJ K) "is_proper" ["self", "pair"] (spProper P w K) := by
  have D_cut_row := ok_cut_row (P := P) (w := w) (base := base) T
  have D_is_between := ok_is_between (P := P) (w := w) (base := base) T
  refine mk_Joins_is_proper T (fun vs H Q E h => ?_) (fun f cdv A outer s H vs Q E hr h => ?_)
  · obtain ⟨p, J, a, l, q, rfl, _⟩ := h
    rfl
  · obtain ⟨p, J, a, l, q, rfl, hJ, ok, ha, hl, hq, hs, hc, fin⟩ := h
    obtain ⟨dx, pa, ta, ra, na, lg, prs, kvs, hA⟩ := id hJ
    have hW : ∀ x ∈ ex J.al.length J.ps l ++ ex J.al.length J.ps q, x < J.al.length := fun x hx => by
      rcases List.mem_append.mp hx with h | h
      · exact (ok.prop.letters l hl).2 x h
      · exact (ok.prop.letters q hq).2 x h
    refine ⟨_, (pss_cons (ps_asg (pv 1) (ptupK (K := K) (n := 2) rfl (pgs_cons (pg_n 2 sc_Joins_is_proper.nd) (pgs_cons (pg_n 3 sc_Joins_is_proper.nd) pgs_nil))))
      (pss_cons (ps_st 4 sc_Joins_is_proper.nd (pe_op op_sub (pe_callB (lenK (K := K)) rfl T.b_len PySem.boot_len (pa_cons (fldK (K := K) (pv 0)) pa_nil)) pe_int))
      (pss_cons (ps_if (PW.pt (pw_or (pt_not (pt_val (pe_def D_is_between hr (pa_cons (pv 2) (pa_cons pe_int (pa_cons (pv 4) pa_nil)))))) (pw_or1 (pt_not (pt_val (pe_def D_is_between hr (pa_cons (pv 3) (pa_cons pe_int (pa_cons (pv 4) pa_nil))))))))) (pss_one (ps_ret pe_bl)) pss_nil)
      (pss_cons (ps_st 5 sc_Joins_is_proper.nd (pe_op op_add_str (pe_ix (ix_listK (K := K)) (fldK (K := K) (pv 0)) (pv 2) (fun _ _ => rfl)) (pe_ix (ix_listK (K := K)) (fldK (K := K) (pv 0)) (pv 3) (fun _ _ => rfl))))
      (pss_cons (ps_if (pt_cmpR op_gt (pe_callB call_len_str rfl T.b_len PySem.boot_len (pa_cons (pv 5) pa_nil)) (pe_gint T.LONGEST_PIECE) (nomark _)) (pss_one (ps_ret pe_bl)) pss_nil)
      (pss_cons (ps_st 6 sc_Joins_is_proper.nd (pe_callTy (tupK (K := K)) rfl T.b_tuple (by decide +kernel) (pa_cons (pe_lc (own := [("letter", 7)]) (g := (gName 7)) (tt := tYes) rfl sc_Joins_is_proper.nd (pi_str (pv 5)) (blkOk_by (N := N_Joins_is_proper) (sc := defScope s_Joins_is_proper) (by decide +kernel)) (fun _ _ _ _ _ => (pg_n 7 sc_Joins_is_proper.nd)) (fun _ _ _ _ _ => pts_nil) (fun _ _ _ _ _ => (pe_dget (hu_of hr) (fldK (K := K) (pv 0)) (pv 7) (fun _ _ => rfl)))) pa_nil)))
      (pss_one (ps_ret (pe_cmpR (eqDK (K := K) hr.units) (pe_def D_cut_row hr (pa_cons (fldK (K := K) (pv 0)) (pa_cons (pe_callB call_len_str rfl T.b_len PySem.boot_len (pa_cons (fldK (K := K) (pv 0)) pa_nil)) (pa_cons (pv 6) pa_nil)))) (pv 1) (nomark _)))))))))), ?_⟩
    refine ⟨_, rfl, a, _, rfl, SqT.of ha, rfl, _, _, rfl, _, _, rfl, rfl, ?_⟩
    refine ⟨_, rfl, p, _, dx, _, _, rfl, hA.ob, T.cls_J, T.no_J_texts, jf_texts, ?_⟩
    refine ⟨ta, _, rfl, .inl (SqL.of hA.texts), _, _, rfl, rfl, ?_⟩
    rw [txV_len]
    refine ⟨_, rfl, _, rfl, l, 0, _, rfl, _, rfl, iteNS (by omega) ?_⟩
    refine ⟨_, rfl, _, rfl, q, 0, _, rfl, _, rfl, iteNS (by omega) ?_⟩
    -- text
    refine ⟨_, rfl, p, _, dx, _, _, rfl, hA.ob, T.cls_J, T.no_J_texts, jf_texts, _, rfl, ta, _, _, _, rfl, rfl, SqL.of hA.texts, atI_nat (txV_get hl), ?_⟩
    refine ⟨_, rfl, p, _, dx, _, _, rfl, hA.ob, T.cls_J, T.no_J_texts, jf_texts, _, rfl, ta, _, _, _, rfl, rfl, SqL.of hA.texts, atI_nat (txV_get hq), ?_⟩
    have hs2 := hs
    rw [List.length_append] at hs2
    refine ⟨_, _, rfl, rfl, by rw [tx_len, tx_len]; exact small_ok (by omega), ?_⟩
    rw [← tx_app]
    generalize hWW : ex J.al.length J.ps l ++ ex J.al.length J.ps q = W at hs hc hW
    refine ⟨_, rfl, _, rfl, by rw [tx_len]; exact small_ok (by omega), _, _, rfl, rfl, _, rfl, ite2 (fun z => absurd (of_decide_eq_true z) (by rw [tx_len]; omega)) fun _ => ?_⟩
    -- row
    refine ⟨_, rfl, _, rfl, fun D hD => lc_str (fun i H' => Same H H' ∧ H' D = some (.lst (nIs (W.take i)))) ⟨Same.new hD, upd_same⟩ ?_ ?_⟩
    · rintro i c H' hi ⟨sm, hDl⟩
      rw [tx_get] at hi
      obtain ⟨x, hx, hcx⟩ := Option.map_eq_some_iff.mp hi
      have hxb : x < J.al.length := hW x (List.mem_of_getElem? hx)
      have hac : J.al[x]? = some c := by rw [← hcx]; exact getD_at hxb
      have hA2 := hA.same sm
      refine ⟨rfl, yes (iteT ?_)⟩
      have hv := hA.num1 x hxb
      rw [tx_one hac] at hv
      have hg := DGet.k (k := Sum.inr (⟨#[c]⟩ : Str)) hA2.nums
      rw [hv] at hg
      refine ⟨_, rfl, p, _, dx, _, _, rfl, hA2.ob, T.cls_J, T.no_J_numbers, jf_numbers, _, rfl, na, _, rfl, hg, ?_⟩
      refine ⟨_, hDl, by rw [nIs_len, List.length_take]; exact small_lt (by omega), Same.own sm hD, ?_⟩
      rw [upd_same, List.take_add_one, hx]
      exact congrArg (fun z => some (HO.lst z)) (nIs_snoc _ x)
    · rintro H' ⟨sm, hDl⟩
      rw [tx_size, List.take_length] at hDl
      refine ⟨D, _, rfl, .inl ⟨SqL.of hDl, fun z hz => ?_⟩⟩
      have sm2 := sm.trans (Same.new (o := .tup (nIs W)) hz)
      have hA2 := hA.same sm2
      refine ⟨_, rfl, p, _, dx, _, _, rfl, hA2.ob, T.cls_J, T.no_J_ranks, jf_ranks, _, rfl, p, _, dx, _, _, rfl, hA2.ob, T.cls_J, T.no_J_alphabet, jf_alphabet, _, rfl, by rw [alS_len]; exact small_ok (by have := ok.b30; omega), _, rfl, ?_⟩
      rw [alS_len]
      refine ⟨ra, z, J.al.length, J.ps, W, rfl, hA2.ranks, ok.prop.uniq, ok.prop.low, upd_same, by omega, fun H2 z2 s2 hz2 => ?_⟩
      rw [hc] at hz2
      have s3 := sm2.trans s2
      refine ⟨_, rfl, eq_tups (ns := [l, q]) (ms := [l, q]) hz2 (s3 _ _ ha) ?_⟩
      rw [decide_eq_true rfl]
      exact fin _ s3
/-- a Joins that is under way: what stood ahead of it is as it was -/
def JNew (P : Program) (w : World) (K : PySem.W.Frag) (H0 H : Hp) (p : Addr) (J : JD) : Prop := Same H0 H ∧ ∃ dx pa ta ra na lg prs kvs, JAt P w K H p J dx pa ta ra na lg prs kvs ∧ H0 p = none ∧ H0 ta = none ∧ H0 ra = none ∧ H0 na = none
theorem JNew.is {H0 H : Hp} {p : Addr} {J : JD} (h : JNew P w K H0 H p J) : JIs P w K H p J := by
  obtain ⟨_, dx, pa, ta, ra, na, lg, prs, kvs, h, _⟩ := h
  exact ⟨dx, pa, ta, ra, na, lg, prs, kvs, h⟩
def spTake (P : Program) (w : World) (K : PySem.W.Frag) : Sp := fun vs H Q _ => ∃ H0 p J a, ∃ l q : Nat, vs = [.ref p, .ref a] ∧ JNew P w K H0 H p J ∧ J.Ok ∧ J.ps.length < 60 ∧ (l, q) ∉ J.ps ∧ H a = some (.tup [nI l, nI q]) ∧ l < J.al.length + J.ps.length ∧ q < J.al.length + J.ps.length ∧
  (ex J.al.length J.ps l ++ ex J.al.length J.ps q).length ≤ 40 ∧ stg J.al.length J.ps (ex J.al.length J.ps l ++ ex J.al.length J.ps q) = [l, q] ∧ ∀ H', TK H H' → JNew P w K H0 H' p ⟨J.al, J.ps ++ [(l, q)]⟩ → Q .non H'
theorem ok_Joins_take (T : Txt K mg) : MetOk P w K mg base 4 (CJ K) "take" ["self", "pair"] (spTake P w K) := by
  have M_Joins_is_proper := ok_Joins_is_proper (P := P) (w := w) (base := base) T
  refine mk_Joins_take T (fun vs H Q E h => ?_) (fun f cdv A outer s H vs Q E hr h => ?_)
  · obtain ⟨H0, p, J, a, l, q, rfl, _⟩ := h
    rfl
  · obtain ⟨H0, p, J, a, l, q, rfl, hN, ok, h60, hnot, ha, hl, hq, hs, hc, fin⟩ := h
    obtain ⟨s0, dx, pa, ta, ra, na, lg, prs, kvs, hA, n1, n2, n3, n4⟩ := id hN
    refine ⟨_, (pss_cons (ps_st 2 sc_Joins_take.nd (pe_callB (lenK (K := K)) rfl T.b_len PySem.boot_len (pa_cons (fldK (K := K) (pv 0)) pa_nil)))
      (pss_cons (ps_if (pt_not (pt_val (pe_met (pv 0) T.cls_J M_Joins_is_proper hr (pa_cons (pv 1) pa_nil)))) (pss_one ps_never) pss_nil)
      (pss_cons (ps_st 3 sc_Joins_take.nd (pe_op op_add_str (pe_ix (ix_listK (K := K)) (fldK (K := K) (pv 0)) (pe_ix (ix_tupK (K := K)) (pv 1) pe_int (fun _ _ => rfl)) (fun _ _ => rfl)) (pe_ix (ix_listK (K := K)) (fldK (K := K) (pv 0)) (pe_ix (ix_tupK (K := K)) (pv 1) pe_int (fun _ _ => rfl)) (fun _ _ => rfl))))
      (pss_cons (pfldK (K := K) (pv 0) (pe_op (catAK (K := K)) (fldK (K := K) (pv 0)) (pe_tup (pa_cons (pv 1) pa_nil))))
      (pss_cons (ps_dput (hu_of hr) (fldK (K := K) (pv 0)) (pv 3) (pe_callB (lenK (K := K)) rfl T.b_len PySem.boot_len (pa_cons (fldK (K := K) (pv 0)) pa_nil)) rfl)
      (pss_cons (ps_expr (bmK (K := K) PySem.F.plainAttrs_list PySem.F.slot_list_append PySem.F.type_list_append mt_append (fldK (K := K) (pv 0)) (pa_cons (pv 3) pa_nil)))
      (pss_cons (pdputK (P := P) (w := w) (hu_of hr) (fldK (K := K) (pv 0)) (pv 1) (pv 2))
      (pss_one (pfldK (K := K) (pv 0) (pe_callB (call_max2 rfl) rfl T.b_max (by decide +kernel) (pa_cons (fldK (K := K) (pv 0)) (pa_cons (pe_callB call_len_str rfl T.b_len PySem.boot_len (pa_cons (pv 3) pa_nil)) pa_nil)))))))))))), ?_⟩
    -- rank
    refine ⟨_, rfl, p, _, dx, _, _, rfl, hA.ob, T.cls_J, T.no_J_pairs, jf_pairs, pa, _, rfl, .inr (SqT.of hA.pairs), ?_⟩
    have hpl : prs.length = J.ps.length := Paired.length hA.prs
    rw [List.length_map, hpl]
    refine ⟨_, rfl, p, dx, _, rfl, hA.ob, jf_no (by decide +kernel), _, rfl, p, J, a, l, q, rfl, hN.is, ok, ha, hl, hq, hs, hc, fun H1 s1 => ⟨_, rfl, iteF ?_⟩⟩
    have hA1 := hA.same s1
    have ha1 := s1 _ _ ha
    -- text
    have hL1 := SqL.of (K := K) hA1.texts
    have hTa := SqT.of (K := K) ha1
    refine ⟨_, rfl, p, _, dx, _, _, rfl, hA1.ob, T.cls_J, T.no_J_texts, jf_texts, _, rfl, a, _, _, _, rfl, rfl, hTa, atI_nat (j := 0) rfl, ta, _, _, _, rfl, rfl, hL1, atI_nat (txV_get hl), ?_⟩
    refine ⟨_, rfl, p, _, dx, _, _, rfl, hA1.ob, T.cls_J, T.no_J_texts, jf_texts, _, rfl, a, _, _, _, rfl, rfl, hTa, atI_nat (j := 1) rfl, ta, _, _, _, rfl, rfl, hL1, atI_nat (txV_get hq), ?_⟩
    have hs2 := hs
    rw [List.length_append] at hs2
    refine ⟨_, _, rfl, rfl, by rw [tx_len, tx_len]; exact small_ok (by omega), ?_⟩
    rw [← tx_app]
    have hWl : 2 ≤ (ex J.al.length J.ps l ++ ex J.al.length J.ps q).length := by
      have h1 := (ok.prop.letters l hl).1
      have h2 := (ok.prop.letters q hq).1
      have h3 := List.length_pos_iff.mpr h1
      have h4 := List.length_pos_iff.mpr h2
      rw [List.length_append]
      omega
    have hEX : EX J.al.length (J.ps ++ [(l, q)]) = EX J.al.length J.ps ++ [ex J.al.length J.ps l ++ ex J.al.length J.ps q] := EX_snoc _ _ _
    generalize hWW : ex J.al.length J.ps l ++ ex J.al.length J.ps q = W at hs hc hWl hEX
    -- self.pairs = self.pairs + (pair,)
    refine ⟨_, rfl, p, _, dx, _, _, rfl, hA1.ob, T.cls_J, T.no_J_pairs, jf_pairs, _, rfl, one_ok, fun t1 ht1 => ?_⟩
    have hA1b := hA1.same (Same.new (o := .tup [.ref a]) ht1)
    refine cat_new hA1b.pairs upd_same (by simp) (by rw [List.length_map, hpl]; exact small_ok (by show _ + 1 ≤ _; omega)) fun pa2 H2 s2 hpa2 => ?_
    have s12 := (s1.trans (Same.new (o := .tup [.ref a]) ht1)).trans s2
    have hA2 := hA.same s12
    have s02 := s0.trans s12
    refine ⟨_, rfl, p, _, dx, _, rfl, hA2.ob, T.cls_J, T.no_J_pairs, jf_len, ?_⟩
    rw [jf_put_pairs]
    have s3 := Same.own (o := .ins (CJ K) dx (jf J.al pa2 ta ra na lg)) s02 n1
    have t3 : TK H (upd H2 p (.ins (CJ K) dx (jf J.al pa2 ta ra na lg))) := TK.own (TK.of s12) hA2.ob fun xs z => nomatch z
    have epa3 : (upd H2 p (.ins (CJ K) dx (jf J.al pa2 ta ra na lg))) pa2 = some (.tup ((prs ++ [a]).map V.ref)) := by
      rw [upd_ne (ne_of hpa2 hA2.ob fun z => nomatch z), hpa2, List.map_append]
      rfl
    have ta3 : (upd H2 p (.ins (CJ K) dx (jf J.al pa2 ta ra na lg))) ta = some (.lst (txV J)) := by rw [upd_ne (ne_of hA2.texts hA2.ob fun z => nomatch z), hA2.texts]
    have na3 : (upd H2 p (.ins (CJ K) dx (jf J.al pa2 ta ra na lg))) na = some (.dK kvs) := by rw [upd_ne (ne_of hA2.nums hA2.ob fun z => nomatch z), hA2.nums]
    have ra3 : PD P w (upd H2 p (.ins (CJ K) dx (jf J.al pa2 ta ra na lg))) ra (rkT 0 J.ps) := hA2.ranks.keep (upd_ne (by
      obtain ⟨xs, e, _⟩ := hA2.ranks
      exact ne_of e hA2.ob fun z => nomatch z)) (TK.own (TK.refl _) hA2.ob fun xs z => nomatch z)
    have ob3 : (upd H2 p (.ins (CJ K) dx (jf J.al pa2 ta ra na lg))) p = some (.ins (CJ K) dx (jf J.al pa2 ta ra na lg)) := upd_same
    generalize (upd H2 p (.ins (CJ K) dx (jf J.al pa2 ta ra na lg))) = H3 at s3 t3 epa3 ta3 na3 ra3 ob3
    -- self.numbers[text] = len(self.texts)
    have hln : kvs.length < sizeLine := small_lt (by have := hA.numl; have := ok.b30; omega)
    refine ⟨_, rfl, p, _, dx, _, _, rfl, ob3, T.cls_J, T.no_J_texts, jf_texts, ta, _, rfl, .inl (SqL.of ta3), _, rfl, p, _, dx, _, _, rfl, ob3, T.cls_J, T.no_J_numbers, jf_numbers, _, rfl, na, _, rfl, DPut.k (k := Sum.inr _) na3 hln, ?_⟩
    rw [txV_len]
    have s4 := Same.own (o := .dK (putK kvs (Sum.inr (tx J.al W)) (V.int ((J.al.length + J.ps.length : Nat) : Int)))) s3 n4
    have t4 := TK.own (o := .dK (putK kvs (Sum.inr (tx J.al W)) (V.int ((J.al.length + J.ps.length : Nat) : Int)))) t3 na3 fun xs z => nomatch z
    have na4 : (upd H3 na (.dK (putK kvs (Sum.inr (tx J.al W)) (V.int ((J.al.length + J.ps.length : Nat) : Int))))) na = _ := upd_same
    have epa4 : (upd H3 na (.dK (putK kvs (Sum.inr (tx J.al W)) (V.int ((J.al.length + J.ps.length : Nat) : Int))))) pa2 = _ := (upd_ne (ne_of epa3 na3 fun z => nomatch z)).trans epa3
    have ta4 : (upd H3 na (.dK (putK kvs (Sum.inr (tx J.al W)) (V.int ((J.al.length + J.ps.length : Nat) : Int))))) ta = _ := (upd_ne (ne_of ta3 na3 fun z => nomatch z)).trans ta3
    have ob4 : (upd H3 na (.dK (putK kvs (Sum.inr (tx J.al W)) (V.int ((J.al.length + J.ps.length : Nat) : Int))))) p = _ := (upd_ne (ne_of ob3 na3 fun z => nomatch z)).trans ob3
    have ra4 : PD P w (upd H3 na (.dK (putK kvs (Sum.inr (tx J.al W)) (V.int ((J.al.length + J.ps.length : Nat) : Int))))) ra (rkT 0 J.ps) := ra3.keep (upd_ne (by
      obtain ⟨xs, e, _⟩ := ra3
      exact ne_of e na3 fun z => nomatch z)) (TK.own (TK.refl _) na3 fun xs z => nomatch z)
    generalize (upd H3 na (.dK (putK kvs (Sum.inr (tx J.al W)) (V.int ((J.al.length + J.ps.length : Nat) : Int))))) = H4 at s4 t4 epa4 ta4 na4 ra4 ob4
    -- self.texts.append(text)
    refine ⟨_, rfl, p, _, dx, _, _, rfl, ob4, T.cls_J, T.no_J_texts, jf_texts, .inl ⟨rfl, _, SqL.of ta4⟩, _, rfl, ta, _, _, rfl, rfl, ta4, by rw [txV_len]; exact small_lt (by have := ok.b30; omega), ?_⟩
    have s5 := Same.own (o := .lst (txV J ++ [V.str (tx J.al W)])) s4 n2
    have t5 := TK.own (o := .lst (txV J ++ [V.str (tx J.al W)])) t4 ta4 fun xs z => nomatch z
    have ta5 : (upd H4 ta (.lst (txV J ++ [V.str (tx J.al W)]))) ta = _ := upd_same
    have na5 : (upd H4 ta (.lst (txV J ++ [V.str (tx J.al W)]))) na = _ := (upd_ne (ne_of na4 ta4 fun z => nomatch z)).trans na4
    have epa5 : (upd H4 ta (.lst (txV J ++ [V.str (tx J.al W)]))) pa2 = _ := (upd_ne (ne_of epa4 ta4 fun z => nomatch z)).trans epa4
    have ob5 : (upd H4 ta (.lst (txV J ++ [V.str (tx J.al W)]))) p = _ := (upd_ne (ne_of ob4 ta4 fun z => nomatch z)).trans ob4
    have ra5 : PD P w (upd H4 ta (.lst (txV J ++ [V.str (tx J.al W)]))) ra (rkT 0 J.ps) := ra4.keep (upd_ne (by
      obtain ⟨xs, e, _⟩ := ra4
      exact ne_of e ta4 fun z => nomatch z)) (TK.own (TK.refl _) ta4 fun xs z => nomatch z)
    generalize (upd H4 ta (.lst (txV J ++ [V.str (tx J.al W)]))) = H5 at s5 t5 epa5 ta5 na5 ra5 ob5
    -- self.ranks[pair] = rank
    have ha5 := t5 _ _ ha
    refine ⟨_, rfl, _, rfl, p, _, dx, _, _, rfl, ob5, T.cls_J, T.no_J_ranks, jf_ranks, _, rfl, ra, a, pk (l, q), _, rfl, rfl, ra5, ha5, by rw [rkT_len]; exact small_lt (by omega), fun H6 d6 => ?_⟩
    rw [rkT_put hnot] at d6
    have s6 := d6.own s5 n3
    have t6 := t5.trans (PdPut.tk ra5 d6)
    have hra : ∀ {c : Addr} {o : HO}, H5 c = some o → (∀ F, o ≠ .ext F) → H6 c = some o := fun {c o} e h => by
      obtain ⟨xs, e2, _⟩ := ra5
      rw [d6.2 c (ne_of e e2 (h _)), e]
    have ob6 := hra ob5 fun F z => nomatch z
    have ta6 := hra ta5 fun F z => nomatch z
    have na6 := hra na5 fun F z => nomatch z
    have epa6 := hra epa5 fun F z => nomatch z
    have ra6 := d6.1
    -- self.longest = ..
    refine ⟨_, rfl, p, _, dx, _, _, rfl, ob6, T.cls_J, T.no_J_longest, jf_longest, _, rfl, _, rfl, by rw [tx_len]; exact small_ok (by omega), _, _, rfl, _, rfl, p, _, dx, _, rfl, ob6, T.cls_J, T.no_J_longest, jf_len, ?_⟩
    rw [jf_put_longest]
    generalize (if ((tx J.al W).length : Int) > lg then ((tx J.al W).length : Int) else lg) = lg2
    have t7 := TK.own (o := .ins (CJ K) dx (jf J.al pa2 ta ra na lg2)) t6 ob6 fun xs z => nomatch z
    refine fin _ t7 ⟨Same.own s6 n1, dx, pa2, ta, ra, na, lg2, prs ++ [a], _, ⟨upd_same, (upd_ne (ne_of epa6 ob6 fun z => nomatch z)).trans epa6, ?_, ?_, ?_, (upd_ne (ne_of na6 ob6 fun z => nomatch z)).trans na6, ?_, ?_⟩, n1, n2, n3, n4⟩
    · exact Paired.snoc (hA.prs.tk t7) (t7 _ _ ha)
    · rw [upd_ne (ne_of ta6 ob6 fun z => nomatch z), ta6]
      unfold txV
      rw [hEX, List.map_append]
      rfl
    · refine ra6.keep (upd_ne (by
        obtain ⟨xs, e, _⟩ := ra6
        exact ne_of e ob6 fun z => nomatch z)) (TK.own (TK.refl _) ob6 fun xs z => nomatch z)
    · intro i hi
      rw [valV_put, if_neg fun z => ?_]
      · exact hA.num1 i hi
      · have z2 : tx J.al [i] = tx J.al W := Sum.inr.inj z
        have z3 := congrArg Str.length z2
        rw [tx_len, tx_len] at z3
        simp only [List.length_singleton] at z3
        omega
    · have h1 := length_putK kvs (Sum.inr (tx J.al W)) (V.int ((J.al.length + J.ps.length : Nat) : Int))
      have h2 := hA.numl
      show _ ≤ J.al.length + (J.ps ++ [(l, q)]).length
      rw [List.length_append, List.length_singleton]
      omega
/-- the heap but for what stands at t -/
def wo (t : Addr) (H : Hp) : Hp := fun b => if b = t then none else H b
theorem wo_at {t : Addr} {H : Hp} : wo t H t = none := if_pos rfl
theorem wo_ne {t b : Addr} {H : Hp} (h : b ≠ t) : wo t H b = H b := if_neg h
theorem wo_le {t : Addr} {H : Hp} : Same (wo t H) H := fun b x e => by
  unfold wo at e
  by_cases h : b = t
  · rw [if_pos h] at e
    cases e
  · rw [if_neg h] at e
    exact e
theorem wo_some {t b : Addr} {H : Hp} {x : HO} (e : H b = some x) (h : b ≠ t) : wo t H b = some x := (wo_ne h).trans e
theorem JNew.lower {G H0 H : Hp} {p : Addr} {J : JD} (h : JNew P w K H0 H p J) (s : Same G H0) : JNew P w K G H p J := by
  obtain ⟨s0, dx, pa, ta, ra, na, lg, prs, kvs, h, n1, n2, n3, n4⟩ := h
  exact ⟨s.trans s0, dx, pa, ta, ra, na, lg, prs, kvs, h, s.free n1, s.free n2, s.free n3, s.free n4⟩
theorem JD.Ok.take {J : JD} (ok : J.Ok) (i : Nat) : (JD.mk J.al (J.ps.take i)).Ok := by
  refine ⟨ok.prop.take i, ok.b1, ok.b30, Nat.le_trans (List.length_take_le' ..) ok.p60, fun p hp => ?_, ok.asc, ok.rng⟩
  have hp : p < J.al.length + (J.ps.take i).length := hp
  show (ex J.al.length (J.ps.take i) p).length ≤ 40
  rw [ok.prop.ex_take i p hp]
  exact ok.short p (Nat.lt_of_lt_of_le hp (Nat.add_le_add_left (List.length_take_le' ..) _))
def j1 (al : List Nat) (pa ta ra na : Addr) : List (Str × V) := [("alphabet", .str (alS al))]
def j2 (al : List Nat) (pa ta ra na : Addr) : List (Str × V) := [("alphabet", .str (alS al)), ("pairs", .ref pa)]
def j3 (al : List Nat) (pa ta ra na : Addr) : List (Str × V) := [("alphabet", .str (alS al)), ("pairs", .ref pa), ("texts", .ref ta)]
def j4 (al : List Nat) (pa ta ra na : Addr) : List (Str × V) := [("alphabet", .str (alS al)), ("pairs", .ref pa), ("texts", .ref ta), ("ranks", .ref ra)]
def j5 (al : List Nat) (pa ta ra na : Addr) : List (Str × V) := [("alphabet", .str (alS al)), ("pairs", .ref pa), ("texts", .ref ta), ("ranks", .ref ra), ("numbers", .ref na)]
theorem jp1 {al : List Nat} {pa ta ra na : Addr} : putF ("alphabet" : Str) (.str (alS al)) ([] : List (Str × V)) = j1 al pa ta ra na := by
  rfl
theorem jp2 {al : List Nat} {pa ta ra na : Addr} : putF ("pairs" : Str) (.ref pa) (j1 al pa ta ra na) = j2 al pa ta ra na := by
  unfold j1
  rw [putF_skip (by decide +kernel)]
  rfl
theorem jp3 {al : List Nat} {pa ta ra na : Addr} : putF ("texts" : Str) (.ref ta) (j2 al pa ta ra na) = j3 al pa ta ra na := by
  unfold j2
  rw [putF_skip (by decide +kernel), putF_skip (by decide +kernel)]
  rfl
theorem jp4 {al : List Nat} {pa ta ra na : Addr} : putF ("ranks" : Str) (.ref ra) (j3 al pa ta ra na) = j4 al pa ta ra na := by
  unfold j3
  rw [putF_skip (by decide +kernel), putF_skip (by decide +kernel), putF_skip (by decide +kernel)]
  rfl
theorem jp5 {al : List Nat} {pa ta ra na : Addr} : putF ("numbers" : Str) (.ref na) (j4 al pa ta ra na) = j5 al pa ta ra na := by
  unfold j4
  rw [putF_skip (by decide +kernel), putF_skip (by decide +kernel), putF_skip (by decide +kernel), putF_skip (by decide +kernel)]
  rfl
theorem jp6 {al : List Nat} {pa ta ra na : Addr} {lg : Int} : putF ("longest" : Str) (.int lg) (j5 al pa ta ra na) = jf al pa ta ra na lg := by
  unfold j5
  rw [putF_skip (by decide +kernel), putF_skip (by decide +kernel), putF_skip (by decide +kernel), putF_skip (by decide +kernel), putF_skip (by decide +kernel)]
  rfl
def spJoins (P : Program) (w : World) (K : PySem.W.Frag) : Sp := fun vs H Q _ => ∃ p dx J pr prs, vs = [.ref p, .str (alS J.al), .ref pr] ∧ H p = some (.ins (CJ K) dx []) ∧ J.Ok ∧ H pr = some (.tup (prs.map V.ref)) ∧ PairsAt H prs J.ps ∧ ∀ H', JNew P w K (wo p H) H' p J → Q .non H'
theorem ok_Joins (T : Txt K mg) : NewOk P w K mg base 5 (CJ K) "Joins" ["self", "alphabet", "pairs"] (spJoins P w K) := by
  have D_checked_alphabet := ok_checked_alphabet (P := P) (w := w) (base := base) T
  have M_Joins_take := ok_Joins_take (P := P) (w := w) (base := base) T
  refine mk_Joins_init T (fun vs H Q E h => ?_) (fun f cdv A outer s H vs Q E hr h => ?_)
  · obtain ⟨p, dx, J, pr, prs, rfl, _⟩ := h
    rfl
  · obtain ⟨p, dx, J, pr, prs, rfl, hp, ok, hpr, hps, fin⟩ := h
    refine ⟨_, (pss_cons (pfldK (K := K) (pv 0) (pe_def D_checked_alphabet hr (pa_cons (pv 1) pa_nil)))
      (pss_cons (pfldK (K := K) (pv 0) (pe_tup pa_nil))
      (pss_cons (pfldK (K := K) (pv 0) (pe_callTy (call_list_text rfl) rfl T.b_list (by decide +kernel) (pa_cons (pv 1) pa_nil)))
      (pss_cons (pfldK (K := K) (pv 0) (pdnewK (P := P) (w := w)))
      (pss_cons (pfldK (K := K) (pv 0) (pe_dc (own := [("at", 4), ("letter", 5)]) (tt := tYes) rfl sc_Joins_init.nd (pi_enumx T.b_enumerate (pa_cons (pv 1) pa_nil)) (blkOk_by (N := N_Joins_init) (sc := defScope s_Joins_init) (by decide +kernel)) (fun _ _ _ _ _ => (ptupK (K := K) (n := 2) rfl (pgs_cons (pg_n 4 sc_Joins_init.nd) (pgs_cons (pg_n 5 sc_Joins_init.nd) pgs_nil)))) (fun _ _ _ _ _ => pts_nil) (fun _ _ _ _ _ => (pv 5)) (fun _ _ _ _ _ => (pv 4))))
      (pss_cons (pfldK (K := K) (pv 0) pe_int)
      (pss_one (ps_for PassesOwn.never rfl (pi_tup (pv 2)) (pg_n 3 sc_Joins_init.nd)
        (pss_one (ps_expr (pe_met (pv 0) T.cls_J M_Joins_take hr (pa_cons (pe_callTy (tupK (K := K)) rfl T.b_tuple (by decide +kernel) (pa_cons (pv 3) pa_nil)) pa_nil)))))))))))), ?_⟩
    have sa : Same (wo p H) H := wo_le
    have na : wo p H p = none := wo_at
    -- self.alphabet
    refine ⟨_, rfl, J.al, rfl, ⟨ok.b1, ok.b30, ok.asc, ok.rng⟩, _, rfl, p, _, dx, _, rfl, hp, T.cls_J, T.no_J_alphabet, by decide, ?_⟩
    rw [jp1 (pa := 0) (ta := 0) (ra := 0) (na := 0)]
    have s1 := Same.own (o := .ins (CJ K) dx (j1 J.al 0 0 0 0)) sa na
    have p1 : (upd H p (.ins (CJ K) dx (j1 J.al 0 0 0 0))) p = _ := upd_same
    generalize (upd H p (.ins (CJ K) dx (j1 J.al 0 0 0 0))) = H1 at s1 p1
    -- self.pairs
    refine ⟨Nat.zero_le _, fun pa hpa => ⟨_, rfl, p, _, dx, _, rfl, (Same.new hpa) _ _ p1, T.cls_J, T.no_J_pairs, (by show 1 < 1000; decide), ?_⟩⟩
    rw [show putF ("pairs" : Str) (V.ref pa) (j1 J.al 0 0 0 0) = j2 J.al pa 0 0 0 from jp2]
    have npa : wo p H pa = none := s1.free hpa
    have s2 := Same.own (o := .ins (CJ K) dx (j2 J.al pa 0 0 0)) (s1.trans (Same.new (o := .tup []) hpa)) na
    have p2 : (upd (upd H1 pa (.tup [])) p (.ins (CJ K) dx (j2 J.al pa 0 0 0))) p = _ := upd_same
    have pa2 : (upd (upd H1 pa (.tup [])) p (.ins (CJ K) dx (j2 J.al pa 0 0 0))) pa = _ := (upd_ne (ne_of_none p1 hpa).symm).trans upd_same
    generalize (upd (upd H1 pa (.tup [])) p (.ins (CJ K) dx (j2 J.al pa 0 0 0))) = H2 at s2 p2 pa2
    -- self.texts
    refine ⟨_, rfl, _, rfl, by rw [alS_len]; exact small_ok (by have := ok.b30; omega), fun ta hta => ⟨_, rfl, p, _, dx, _, rfl, (Same.new hta) _ _ p2, T.cls_J, T.no_J_texts, (by show 2 < 1000; decide), ?_⟩⟩
    rw [show putF ("texts" : Str) (V.ref ta) (j2 J.al pa 0 0 0) = j3 J.al pa ta 0 0 from jp3]
    have eta : (List.map (fun c => V.str ⟨#[c]⟩) (alS J.al).cps.toList) = txV ⟨J.al, []⟩ := by
      refine List.ext_getElem? fun i => ?_
      by_cases hi : i < J.al.length
      · rw [txV_get (J := ⟨J.al, []⟩) (by show i < J.al.length + 0; omega), List.getElem?_map]
        show Option.map _ (J.al.toArray.toList)[i]? = _
        rw [show J.al.toArray.toList = J.al from rfl, getD_at hi, show ex (JD.mk J.al []).al.length (JD.mk J.al []).ps i = [i] from ex_letter (ps := []) hi, show (JD.mk J.al []).al = J.al from rfl, tx_one (getD_at hi)]
        rfl
      · rw [List.getElem?_eq_none (by rw [List.length_map]; show J.al.toArray.toList.length ≤ i; rw [show J.al.toArray.toList = J.al from rfl]; omega), List.getElem?_eq_none (by rw [txV_len]; show J.al.length + 0 ≤ i; omega)]
    rw [eta]
    have nta : wo p H ta = none := s2.free hta
    have s3 := Same.own (o := .ins (CJ K) dx (j3 J.al pa ta 0 0)) (s2.trans (Same.new (o := .lst (txV ⟨J.al, []⟩)) hta)) na
    have p3 : (upd (upd H2 ta (.lst (txV ⟨J.al, []⟩))) p (.ins (CJ K) dx (j3 J.al pa ta 0 0))) p = _ := upd_same
    have ta3 : (upd (upd H2 ta (.lst (txV ⟨J.al, []⟩))) p (.ins (CJ K) dx (j3 J.al pa ta 0 0))) ta = _ := (upd_ne (ne_of_none p2 hta).symm).trans upd_same
    have pa3 : (upd (upd H2 ta (.lst (txV ⟨J.al, []⟩))) p (.ins (CJ K) dx (j3 J.al pa ta 0 0))) pa = _ := (upd_ne (ne_of pa2 p2 fun z => nomatch z)).trans ((Same.new hta) _ _ pa2)
    generalize (upd (upd H2 ta (.lst (txV ⟨J.al, []⟩))) p (.ins (CJ K) dx (j3 J.al pa ta 0 0))) = H3 at s3 p3 ta3 pa3
    -- self.ranks
    refine fun ra H4 hra d4 => ⟨_, rfl, p, _, dx, _, rfl, (d4.2 p (ne_of_none p3 hra)).trans p3, T.cls_J, T.no_J_ranks, (by show 3 < 1000; decide), ?_⟩
    rw [show putF ("ranks" : Str) (V.ref ra) (j3 J.al pa ta 0 0) = j4 J.al pa ta ra 0 from jp4]
    have nra : wo p H ra = none := s3.free hra
    have p3' := (d4.2 p (ne_of_none p3 hra)).trans p3
    have ta4 := (d4.2 ta (ne_of_none ta3 hra)).trans ta3
    have pa4 := (d4.2 pa (ne_of_none pa3 hra)).trans pa3
    have s4 := Same.own (o := .ins (CJ K) dx (j4 J.al pa ta ra 0)) (d4.own s3 nra) na
    have p5 : (upd H4 p (.ins (CJ K) dx (j4 J.al pa ta ra 0))) p = _ := upd_same
    have ta5 : (upd H4 p (.ins (CJ K) dx (j4 J.al pa ta ra 0))) ta = _ := (upd_ne (ne_of ta4 p3' fun z => nomatch z)).trans ta4
    have pa5 : (upd H4 p (.ins (CJ K) dx (j4 J.al pa ta ra 0))) pa = _ := (upd_ne (ne_of pa4 p3' fun z => nomatch z)).trans pa4
    have ra5 : PD P w (upd H4 p (.ins (CJ K) dx (j4 J.al pa ta ra 0))) ra [] := d4.1.keep (upd_ne (by
      obtain ⟨xs, e, _⟩ := d4.1
      exact ne_of e p3' fun z => nomatch z)) (TK.own (TK.refl _) p3' fun xs z => nomatch z)
    generalize (upd H4 p (.ins (CJ K) dx (j4 J.al pa ta ra 0))) = H5 at s4 p5 ta5 pa5 ra5
    -- self.numbers
    refine ⟨_, rfl, _, rfl, fun na2 hna => dc_enx (fun i H' => Same H5 H' ∧ ∃ kvs, H' na2 = some (.dK kvs) ∧ kvs.length ≤ i ∧ ∀ j, j < i → valV kvs (Sum.inr (tx J.al [j])) = some (.int (j : Nat))) ⟨Same.new hna, [], upd_same, Nat.le_refl _, fun j hj => absurd hj (Nat.not_lt_zero _)⟩ ?_ ?_⟩
    · rintro i c H' t hi ⟨sm, kvs, hk, hl, hv⟩ ht
      have hi2 : J.al[i]? = some c := by simpa [alS] using hi
      have hib := (List.getElem?_eq_some_iff.mp hi2).1
      refine ⟨t, _, rfl, SqT.of upd_same, rfl, _, _, rfl, _, _, rfl, rfl, rfl, yes (iteT ?_)⟩
      have hk2 : (upd H' t (.tup [.int (i : Nat), .str ⟨#[c]⟩])) na2 = some (.dK kvs) := (Same.new ht) _ _ hk
      refine ⟨_, rfl, _, rfl, kvs, Sum.inr ⟨#[c]⟩, rfl, hk2, small_lt (by have := ok.b30; omega), Same.own (sm.trans (Same.new ht)) hna, _, upd_same, Nat.le_trans (length_putK _ _ _) (by omega), fun j hj => ?_⟩
      rw [valV_put, ← tx_one hi2]
      by_cases e : j = i
      · rw [e, if_pos rfl]
      · rw [if_neg fun z => e ?_, hv j (by omega)]
        have z2 : tx J.al [j] = tx J.al [i] := Sum.inr.inj z
        have z3 := tx_inj ok.nodup (U := [j]) (V := [i]) (by intro x hx; rw [List.mem_singleton.mp hx]; omega) (by intro x hx; rw [List.mem_singleton.mp hx]; omega) z2
        exact (List.cons.inj z3).1
    · rintro H6 ⟨sm, kvs, hk, hl, hv⟩
      have hsz : (alS J.al).cps.size = J.al.length := by simp [alS]
      rw [hsz] at hl hv
      have p6 := sm _ _ p5
      refine ⟨_, rfl, p, _, dx, _, rfl, p6, T.cls_J, T.no_J_numbers, (by show 4 < 1000; decide), ?_⟩
      rw [show putF ("numbers" : Str) (V.ref na2) (j4 J.al pa ta ra 0) = j5 J.al pa ta ra na2 from jp5]
      have nna : wo p H na2 = none := s4.free hna
      have s7 := Same.own (o := .ins (CJ K) dx (j5 J.al pa ta ra na2)) (s4.trans sm) na
      have p7 : (upd H6 p (.ins (CJ K) dx (j5 J.al pa ta ra na2))) p = _ := upd_same
      have ta7 := (upd_ne (H := H6) (a := p) (o := .ins (CJ K) dx (j5 J.al pa ta ra na2)) (ne_of ta5 p5 fun z => nomatch z)).trans (sm _ _ ta5)
      have pa7 := (upd_ne (H := H6) (a := p) (o := .ins (CJ K) dx (j5 J.al pa ta ra na2)) (ne_of pa5 p5 fun z => nomatch z)).trans (sm _ _ pa5)
      have na7 := (upd_ne (H := H6) (a := p) (o := .ins (CJ K) dx (j5 J.al pa ta ra na2)) (ne_of hk p6 fun z => nomatch z)).trans hk
      have ra7 : PD P w (upd H6 p (.ins (CJ K) dx (j5 J.al pa ta ra na2))) ra [] := (ra5.same sm).keep (upd_ne (by
        obtain ⟨xs, e, _⟩ := ra5
        exact ne_of e p5 fun z => nomatch z)) (TK.own (TK.refl _) p6 fun xs z => nomatch z)
      generalize (upd H6 p (.ins (CJ K) dx (j5 J.al pa ta ra na2))) = H7 at s7 p7 ta7 pa7 na7 ra7
      -- self.longest
      refine ⟨_, rfl, p, _, dx, _, rfl, p7, T.cls_J, T.no_J_longest, (by show 5 < 1000; decide), ?_⟩
      rw [show putF ("longest" : Str) (V.int 1) (j5 J.al pa ta ra na2) = jf J.al pa ta ra na2 1 from jp6]
      have t8 : TK H7 (upd H7 p (.ins (CJ K) dx (jf J.al pa ta ra na2 1))) := TK.own (TK.refl _) p7 fun xs z => nomatch z
      have hN : JNew P w K (wo p H) (upd H7 p (.ins (CJ K) dx (jf J.al pa ta ra na2 1))) p ⟨J.al, J.ps.take 0⟩ := by
        refine ⟨Same.own s7 na, dx, pa, ta, ra, na2, 1, [], kvs, ⟨upd_same, t8 _ _ pa7, .nil, ?_, ?_, ?_, hv, by show _ ≤ J.al.length + 0; omega⟩, na, nta, nra, nna⟩
        · rw [upd_ne (ne_of ta7 p7 fun z => nomatch z)]
          exact ta7
        · exact ra7.keep (upd_ne (by
            obtain ⟨xs, e, _⟩ := ra7
            exact ne_of e p7 fun z => nomatch z)) t8
        · rw [upd_ne (ne_of na7 p7 fun z => nomatch z)]
          exact na7
      generalize (upd H7 p (.ins (CJ K) dx (jf J.al pa ta ra na2 1))) = H8 at hN
      -- the pairs
      have hpr8 : wo p H pr = some (.tup (prs.map V.ref)) := wo_some hpr (ne_of hpr hp fun z => nomatch z)
      have hps8 : PairsAt (wo p H) prs J.ps := L2.Paired.mapP hps fun a c e => wo_some e (ne_of e hp fun z => nomatch z)
      have hlen : prs.length = J.ps.length := Paired.length hps
      refine ⟨_, rfl, pr, rfl, ⟨_, SqT.of (hN.1 _ _ hpr8)⟩, for_tup (K := K) (xs := prs.map V.ref) (fun i σ' H' => ∃ y3 y4 y5, σ' = [some (.ref p), some (.str (alS J.al)), some (.ref pr), y3, y4, y5] ∧ JNew P w K (wo p H) H' p ⟨J.al, J.ps.take i⟩) ⟨_, _, _, rfl, hN⟩ (fun i σ' H' _ ⟨_, _, _, _, h⟩ => SqT.of (h.1 _ _ hpr8)) ?_ ?_⟩
      · rintro i x σ' H' hx ⟨y3, y4, y5, rfl, hN'⟩
        rw [List.getElem?_map] at hx
        obtain ⟨a, ha, rfl⟩ := Option.map_eq_some_iff.mp hx
        obtain ⟨⟨l, q⟩, hc, hac⟩ := paired_get' hps8 ha
        have hac' := hN'.1 _ _ hac
        have hi : i < J.ps.length := (List.getElem?_eq_some_iff.mp hc).1
        have hlow := ok.prop.low i _ hc
        have htl : (J.ps.take i).length = i := take_len hc
        obtain ⟨h0, dx', pa', ta', ra', na', lg', prs', kvs', hA, _⟩ := id hN'
        refine ⟨_, rfl, p, dx', _, rfl, hA.ob, jf_no (by decide +kernel), _, rfl, a, _, rfl, .inr ⟨SqT.of hac', ?_⟩⟩
        refine ⟨wo p H, p, ⟨J.al, J.ps.take i⟩, a, l, q, rfl, hN', ok.take i, by rw [htl]; have := ok.p60; omega, fun hm => ?_, hac', by rw [htl]; exact hlow.1, by rw [htl]; exact hlow.2, ?_, ?_, fun H2 t2 hN2 => ?_⟩
        · obtain ⟨j, hj, hjc⟩ := mem_take_ix hm
          exact absurd (ok.prop.uniq _ _ _ hjc hc) (by omega)
        · show (ex J.al.length (J.ps.take i) l ++ ex J.al.length (J.ps.take i) q).length ≤ 40
          rw [ok.prop.ex_take i l (by rw [htl]; exact hlow.1), ok.prop.ex_take i q (by rw [htl]; exact hlow.2), ← ok.prop.text i _ hc]
          exact ok.short _ (by omega)
        · show stg J.al.length (J.ps.take i) (ex J.al.length (J.ps.take i) l ++ ex J.al.length (J.ps.take i) q) = [l, q]
          rw [ok.prop.ex_take i l (by rw [htl]; exact hlow.1), ok.prop.ex_take i q (by rw [htl]; exact hlow.2)]
          exact ok.prop.cut2 i _ hc
        · refine ⟨_, _, _, rfl, ?_⟩
          have e : J.ps.take (i + 1) = J.ps.take i ++ [(l, q)] := by
            rw [List.take_add_one, hc]
            rfl
          rw [e]
          exact hN2
      · rintro σ' H' ⟨y3, y4, y5, rfl, hN'⟩
        rw [List.length_map, hlen, List.take_length] at hN'
        exact fin _ hN'
end
end J

set_option Elab.async false
set_option linter.all false
set_option maxRecDepth 100000
set_option maxHeartbeats 4000000
/-! Walks: the machine. -/
namespace J
open PySem PySem.Spec PyProof.Rows L2
/-! ### a machine -/
structure MD where
  al : List Nat
  start : Nat
  ends : List Nat
  steps : List (List (Option Nat))
def MD.step (M : MD) (s x : Nat) : Option Nat := ((M.steps.getD s []).getD x none)
def MD.run (M : MD) (o : Option Nat) (W : List Nat) : Option Nat := W.foldl (fun o x => o.bind fun s => M.step s x) o
structure MD.Ok (M : MD) : Prop where
  b30 : M.al.length ≤ 30
  asc : M.al.Pairwise (· < ·)
  n12 : M.steps.length ≤ 12
  start : M.start < M.steps.length
  ends : ∀ s ∈ M.ends, s < M.steps.length
  e12 : M.ends.length ≤ 12
  rows : ∀ r ∈ M.steps, r.length = M.al.length
  targets : ∀ r ∈ M.steps, ∀ s, some s ∈ r → s < M.steps.length
/-- a state, or none -/
def MD.In (M : MD) (o : Option Nat) : Prop := ∀ s, o = some s → s < M.steps.length
theorem MD.run_app (M : MD) (o : Option Nat) (U V : List Nat) : M.run o (U ++ V) = M.run (M.run o U) V := List.foldl_append
theorem MD.run_none (M : MD) : ∀ W : List Nat, M.run none W = none
  | [] => rfl
  | x :: W => M.run_none W
theorem MD.step_in {M : MD} (ok : M.Ok) (s x : Nat) : M.In (M.step s x) := by
  intro t h
  unfold MD.step at h
  by_cases hs : s < M.steps.length
  · rw [List.getD_eq_getElem?_getD, List.getD_eq_getElem?_getD, List.getElem?_eq_getElem hs] at h
    simp only [Option.getD_some] at h
    by_cases hx : x < (M.steps[s]).length
    · rw [List.getElem?_eq_getElem hx] at h
      simp only [Option.getD_some] at h
      exact ok.targets _ (List.getElem_mem hs) t (by rw [← h]; exact List.getElem_mem hx)
    · rw [List.getElem?_eq_none (by omega)] at h
      cases h
  · rw [List.getD_eq_getElem?_getD, List.getD_eq_getElem?_getD, List.getElem?_eq_none (l := M.steps) (by omega)] at h
    simp at h
theorem MD.run_in {M : MD} (ok : M.Ok) : ∀ (W : List Nat) (o : Option Nat), M.In o → M.In (M.run o W)
  | [], o, h => h
  | x :: W, o, h => by
    show M.In (M.run (o.bind fun s => M.step s x) W)
    refine MD.run_in ok W _ ?_
    cases o with
    | none => intro s h; cases h
    | some s => exact MD.step_in ok s x
/-- a row of states or Nones -/
abbrev oVs (r : List (Option Nat)) : List V := r.map nV
def RowsAt (H : Hp) : List Addr → List (List (Option Nat)) → Prop := Paired fun a r => H a = some (.tup (oVs r))
theorem RowsAt.tk {H H' : Hp} {as : List Addr} {l : List (List (Option Nat))} (h : RowsAt H as l) (t : TK H H') : RowsAt H' as l := L2.Paired.mapP h fun _ _ e => t _ _ e
/-- the attributes of a Machine -/
def mf (al : List Nat) (start : Nat) (ea sa : Addr) : List (Str × V) := [("alphabet", .str (alS al)), ("start", .int (start : Nat)), ("ends", .ref ea), ("steps", .ref sa)]
theorem mf_alphabet {al : List Nat} {st : Nat} {ea sa : Addr} : (mf al st ea sa).lookup ("alphabet" : Str) = some (.str (alS al)) := lk_hit
theorem mf_start {al : List Nat} {st : Nat} {ea sa : Addr} : (mf al st ea sa).lookup ("start" : Str) = some (.int (st : Nat)) := by
  unfold mf
  rw [lk_skip (by decide +kernel), lk_hit]
theorem mf_ends {al : List Nat} {st : Nat} {ea sa : Addr} : (mf al st ea sa).lookup ("ends" : Str) = some (.ref ea) := by
  unfold mf
  rw [lk_skip (by decide +kernel), lk_skip (by decide +kernel), lk_hit]
theorem mf_steps {al : List Nat} {st : Nat} {ea sa : Addr} : (mf al st ea sa).lookup ("steps" : Str) = some (.ref sa) := by
  unfold mf
  rw [lk_skip (by decide +kernel), lk_skip (by decide +kernel), lk_skip (by decide +kernel), lk_hit]
theorem mf_no {al : List Nat} {st : Nat} {ea sa : Addr} {m : Str} (h : (([("alphabet" : Str), "start", "ends", "steps"] : List Str).all fun g => !(m == g)) = true) : (mf al st ea sa).lookup m = none := by
  simp only [List.all_cons, List.all_nil, Bool.and_true, Bool.and_eq_true, Bool.not_eq_true'] at h
  obtain ⟨h1, h2, h3, h4⟩ := h
  unfold mf
  rw [lk_skip h1, lk_skip h2, lk_skip h3, lk_skip h4]
  rfl
section
variable {P : Program} {w : World} {K : PySem.W.Frag} {mg : Str → Option Value} {base : Heap}
structure MAt (K : PySem.W.Frag) (H : Hp) (q : Addr) (M : MD) (dx ea sa : Addr) (es : List Nat) (rs : List Addr) : Prop where
  ob : H q = some (.ins (CM K) dx (mf M.al M.start ea sa))
  ends : H ea = some (.tup (nIs es))
  perm : es.Perm M.ends
  steps : H sa = some (.tup (rs.map V.ref))
  rows : RowsAt H rs M.steps
def MIs (K : PySem.W.Frag) (H : Hp) (q : Addr) (M : MD) : Prop := ∃ dx ea sa es rs, MAt K H q M dx ea sa es rs
theorem MAt.tk {H H' : Hp} {q : Addr} {M : MD} {dx ea sa : Addr} {es : List Nat} {rs : List Addr} (h : MAt K H q M dx ea sa es rs) (s : Same H H') : MAt K H' q M dx ea sa es rs :=
  ⟨s _ _ h.ob, s _ _ h.ends, h.perm, s _ _ h.steps, h.rows.tk (.of s)⟩
theorem MIs.same {H H' : Hp} {q : Addr} {M : MD} (h : MIs K H q M) (s : Same H H') : MIs K H' q M := by
  obtain ⟨dx, ea, sa, es, rs, h⟩ := h
  exact ⟨dx, ea, sa, es, rs, h.tk s⟩
def spAfter (K : PySem.W.Frag) : Sp := fun vs H Q _ => ∃ q M o W, vs = [.ref q, nV o, .str (tx M.al W)] ∧ MIs K H q M ∧ M.Ok ∧ M.In o ∧ (∀ x ∈ W, x < M.al.length) ∧ W.length ≤ 100000 ∧ ∀ H', Same H H' → Q (nV (M.run o W)) H'
theorem ok_Machine_after (T : Txt K mg) : MetOk P w K mg base 1 (CM K) "after" ["self", "state", "text"] (spAfter K) := by
  refine mk_Machine_after T (fun vs H Q E h => ?_) (fun f cdv A outer s H vs Q E hr h => ?_)
  · obtain ⟨q, M, o, W, rfl, _⟩ := h
    rfl
  · obtain ⟨q, M, o, W, rfl, hM, ok, ho, hW, hl, fin⟩ := h
    refine ⟨_, (pss_cons (ps_for PassesOwn.never rfl (pi_enumx T.b_enumerate (pa_cons (pv 2) pa_nil)) (ptupK (K := K) (n := 2) rfl (pgs_cons (pg_n 3 sc_Machine_after.nd) (pgs_cons (pg_n 4 sc_Machine_after.nd) pgs_nil)))
        (pss_one (ps_if (pt_cmpR op_notIn_sign (pv 4) (fldK (K := K) (pv 0)) rfl) (pss_one ps_never) pss_nil)))
      (pss_cons (ps_for PassesOwn.never rfl (pi_str (pv 2)) (pg_n 4 sc_Machine_after.nd)
        (pss_cons (ps_if (pt_cmpR op_isN (pv 1) pe_non (nomark _)) (pss_one (ps_ret pe_non)) pss_nil)
        (pss_one (ps_st 1 sc_Machine_after.nd (pe_ix (ix_tupK (K := K)) (pe_ix (ix_tupK (K := K)) (fldK (K := K) (pv 0)) (pv 1) (fun _ _ => rfl)) (bmK (K := K) PySem.F.plainAttrs_str PySem.F.slot_str_index PySem.F.type_str_index mt_sindex (fldK (K := K) (pv 0)) (pa_cons (pv 4) pa_nil)) (fun _ _ => rfl))))))
      (pss_one (ps_ret (pv 1))))), ?_⟩
    refine ⟨_, rfl, _, rfl, for_enx (fun i σ' H' => ∃ y3 y4, σ' = [some (.ref q), some (nV o), some (.str (tx M.al W)), y3, y4] ∧ Same H H') ⟨none, none, rfl, Same.refl _⟩ ?_ ?_⟩
    · rintro i c σ' H' t hc ⟨y3, y4, rfl, sm⟩ ht
      rw [tx_get] at hc
      obtain ⟨x, hx, hcx⟩ := Option.map_eq_some_iff.mp hc
      have hac : M.al[x]? = some c := by rw [← hcx]; exact getD_at (hW x (List.mem_of_getElem? hx))
      have sm3 := sm.trans (Same.new (o := .tup [.int (i : Nat), .str ⟨#[c]⟩]) ht)
      obtain ⟨dx, ea, sa, es, rs, hA⟩ := hM.same sm3
      refine ⟨t, _, rfl, SqT.of upd_same, rfl, _, _, rfl, _, _, rfl, rfl, ?_⟩
      refine ⟨_, rfl, _, rfl, q, _, dx, _, _, rfl, hA.ob, T.cls_M, T.no_M_alphabet, mf_alphabet, c, _, rfl, rfl, _, rfl, iteNS ?_ ?_⟩
      · show c ∈ M.al.toArray.toList
        exact List.mem_of_getElem? (by simpa using hac)
      · exact ⟨_, _, rfl, sm3⟩
    · rintro σ' H' ⟨y3, y4, rfl, sm⟩
      refine ⟨_, rfl, _, rfl, for_str (fun i σ' H' => ∃ y3 y4, σ' = [some (.ref q), some (nV (M.run o (W.take i))), some (.str (tx M.al W)), y3, y4] ∧ Same H H') ⟨_, _, rfl, sm⟩ ?_ ?_⟩
      · rintro i c σ' H' hc ⟨y3, y4, rfl, sm⟩
        rw [tx_get] at hc
        obtain ⟨x, hx, hcx⟩ := Option.map_eq_some_iff.mp hc
        have hxb := hW x (List.mem_of_getElem? hx)
        have hac : M.al[x]? = some c := by rw [← hcx]; exact getD_at hxb
        obtain ⟨dx, ea, sa, es, rs, hA⟩ := hM.same sm
        have hin := MD.run_in ok (W.take i) o ho
        have hstep : M.run o (W.take (i + 1)) = (M.run o (W.take i)).bind fun s => M.step s x := by
          rw [List.take_add_one, hx, MD.run_app]
          rfl
        cases hr : M.run o (W.take i) with
        | none =>
          refine ⟨_, rfl, rfl, _, rfl, iteT ?_⟩
          have e : M.run o W = none := by
            rw [← List.take_append_drop i W, MD.run_app, hr, MD.run_none]
          have := fin _ sm
          rw [e] at this
          exact this
        | some s =>
          rw [hr] at hstep
          have hs := hin s hr
          refine ⟨_, rfl, rfl, _, rfl, iteF ?_⟩
          obtain ⟨a, ha, har⟩ := paired_get hA.rows (List.getElem?_eq_getElem hs)
          have hxr : x < (M.steps[s]).length := by rw [ok.rows _ (List.getElem_mem hs)]; exact hxb
          obtain ⟨rest, ho⟩ := occ_letter (ok.asc.imp fun h => Nat.ne_of_lt h) hac
          refine ⟨_, rfl, q, _, dx, _, _, rfl, hA.ob, T.cls_M, T.no_M_steps, mf_steps, _, rfl, sa, _, _, _, rfl, rfl, SqT.of hA.steps, atI_nat (j := s) (v := .ref a) (by rw [List.getElem?_map, ha]; rfl), ?_⟩
          refine ⟨_, rfl, q, _, dx, _, _, rfl, hA.ob, T.cls_M, T.no_M_alphabet, mf_alphabet, rfl, _, rfl, _, _, x, rest, rfl, rfl, ho, ?_⟩
          refine ⟨a, _, _, nV (M.steps[s][x]), rfl, rfl, SqT.of har, atI_nat (by rw [List.getElem?_map, List.getElem?_eq_getElem hxr]; rfl), ?_⟩
          have e : M.step s x = M.steps[s][x] := by
            unfold MD.step
            rw [List.getD_eq_getElem?_getD, List.getD_eq_getElem?_getD, List.getElem?_eq_getElem hs]
            simp only [Option.getD_some]
            rw [List.getElem?_eq_getElem hxr]
            rfl
          have e2 : M.run o (W.take (i + 1)) = M.steps[s][x] := hstep.trans e
          exact ⟨y3, some (.str ⟨#[c]⟩), by rw [e2]; rfl, sm⟩
      · rintro σ' H' ⟨y3, y4, rfl, sm⟩
        rw [tx_size, List.take_length]
        exact ⟨_, rfl, fin _ sm⟩
theorem perm_ints {ys : List Int} {es : List Nat} (h : ys.Perm (es.map fun n => ((n : Nat) : Int))) : ∃ zs : List Nat, zs.Perm es ∧ ys.map V.int = nIs zs := by
  refine ⟨ys.map Int.toNat, ?_, ?_⟩
  · have h2 := h.map Int.toNat
    rw [List.map_map] at h2
    have e : es.map (Int.toNat ∘ fun n => ((n : Nat) : Int)) = es := by
      rw [show (Int.toNat ∘ fun n : Nat => ((n : Nat) : Int)) = id from by funext n; simp]
      exact List.map_id _
    rw [e] at h2
    exact h2
  · rw [show nIs (List.map Int.toNat ys) = ys.map (nI ∘ Int.toNat) from List.map_map]
    refine List.map_congr_left fun y hy => ?_
    obtain ⟨n, _, rfl⟩ := List.mem_map.mp (h.mem_iff.mp hy)
    show V.int (n : Int) = nI ((n : Int).toNat)
    rw [Int.toNat_natCast]
    rfl
theorem nIs_ints (es : List Nat) : (es.map fun n => ((n : Nat) : Int)).map V.int = nIs es := by
  rw [List.map_map]
  rfl
def m1 (al : List Nat) : List (Str × V) := [("alphabet", .str (alS al))]
def m2 (al : List Nat) (st : Nat) : List (Str × V) := [("alphabet", .str (alS al)), ("start", .int (st : Nat))]
def m3 (al : List Nat) (st : Nat) (ea : Addr) : List (Str × V) := [("alphabet", .str (alS al)), ("start", .int (st : Nat)), ("ends", .ref ea)]
theorem mp1 {al : List Nat} : putF ("alphabet" : Str) (.str (alS al)) ([] : List (Str × V)) = m1 al := rfl
theorem mp2 {al : List Nat} {st : Nat} : putF ("start" : Str) (.int (st : Nat)) (m1 al) = m2 al st := by
  unfold m1
  rw [putF_skip (by decide +kernel)]
  rfl
theorem mp3 {al : List Nat} {st : Nat} {ea : Addr} : putF ("ends" : Str) (.ref ea) (m2 al st) = m3 al st ea := by
  unfold m2
  rw [putF_skip (by decide +kernel), putF_skip (by decide +kernel)]
  rfl
theorem mp4 {al : List Nat} {st : Nat} {ea sa : Addr} : putF ("steps" : Str) (.ref sa) (m3 al st ea) = mf al st ea sa := by
  unfold m3
  rw [putF_skip (by decide +kernel), putF_skip (by decide +kernel), putF_skip (by decide +kernel)]
  rfl
def spMachine (K : PySem.W.Frag) : Sp := fun vs H Q _ => ∃ q dx M ea sa rs, vs = [.ref q, .str (alS M.al), .int (M.start : Nat), .ref ea, .ref sa] ∧ H q = some (.ins (CM K) dx []) ∧ M.Ok ∧ H ea = some (.tup (nIs M.ends)) ∧ H sa = some (.tup (rs.map V.ref)) ∧ RowsAt H rs M.steps ∧
  ∀ H', Same (wo q H) H' → MIs K H' q M → Q .non H'
theorem ok_Machine (T : Txt K mg) : NewOk P w K mg base 1 (CM K) "Machine" ["self", "alphabet", "start", "ends", "steps"] (spMachine K) := by
  refine mk_Machine_init T (fun vs H Q E h => ?_) (fun f cdv A outer s H vs Q E hr h => ?_)
  · obtain ⟨q, dx, M, ea, sa, rs, rfl, _⟩ := h
    rfl
  · obtain ⟨q, dx, M, ea, sa, rs, rfl, hq, ok, hea, hsa, hrs, fin⟩ := h
    refine ⟨_, (pss_cons (pfldK (K := K) (pv 0) (pv 1))
      (pss_cons (pfldK (K := K) (pv 0) (pv 2))
      (pss_cons (pfldK (K := K) (pv 0) (pe_callTy (tupK (K := K)) rfl T.b_tuple (by decide +kernel) (pa_cons (pe_callB cr_sortedTup rfl T.b_sorted (by decide +kernel) (pa_cons (pv 3) pa_nil)) pa_nil)))
      (pss_one (pfldK (K := K) (pv 0) (pe_callTy (tupK (K := K)) rfl T.b_tuple (by decide +kernel) (pa_cons (pe_lc (own := [("row", 5)]) (g := (gName 5)) (tt := tYes) rfl sc_Machine_init.nd (pi_tup (pv 4)) (blkOk_by (N := N_Machine_init) (sc := defScope s_Machine_init) (by decide +kernel)) (fun _ _ _ _ _ => (pg_n 5 sc_Machine_init.nd)) (fun _ _ _ _ _ => pts_nil) (fun _ _ _ _ _ => (pe_callTy (tupK (K := K)) rfl T.b_tuple (by decide +kernel) (pa_cons (pv 5) pa_nil)))) pa_nil))))))), ?_⟩
    have nq : wo q H q = none := wo_at
    have hea' := wo_some hea (ne_of hea hq fun z => nomatch z)
    have hsa' := wo_some hsa (ne_of hsa hq fun z => nomatch z)
    have hrs' : RowsAt (wo q H) rs M.steps := L2.Paired.mapP hrs fun a c e => wo_some e (ne_of e hq fun z => nomatch z)
    refine ⟨_, rfl, _, rfl, q, _, dx, _, rfl, hq, T.cls_M, T.no_M_alphabet, (by show 0 < 1000; decide), ?_⟩
    rw [mp1]
    have s1 := Same.own (o := .ins (CM K) dx (m1 M.al)) wo_le nq
    have q1 : (upd H q (.ins (CM K) dx (m1 M.al))) q = _ := upd_same
    generalize (upd H q (.ins (CM K) dx (m1 M.al))) = H1 at s1 q1
    refine ⟨_, rfl, _, rfl, q, _, dx, _, rfl, q1, T.cls_M, T.no_M_start, (by show 1 < 1000; decide), ?_⟩
    rw [mp2]
    have s2 := Same.own (o := .ins (CM K) dx (m2 M.al M.start)) s1 nq
    have q2 : (upd H1 q (.ins (CM K) dx (m2 M.al M.start))) q = _ := upd_same
    generalize (upd H1 q (.ins (CM K) dx (m2 M.al M.start))) = H2 at s2 q2
    -- self.ends = tuple(sorted(ends))
    refine ⟨_, rfl, ea, M.ends.map fun n => ((n : Nat) : Int), rfl, by rw [nIs_ints]; exact SqT.of (s2 _ _ hea'), by rw [List.length_map]; have := ok.e12; omega, fun ys l hp _ hl => ?_⟩
    obtain ⟨es, hperm, hys⟩ := perm_ints hp
    rw [hys]
    have s3 := s2.trans (Same.new (o := .lst (nIs es)) hl)
    have q3 := (Same.new (o := .lst (nIs es)) hl) _ _ q2
    have l3 : (upd H2 l (.lst (nIs es))) l = _ := upd_same
    generalize (upd H2 l (.lst (nIs es))) = H3 at s3 q3 l3
    refine ⟨l, _, rfl, .inl ⟨SqL.of l3, fun ea2 hea2 => ⟨_, rfl, q, _, dx, _, rfl, (Same.new hea2) _ _ q3, T.cls_M, T.no_M_ends, (by show 2 < 1000; decide), ?_⟩⟩⟩
    rw [mp3]
    have s4 := Same.own (o := .ins (CM K) dx (m3 M.al M.start ea2)) (s3.trans (Same.new (o := .tup (nIs es)) hea2)) nq
    have q4 : (upd (upd H3 ea2 (.tup (nIs es))) q (.ins (CM K) dx (m3 M.al M.start ea2))) q = _ := upd_same
    have e4 : (upd (upd H3 ea2 (.tup (nIs es))) q (.ins (CM K) dx (m3 M.al M.start ea2))) ea2 = _ := (upd_ne (ne_of_none q3 hea2).symm).trans upd_same
    generalize (upd (upd H3 ea2 (.tup (nIs es))) q (.ins (CM K) dx (m3 M.al M.start ea2))) = H4 at s4 q4 e4
    -- self.steps
    have hrl : rs.length = M.steps.length := Paired.length hrs
    refine ⟨_, rfl, sa, rfl, ⟨_, SqT.of (s4 _ _ hsa')⟩, fun D hD => lc_tup (K := K) (xs := rs.map V.ref) (fun i H' => Same H4 H' ∧ H' D = some (.lst ((rs.take i).map V.ref))) ⟨Same.new hD, upd_same⟩ (fun i H' _ h => SqT.of (h.1 _ _ (s4 _ _ hsa'))) ?_ ?_⟩
    · rintro i x H' hx ⟨sm, hDl⟩
      rw [List.getElem?_map] at hx
      obtain ⟨a, ha, rfl⟩ := Option.map_eq_some_iff.mp hx
      obtain ⟨r, hr2, har⟩ := paired_get' hrs' ha
      refine ⟨rfl, yes (iteT ?_)⟩
      refine ⟨_, rfl, a, _, rfl, .inr ⟨SqT.of (sm _ _ (s4 _ _ har)), _, hDl, by rw [List.length_map, List.length_take]; exact small_lt (by have := ok.n12; omega), Same.own sm hD, ?_⟩⟩
      rw [upd_same, List.take_add_one, ha, List.map_append]
      rfl
    · rintro H' ⟨sm, hDl⟩
      rw [List.length_map, List.take_length] at hDl
      refine ⟨D, _, rfl, .inl ⟨SqL.of hDl, fun sa2 hsa2 => ⟨_, rfl, q, _, dx, _, rfl, (Same.new hsa2) _ _ (sm _ _ q4), T.cls_M, T.no_M_steps, (by show 3 < 1000; decide), ?_⟩⟩⟩
      rw [mp4]
      have q5 := sm _ _ q4
      have s5 := Same.own (o := .ins (CM K) dx (mf M.al M.start ea2 sa2)) ((s4.trans sm).trans (Same.new (o := .tup (rs.map V.ref)) hsa2)) nq
      refine fin _ s5 ⟨dx, ea2, sa2, es, rs, upd_same, ?_, hperm, (upd_ne (ne_of_none q5 hsa2).symm).trans upd_same, L2.Paired.mapP hrs' fun a c e => s5 _ _ e⟩
      have z := (Same.new (o := .tup (rs.map V.ref)) hsa2) _ _ (sm _ _ e4)
      rw [upd_ne (ne_of z ((Same.new (o := .tup (rs.map V.ref)) hsa2) _ _ q5) fun z => nomatch z)]
      exact z
end
end J

set_option Elab.async false
set_option linter.all false
/-! Standings: what stands behind them, which of them lead to an end. Plain. -/
namespace J
/-- a standing: the last piece, if any, and the state -/
abbrev Stn := Option Nat × Nat
/-- l may stand ahead of p -/
noncomputable def foB (J : JD) (l : Option Nat) (p : Nat) : Bool := match l with
  | none => true
  | some l => sideB J.al.length J.ps l p
noncomputable def nxt (J : JD) (M : MD) (x : Stn) (p : Nat) : Option (Nat × Nat) := if foB J x.1 p = true then (M.run (some x.2) (ex J.al.length J.ps p)).map fun t => (p, t) else none
/-- the steps of a standing: pieces and the states behind them -/
noncomputable def nexts (J : JD) (M : MD) (x : Stn) : List (Nat × Nat) := (List.range J.n).filterMap (nxt J M x)
def tgt (e : Nat × Nat) : Stn := (some e.1, e.2)
/-- a standing of this list and this machine -/
def Vd (J : JD) (M : MD) (x : Stn) : Prop := (∀ l, x.1 = some l → l < J.n) ∧ x.2 < M.steps.length
theorem nxt_some {J : JD} {M : MD} {x : Stn} {p : Nat} {e : Nat × Nat} (h : nxt J M x p = some e) : e.1 = p ∧ foB J x.1 p = true ∧ M.run (some x.2) (ex J.al.length J.ps p) = some e.2 := by
  unfold nxt at h
  by_cases hf : foB J x.1 p = true
  · rw [if_pos hf] at h
    obtain ⟨t, ht, rfl⟩ := Option.map_eq_some_iff.mp h
    exact ⟨rfl, hf, ht⟩
  · rw [if_neg hf] at h
    cases h
theorem nexts_mem {J : JD} {M : MD} {x : Stn} {e : Nat × Nat} : e ∈ nexts J M x ↔ e.1 < J.n ∧ foB J x.1 e.1 = true ∧ M.run (some x.2) (ex J.al.length J.ps e.1) = some e.2 := by
  unfold nexts
  rw [List.mem_filterMap]
  constructor
  · rintro ⟨p, hp, h⟩
    obtain ⟨h1, h2, h3⟩ := nxt_some h
    rw [h1]
    exact ⟨List.mem_range.mp hp, h2, h3⟩
  · rintro ⟨h1, h2, h3⟩
    refine ⟨e.1, List.mem_range.mpr h1, ?_⟩
    unfold nxt
    rw [if_pos h2, h3]
    rfl
theorem nexts_vd {J : JD} {M : MD} (ok : M.Ok) {x : Stn} {e : Nat × Nat} (hx : Vd J M x) (h : e ∈ nexts J M x) : Vd J M (tgt e) := by
  obtain ⟨h1, _, h3⟩ := nexts_mem.mp h
  refine ⟨fun l hl => ?_, ?_⟩
  · cases hl
    exact h1
  · exact MD.run_in ok _ (some x.2) (fun s hs => by cases hs; exact hx.2) _ h3
theorem nexts_len (J : JD) (M : MD) (x : Stn) : (nexts J M x).length ≤ J.n := by
  unfold nexts
  have := List.length_filterMap_le (nxt J M x) (List.range J.n)
  rw [List.length_range] at this
  exact this
/-- an end can be come to -/
inductive Live (J : JD) (M : MD) : Stn → Prop
  | fin {x : Stn} : x.2 ∈ M.ends → Live J M x
  | step {x : Stn} {e : Nat × Nat} : e ∈ nexts J M x → Live J M (tgt e) → Live J M x
theorem Live.inv {J : JD} {M : MD} {x : Stn} (h : Live J M x) : x.2 ∈ M.ends ∨ ∃ e, e ∈ nexts J M x ∧ Live J M (tgt e) := by
  cases h with
  | fin h => exact .inl h
  | step h1 h2 => exact .inr ⟨_, h1, h2⟩
noncomputable def liveB (J : JD) (M : MD) (x : Stn) : Bool := @decide (Live J M x) (Classical.propDecidable _)
theorem liveB_iff {J : JD} {M : MD} {x : Stn} : liveB J M x = true ↔ Live J M x := by
  unfold liveB
  exact @decide_eq_true_iff _ (Classical.propDecidable _)
/-- a set closed under preds that holds the ends of R holds all of R that is live -/
theorem live_in {J : JD} {M : MD} {R F : List Stn} (hc : ∀ x ∈ R, ∀ e ∈ nexts J M x, tgt e ∈ R) (he : ∀ x ∈ R, x.2 ∈ M.ends → x ∈ F) (hb : ∀ x ∈ R, ∀ e ∈ nexts J M x, tgt e ∈ F → x ∈ F) : ∀ {x : Stn}, Live J M x → x ∈ R → x ∈ F := by
  intro x h
  induction h with
  | fin h => exact fun hx => he _ hx h
  | step h1 h2 ih => exact fun hx => hb _ hx _ h1 (ih (hc _ hx _ h1))
/-- a closed set without ends has nothing live -/
theorem not_live {J : JD} {M : MD} {R : List Stn} (hc : ∀ x ∈ R, ∀ e ∈ nexts J M x, tgt e ∈ R) (he : ∀ x ∈ R, ¬ x.2 ∈ M.ends) : ∀ {x : Stn}, Live J M x → ¬ x ∈ R := by
  intro x h
  induction h with
  | fin h => exact fun hx => he _ hx h
  | step h1 h2 ih => exact fun hx => ih (hc _ hx _ h1)
/-! ### ways -/
/-- the way es goes from x; its standings -/
def Way (J : JD) (M : MD) : Stn → List (Nat × Nat) → Prop
  | _, [] => True
  | x, e :: es => e ∈ nexts J M x ∧ Way J M (tgt e) es
def wend : Stn → List (Nat × Nat) → Stn
  | x, [] => x
  | _, e :: es => wend (tgt e) es
theorem way_snoc {J : JD} {M : MD} : ∀ {es : List (Nat × Nat)} {x : Stn} {e : Nat × Nat}, Way J M x es → e ∈ nexts J M (wend x es) → Way J M x (es ++ [e])
  | [], _, _, _, h => ⟨h, trivial⟩
  | d :: es, x, e, h, h2 => ⟨h.1, way_snoc (es := es) h.2 h2⟩
theorem wend_snoc : ∀ (es : List (Nat × Nat)) (x : Stn) (e : Nat × Nat), wend x (es ++ [e]) = tgt e
  | [], _, _ => rfl
  | d :: es, _, e => wend_snoc es (tgt d) e
theorem way_live {J : JD} {M : MD} : ∀ {es : List (Nat × Nat)} {x : Stn}, Way J M x es → (wend x es).2 ∈ M.ends → Live J M x ∧ ∀ e ∈ es, Live J M (tgt e)
  | [], x, _, h => ⟨.fin h, fun e he => nomatch he⟩
  | d :: es, x, h, h2 => by
    obtain ⟨h3, h4⟩ := way_live (es := es) h.2 h2
    refine ⟨.step h.1 h3, fun e he => ?_⟩
    rcases List.mem_cons.mp he with rfl | he
    · exact h3
    · exact h4 e he
theorem way_run {J : JD} {M : MD} : ∀ {es : List (Nat × Nat)} {x : Stn}, Way J M x es → M.run (some x.2) (flat J.al.length J.ps (es.map (·.1))) = some (wend x es).2
  | [], x, _ => rfl
  | d :: es, x, h => by
    obtain ⟨_, _, h3⟩ := nexts_mem.mp h.1
    show M.run _ (ex J.al.length J.ps d.1 ++ flat J.al.length J.ps (es.map (·.1))) = _
    rw [MD.run_app, h3]
    exact way_run (es := es) h.2
theorem way_in {J : JD} {M : MD} : ∀ {es : List (Nat × Nat)} {x : Stn}, Way J M x es → ∀ p ∈ es.map (·.1), p < J.n
  | [], _, _, p, h => nomatch h
  | d :: es, x, h, p, hp => by
    rcases List.mem_cons.mp hp with rfl | hp
    · exact (nexts_mem.mp h.1).1
    · exact way_in (es := es) h.2 p hp
theorem way_chain {J : JD} {M : MD} : ∀ {es : List (Nat × Nat)} {p s : Nat}, Way J M (some p, s) es → Chain J.al.length J.ps (p :: es.map (·.1))
  | [], _, _, _ => trivial
  | d :: es, p, s, h => ⟨sideB_iff.mp (nexts_mem.mp h.1).2.1, way_chain (es := es) (p := d.1) (s := d.2) h.2⟩
theorem chain_app {b : Nat} {ps : List (Nat × Nat)} : ∀ {R S : List Nat} {p : Nat}, Chain b ps (R ++ [p]) → Chain b ps (p :: S) → Chain b ps (R ++ p :: S)
  | [], S, p, _, h => h
  | [a], S, p, h, h2 => ⟨h.1, h2⟩
  | a :: c :: R, S, p, h, h2 => ⟨h.1, chain_app (R := c :: R) h.2 h2⟩
/-! ### how many standings there are -/
theorem nodup_len {α : Type} [DecidableEq α] : ∀ {l m : List α}, l.Nodup → (∀ x ∈ l, x ∈ m) → l.length ≤ m.length
  | [], m, _, _ => Nat.zero_le _
  | x :: l, m, hn, hs => by
    have h1 := List.nodup_cons.mp hn
    have hx := hs x (List.mem_cons_self ..)
    have h2 := nodup_len (l := l) (m := m.erase x) h1.2 fun y hy => by
      have hne : y ≠ x := fun z => h1.1 (z ▸ hy)
      exact (List.mem_erase_of_ne hne).mpr (hs y (List.mem_cons_of_mem _ hy))
    rw [List.length_erase_of_mem hx] at h2
    have := List.length_pos_of_mem hx
    rw [List.length_cons]
    omega
def univ (J : JD) (M : MD) : List Stn := (none :: (List.range J.n).map some).flatMap fun l => (List.range M.steps.length).map fun s => (l, s)
theorem univ_mem {J : JD} {M : MD} {x : Stn} (h : Vd J M x) : x ∈ univ J M := by
  unfold univ
  rw [List.mem_flatMap]
  refine ⟨x.1, ?_, List.mem_map.mpr ⟨x.2, List.mem_range.mpr h.2, rfl⟩⟩
  cases e : x.1 with
  | none => exact List.mem_cons_self ..
  | some l => exact List.mem_cons_of_mem _ (List.mem_map.mpr ⟨l, List.mem_range.mpr (h.1 l e), rfl⟩)
theorem univ_len (J : JD) (M : MD) : (univ J M).length = (J.n + 1) * M.steps.length := by
  unfold univ
  have : ∀ L : List (Option Nat), (L.flatMap fun l => (List.range M.steps.length).map fun s => (l, s)).length = L.length * M.steps.length := by
    intro L
    induction L with
    | nil => simp
    | cons a L ih =>
      rw [List.flatMap_cons, List.length_append, ih, List.length_map, List.length_range, List.length_cons, Nat.add_mul]
      omega
  rw [this, List.length_cons, List.length_map, List.length_range]
theorem univ_le {J : JD} {M : MD} (okJ : J.Ok) (okM : M.Ok) : (univ J M).length ≤ 1092 := by
  rw [univ_len]
  have h1 := okJ.b30
  have h2 := okJ.p60
  have h3 := okM.n12
  have h4 : J.n + 1 ≤ 91 := by show J.al.length + J.ps.length + 1 ≤ 91; omega
  exact Nat.mul_le_mul h4 h3
theorem stn_le {J : JD} {M : MD} {l : List Stn} (hn : l.Nodup) (hv : ∀ x ∈ l, Vd J M x) : l.length ≤ (univ J M).length := nodup_len hn fun x hx => univ_mem (hv x hx)
end J

set_option Elab.async false
set_option linter.all false
set_option maxRecDepth 100000
set_option maxHeartbeats 4000000
/-! Walks: the standings and their steps. -/
namespace J
open PySem PySem.Spec PyProof.Rows L2
/-! ### dicts keyed by standings -/
def stK (x : Stn) : PKey := (x.1.map fun n => ((n : Nat) : Int), some (x.2 : Int))
theorem stK_inj {x y : Stn} (h : stK x = stK y) : x = y := by
  obtain ⟨a, s⟩ := x
  obtain ⟨b, t⟩ := y
  have h1 : (a.map fun n => ((n : Nat) : Int)) = b.map fun n => ((n : Nat) : Int) := congrArg Prod.fst h
  have h2 : some (s : Int) = some (t : Int) := congrArg Prod.snd h
  have e2 : s = t := by
    have := Option.some.inj h2
    omega
  subst e2
  cases a with
  | none =>
    cases b with
    | none => rfl
    | some b => cases h1
  | some a =>
    cases b with
    | none => cases h1
    | some b =>
      have h3 := Option.some.inj h1
      have h4 : (a : Int) = (b : Int) := h3
      have : a = b := by omega
      rw [this]
theorem pkV_st (x : Stn) : pkV (stK x) = [nV x.1, nI x.2] := by
  obtain ⟨a, s⟩ := x
  cases a <;> rfl
/-- a standing stands at a -/
def StA (H : Hp) (a : Addr) (x : Stn) : Prop := H a = some (.tup [nV x.1, nI x.2])
theorem StA.key {H : Hp} {a : Addr} {x : Stn} (h : StA H a x) : H a = some (.tup (pkV (stK x))) := by rw [pkV_st]; exact h
def sd {α : Type} (g : α → V) (l : List (Stn × α)) : List (PKey × V) := l.map fun e => (stK e.1, g e.2)
def gt {α : Type} : List (Stn × α) → Stn → Option α
  | [], _ => none
  | e :: l, x => if e.1 = x then some e.2 else gt l x
theorem sd_val {α : Type} {g : α → V} : ∀ (l : List (Stn × α)) (x : Stn), valV (sd g l) (stK x) = (gt l x).map g
  | [], _ => rfl
  | e :: l, x => by
    unfold sd gt
    rw [List.map_cons]
    by_cases h : e.1 = x
    · rw [valV_pos (by rw [h]), if_pos h]
      rfl
    · rw [valV_neg fun z => h (stK_inj z), if_neg h]
      exact sd_val l x
theorem gt_none {α : Type} : ∀ {l : List (Stn × α)} {x : Stn}, gt l x = none ↔ x ∉ l.map (·.1)
  | [], x => by simp [gt]
  | e :: l, x => by
    unfold gt
    by_cases h : e.1 = x
    · rw [if_pos h]
      simp [h]
    · rw [if_neg h, gt_none (l := l)]
      simp [Ne.symm h]
theorem gt_mem {α : Type} : ∀ {l : List (Stn × α)} {x : Stn} {v : α}, gt l x = some v → (x, v) ∈ l
  | [], _, _, h => nomatch h
  | e :: l, x, v, h => by
    unfold gt at h
    by_cases h1 : e.1 = x
    · rw [if_pos h1] at h
      cases h
      rw [← h1]
      exact List.mem_cons_self ..
    · rw [if_neg h1] at h
      exact List.mem_cons_of_mem _ (gt_mem h)
theorem gt_some {α : Type} {l : List (Stn × α)} {x : Stn} (h : x ∈ l.map (·.1)) : ∃ v, gt l x = some v := by
  cases e : gt l x with
  | none => exact absurd h (gt_none.mp e)
  | some v => exact ⟨v, rfl⟩
theorem sd_put {α : Type} {g : α → V} {l : List (Stn × α)} {x : Stn} (v : α) (h : gt l x = none) : putK (sd g l) (stK x) (g v) = sd g (l ++ [(x, v)]) := by
  rw [putK_new _ (by rw [sd_val, h]; rfl)]
  unfold sd
  rw [List.map_append]
  rfl
theorem sd_len {α : Type} {g : α → V} {l : List (Stn × α)} : (sd g l).length = l.length := List.length_map ..
theorem sd_isSome {α : Type} {g : α → V} {l : List (Stn × α)} {x : Stn} : (valV (sd g l) (stK x)).isSome = decide (x ∈ l.map (·.1)) := by
  rw [sd_val]
  cases e : gt l x with
  | none =>
    have := gt_none.mp e
    simp [this]
  | some v =>
    have h := gt_mem e
    have h2 : x ∈ l.map (·.1) := List.mem_map.mpr ⟨_, h, rfl⟩
    simp [h2]
/-! ### steps -/
def StepsAt (H : Hp) : List Addr → List (Nat × Nat) → Prop := Paired fun a e => ∃ b, H a = some (.tup [nI e.1, .ref b]) ∧ StA H b (tgt e)
theorem StepsAt.tk {H H' : Hp} {as : List Addr} {l : List (Nat × Nat)} (h : StepsAt H as l) (t : TK H H') : StepsAt H' as l := L2.Paired.mapP h fun _ _ ⟨b, e1, e2⟩ => ⟨b, t _ _ e1, t _ _ e2⟩
def StepsV (H : Hp) (t : Addr) (l : List (Nat × Nat)) : Prop := ∃ as, H t = some (.tup (as.map V.ref)) ∧ StepsAt H as l
theorem StepsV.tk {H H' : Hp} {t : Addr} {l : List (Nat × Nat)} (h : StepsV H t l) (k : TK H H') : StepsV H' t l := by
  obtain ⟨as, e, s⟩ := h
  exact ⟨as, k _ _ e, s.tk k⟩
def sf (p q ka : Addr) : List (Str × V) := [("joins", .ref p), ("machine", .ref q), ("known", .ref ka)]
theorem sf_joins {p q ka : Addr} : (sf p q ka).lookup ("joins" : Str) = some (.ref p) := lk_hit
theorem sf_machine {p q ka : Addr} : (sf p q ka).lookup ("machine" : Str) = some (.ref q) := by
  unfold sf
  rw [lk_skip (by decide +kernel), lk_hit]
theorem sf_known {p q ka : Addr} : (sf p q ka).lookup ("known" : Str) = some (.ref ka) := by
  unfold sf
  rw [lk_skip (by decide +kernel), lk_skip (by decide +kernel), lk_hit]
theorem sf_no {p q ka : Addr} {m : Str} (h : (([("joins" : Str), "machine", "known"] : List Str).all fun g => !(m == g)) = true) : (sf p q ka).lookup m = none := by
  simp only [List.all_cons, List.all_nil, Bool.and_true, Bool.and_eq_true, Bool.not_eq_true'] at h
  obtain ⟨h1, h2, h3⟩ := h
  unfold sf
  rw [lk_skip h1, lk_skip h2, lk_skip h3]
  rfl
section
variable {P : Program} {w : World} {K : PySem.W.Frag} {mg : Str → Option Value} {base : Heap}
/-- what the cache tells -/
structure KnOk (J : JD) (M : MD) (H : Hp) (KN : List (Stn × Addr)) : Prop where
  nd : (KN.map (·.1)).Nodup
  vd : ∀ x ∈ KN.map (·.1), Vd J M x
  st : ∀ e ∈ KN, StepsV H e.2 (nexts J M e.1)
/-- a Standings at d, its cache at ka; G: what stays -/
structure DAt (P : Program) (w : World) (K : PySem.W.Frag) (G H : Hp) (d ka : Addr) (J : JD) (M : MD) : Prop where
  ob : ∃ dx p q, G d = some (.ins (CD K) dx (sf p q ka)) ∧ JIs P w K G p J ∧ MIs K G q M
  free : G ka = none
  same : Same G H
  kn : ∃ KN, PD P w H ka (sd V.ref KN) ∧ KnOk J M H KN
theorem DAt.mv {G H H' : Hp} {d ka : Addr} {J : JD} {M : MD} (h : DAt P w K G H d ka J M) (s : Same G H') (e : H' ka = H ka) (t : TK H H') : DAt P w K G H' d ka J M := by
  obtain ⟨KN, h1, h2⟩ := h.kn
  exact ⟨h.ob, h.free, s, KN, h1.keep e t, h2.nd, h2.vd, fun e he => (h2.st e he).tk t⟩
/-- both are in order and of the same letters -/
structure JM (J : JD) (M : MD) : Prop where
  j : J.Ok
  m : M.Ok
  al : M.al = J.al
theorem wo_tk {t : Addr} {H H' : Hp} (s : Same (wo t H) H') (h : ∀ xs, H t ≠ some (.tup xs)) : TK H H' := fun b xs e => s _ _ (wo_some e fun z => h xs (z ▸ e))
def spSteps (P : Program) (w : World) (K : PySem.W.Frag) : Sp := fun vs H Q _ => ∃ G d ka J M a x, vs = [.ref d, .ref a] ∧ DAt P w K G H d ka J M ∧ JM J M ∧ StA H a x ∧ Vd J M x ∧ ∀ H' t, Same (wo ka H) H' → DAt P w K G H' d ka J M → StepsV H' t (nexts J M x) → Q (.ref t) H'
theorem ok_Standings_steps (T : Txt K mg) : MetOk P w K mg base 8 (CD K) "steps" ["self", "standing"] (spSteps P w K) := by
  have D_side_by_side := ok_side_by_side (P := P) (w := w) (base := base) T
  have M_Joins_pieces := ok_Joins_pieces (P := P) (w := w) (base := base) T
  have M_Joins_text_of := ok_Joins_text_of (P := P) (w := w) (base := base) T
  have M_Machine_after := ok_Machine_after (P := P) (w := w) (base := base) T
  refine mk_Standings_steps T (fun vs H Q E h => ?_) (fun f cdv A outer s H vs Q E hr h => ?_)
  · obtain ⟨G, d, ka, J, M, a, x, rfl, _⟩ := h
    rfl
  · obtain ⟨G, d, ka, J, M, a, x, rfl, hD, ok, ha, hx, fin⟩ := h
    refine ⟨_, (C8.pss_cut (ps_if (pt_cmp (pdnotinK (P := P) (w := w) (hu_of hr) (pv 1) (fldK (K := K) (pv 0)))) (pss_cons (ps_asg (pv 1) (ptupK (K := K) (n := 2) rfl (pgs_cons (pg_n 2 sc_Standings_steps.nd) (pgs_cons (pg_n 3 sc_Standings_steps.nd) pgs_nil))))
        (pss_cons (ps_st 4 sc_Standings_steps.nd (pe_lst pa_nil))
        (pss_cons (ps_for PassesOwn.never rfl (pi_range1 rfl T.b_range (pa_cons (pe_prp (fldK (K := K) (pv 0)) T.cls_J M_Joins_pieces hr) pa_nil)) (pg_n 5 sc_Standings_steps.nd)
          (pss_one (ps_if (PW.pt (pw_or (pt_cmpR op_isN (pv 2) pe_non (nomark _)) (pw_or1 (pt_val (pe_def D_side_by_side hr (pa_cons (fldK (K := K) (pv 0)) (pa_cons (pv 2) (pa_cons (pv 5) pa_nil)))))))) (pss_cons (ps_st 6 sc_Standings_steps.nd (pe_met (fldK (K := K) (pv 0)) T.cls_M M_Machine_after hr (pa_cons (pv 3) (pa_cons (pe_met (fldK (K := K) (pv 0)) T.cls_J M_Joins_text_of hr (pa_cons (pv 5) pa_nil)) pa_nil))))
            (pss_one (ps_if (pt_cmpR op_notN (pv 6) pe_non (nomark _)) (pss_one (ps_expr (bmK (K := K) PySem.F.plainAttrs_list PySem.F.slot_list_append PySem.F.type_list_append mt_append (pv 4) (pa_cons (pe_tup (pa_cons (pv 5) (pa_cons (pe_tup (pa_cons (pv 5) (pa_cons (pv 6) pa_nil))) pa_nil))) pa_nil)))) pss_nil))) pss_nil)))
        (pss_one (pdputK (P := P) (w := w) (hu_of hr) (fldK (K := K) (pv 0)) (pv 1) (pe_callTy (tupK (K := K)) rfl T.b_tuple (by decide +kernel) (pa_cons (pv 4) pa_nil))))))) pss_nil)
      (pss_one (ps_ret (pdgetK (P := P) (w := w) (hu_of hr) (fldK (K := K) (pv 0)) (pv 1))))), ?_⟩
    obtain ⟨⟨dx, p, q, hob, hJ, hM⟩, hfree, sG, KN, hPD, hKN⟩ := id hD
    have nkd : ∀ {b : Addr} {o : HO}, H b = some o → (∀ F, o ≠ .ext F) → b ≠ ka := fun {b o} e h => by
      obtain ⟨xs, e2, _⟩ := hPD
      exact ne_of e e2 (h _)
    refine ⟨fun σ' H' => ∃ y2 y3 y4 y5 y6, σ' = [some (.ref d), some (.ref a), y2, y3, y4, y5, y6] ∧ Same (wo ka H) H' ∧ DAt P w K G H' d ka J M ∧ ∃ KN t, PD P w H' ka (sd V.ref KN) ∧ gt KN x = some t ∧ StepsV H' t (nexts J M x), ?_, ?_⟩
    · refine ⟨_, rfl, _, rfl, d, _, dx, _, _, rfl, sG _ _ hob, T.cls_D, T.no_D_known, sf_known, ka, a, stK x, _, rfl, rfl, hPD, ha.key, _, rfl, ?_⟩
      rw [sd_isSome]
      by_cases hin : x ∈ KN.map (·.1)
      · rw [decide_eq_true hin]
        refine iteF ?_
        obtain ⟨t, ht⟩ := gt_some hin
        exact ⟨_, _, _, _, _, rfl, wo_le, hD, KN, t, hPD, ht, hKN.st _ (gt_mem ht)⟩
      · rw [decide_eq_false hin]
        refine iteT ?_
        refine ⟨_, rfl, a, _, rfl, SqT.of ha, rfl, _, _, rfl, _, _, rfl, rfl, ?_⟩
        refine ⟨Nat.zero_le _, fun l hl => ?_⟩
        have hJH := hJ.same sG
        have hn : J.al.length + J.ps.length ≤ 90 := by have := ok.j.b30; have := ok.j.p60; omega
        obtain ⟨jdx, jpa, jta, jra, jna, jlg, jprs, jkvs, hA⟩ := id hJ
        refine ⟨_, rfl, d, _, dx, _, _, rfl, (Same.new hl) _ _ (sG _ _ hob), T.cls_D, T.no_D_joins, sf_joins, ?_⟩
        have s1 : Same H (upd H l (.lst [])) := Same.new hl
        refine ⟨p, jdx, _, rfl, s1 _ _ (sG _ _ hA.ob), p, J, rfl, hJH.same s1, _, rfl, by omega, by omega, for_range (lo := 0) (fun i σ' H' => ∃ y5 y6 as, σ' = [some (.ref d), some (.ref a), some (nV x.1), some (nI x.2), some (.ref l), y5, y6] ∧ Same H H' ∧ H' l = some (.lst (as.map V.ref)) ∧ StepsAt H' as ((List.range i).filterMap (nxt J M x))) ⟨_, _, [], rfl, s1, upd_same, .nil⟩ ?_ ?_⟩
        · rintro i σ' H' hi ⟨y5, y6, as, rfl, sm, hL, hS⟩
          have hi' : i < J.al.length + J.ps.length := by omega
          have hJ' := hJH.same sm
          have hM' := (hM.same sG).same sm
          have hob' := sm _ _ (sG _ _ hob)
          have hrange : (List.range (i + 1)).filterMap (nxt J M x) = (List.range i).filterMap (nxt J M x) ++ (nxt J M x i).toList := by
            rw [List.range_succ, List.filterMap_append]
            congr 1
          have hlen : as.length ≤ i := by
            rw [Paired.length hS]
            have := List.length_filterMap_le (nxt J M x) (List.range i)
            rw [List.length_range] at this
            exact this
          -- the part behind the test
          have body : ∀ H2, Same H' H2 → foB J x.1 i = true → ∀ (N : L2.St → Hp → Prop), (∀ y6 H3 as', Same H H3 → H3 l = some (.lst (as'.map V.ref)) → StepsAt H3 as' ((List.range (i + 1)).filterMap (nxt J M x)) → N [some (.ref d), some (.ref a), some (nV x.1), some (nI x.2), some (.ref l), some (.int (i : Nat)), y6] H3) → ∀ D : Ends, D.nx = N →
              tSeq (tAsg (tMeth (CM K) "after" (spAfter K) [] E0 (tFld K (tVar 0) "machine") (tCons (tVar 3) (tCons (tMeth (CJ K) "text_of" (spTextOf P w K) [] E0 (tFld K (tVar 0) "joins") (tCons (tVar 5) tNil)) tNil))) (gName 6))
                (tIfS (tTest (tOp (fun x y H Q => y = V.non ∧ Q (V.bl !decide (x = V.non)) H) (tVar 6) (tC V.non)))
                  (tDrop (tBM K "list" rAppend (tVar 4) (tCons (tTup (tCons (tVar 5) (tCons (tTup (tCons (tVar 5) (tCons (tVar 6) tNil))) tNil))) tNil))) tNext)
                D [some (.ref d), some (.ref a), some (nV x.1), some (nI x.2), some (.ref l), some (.int (i : Nat)), y6] H2 := by
            intro H2 s2 hfo N hN D hDn
            have sm2 := sm.trans s2
            have hJ2 := hJ'.same s2
            obtain ⟨mdx, mea, msa, mes, mrs, hMA⟩ := hM'.same s2
            have hob2 := s2 _ _ hob'
            have hL2 := s2 _ _ hL
            obtain ⟨jdx2, _, _, _, _, _, _, _, hA2⟩ := id hJ2
            have hlt := ok.j.prop.letters i hi'
            have hsh := ok.j.short i hi'
            refine ⟨_, rfl, d, _, dx, _, _, rfl, hob2, T.cls_D, T.no_D_machine, sf_machine, q, mdx, _, rfl, hMA.ob, mf_no (by decide +kernel), _, rfl, _, rfl, d, _, dx, _, _, rfl, hob2, T.cls_D, T.no_D_joins, sf_joins, p, jdx2, _, rfl, hA2.ob, jf_no (by decide +kernel), _, rfl, p, J, i, rfl, hJ2, hi', ?_⟩
            refine ⟨q, M, some x.2, ex J.al.length J.ps i, by rw [ok.al]; rfl, hM'.same s2, ok.m, fun s hs => by cases hs; exact hx.2, by rw [ok.al]; exact hlt.2, by omega, fun H3 s3 => ?_⟩
            have sm3 := sm2.trans s3
            have hL3 := s3 _ _ hL2
            cases hrun : M.run (some x.2) (ex J.al.length J.ps i) with
            | none =>
              have hnx : nxt J M x i = none := by
                unfold nxt
                rw [if_pos hfo, hrun]
                rfl
              refine ⟨_, rfl, rfl, _, rfl, iteF ?_⟩
              show D.nx _ _
              rw [hDn]
              refine hN _ _ as sm3 hL3 ?_
              rw [hrange, hnx]
              show StepsAt H3 as (_ ++ [])
              rw [List.append_nil]
              exact hS.tk ((TK.of s2).trans (TK.of s3))
            | some t =>
              have hnx : nxt J M x i = some (i, t) := by
                unfold nxt
                rw [if_pos hfo, hrun]
                rfl
              refine ⟨_, rfl, rfl, _, rfl, iteT ?_⟩
              refine ⟨_, rfl, .inl ⟨rfl, _, SqL.of hL3⟩, _, rfl, _, rfl, _, rfl, two_ok, fun b hb => ⟨two_ok, fun c hc => ⟨l, as.map V.ref, _, rfl, rfl, ?_, by rw [List.length_map]; exact small_lt (by omega), ?_⟩⟩⟩
              · exact (Same.new hc) _ _ ((Same.new hb) _ _ hL3)
              · show D.nx _ _
                rw [hDn]
                have sb := Same.new (o := .tup [.int (i : Nat), nV (some t)]) hb
                have sc := Same.new (o := .tup [.int (i : Nat), .ref b]) hc
                have hL4 := sc _ _ (sb _ _ hL3)
                have tk : TK H3 (upd (upd (upd H3 b (.tup [.int (i : Nat), nV (some t)])) c (.tup [.int (i : Nat), .ref b])) l (.lst (as.map V.ref ++ [.ref c]))) := TK.own (TK.of (sb.trans sc)) hL4 fun xs z => nomatch z
                refine hN _ _ (as ++ [c]) (Same.own ((sm3.trans sb).trans sc) hl) (by rw [upd_same, List.map_append]; rfl) ?_
                rw [hrange, hnx]
                refine Paired.snoc (hS.tk (((TK.of s2).trans (TK.of s3)).trans tk)) ⟨b, ?_, ?_⟩
                · rw [upd_ne (ne_of upd_same hL4 fun z => nomatch z)]
                  exact upd_same
                · show _ = _
                  have e : (upd (upd H3 b (.tup [.int (i : Nat), nV (some t)])) c (.tup [.int (i : Nat), .ref b])) b = some (.tup [.int (i : Nat), nV (some t)]) := sc _ _ upd_same
                  rw [upd_ne (ne_of e hL4 fun z => nomatch z)]
                  exact e
          have hz : (0 + (i : Int)) = ((i : Nat) : Int) := by omega
          rw [hz]
          have skip : ∀ H2, Same H' H2 → foB J x.1 i = false → ∃ y5' y6' as', [some (V.ref d), some (.ref a), some (nV x.1), some (nI x.2), some (.ref l), some (.int (i : Nat)), y6] = [some (V.ref d), some (.ref a), some (nV x.1), some (nI x.2), some (.ref l), y5', y6'] ∧ Same H H2 ∧ H2 l = some (.lst (as'.map V.ref)) ∧ StepsAt H2 as' ((List.range (i + 1)).filterMap (nxt J M x)) := by
            intro H2 s2 hfo
            have hnx : nxt J M x i = none := by
              unfold nxt
              rw [if_neg (by rw [hfo]; decide)]
            refine ⟨_, _, as, rfl, sm.trans s2, s2 _ _ hL, ?_⟩
            rw [hrange, hnx]
            show StepsAt H2 as (_ ++ [])
            rw [List.append_nil]
            exact hS.tk (TK.of s2)
          cases hx1 : x.1 with
          | none =>
            rw [hx1] at body
            refine ⟨_, rfl, rfl, _, rfl, iteT (iteT ?_)⟩
            refine body H' (Same.refl _) rfl _ (fun y6 H3 as' h1 h2 h3 => ⟨_, y6, as', rfl, h1, h2, h3⟩) _ rfl
          | some l0 =>
            rw [hx1] at body skip
            have hl0 := hx.1 l0 hx1
            refine ⟨_, rfl, rfl, _, rfl, iteF ?_⟩
            refine ⟨_, rfl, d, _, dx, _, _, rfl, hob', T.cls_D, T.no_D_joins, sf_joins, _, rfl, _, rfl, p, J, l0, i, rfl, hJ', ok.j, hl0, hi', fun H2 s2 => ⟨_, rfl, ?_⟩⟩
            cases hsb : sideB J.al.length J.ps l0 i with
            | true =>
              refine iteT ?_
              exact body H2 s2 hsb _ (fun y6 H3 as' h1 h2 h3 => ⟨_, y6, as', rfl, h1, h2, h3⟩) _ rfl
            | false =>
              refine iteF ?_
              exact skip H2 s2 hsb
        · rintro σ' H' ⟨y5, y6, as, rfl, sm, hL, hS⟩
          rw [Int.toNat_natCast] at hS
          have hob' := sm _ _ (sG _ _ hob)
          refine ⟨_, rfl, l, _, rfl, .inl ⟨SqL.of hL, fun t ht => ?_⟩⟩
          have st := Same.new (o := .tup (as.map V.ref)) ht
          have sm2 := sm.trans st
          have hkl : (sd V.ref KN).length < sizeLine := by
            rw [sd_len]
            have h1 := stn_le hKN.nd hKN.vd
            have h2 := univ_le ok.j ok.m
            rw [List.length_map] at h1
            exact small_lt (by omega)
          refine ⟨_, rfl, d, _, dx, _, _, rfl, st _ _ hob', T.cls_D, T.no_D_known, sf_known, _, rfl, ka, a, stK x, _, rfl, rfl, hPD.same sm2, (show StA _ a x from sm2 _ _ ha).key, hkl, fun H4 d4 => ?_⟩
          rw [sd_put t (gt_none.mpr hin)] at d4
          have tk4 : TK (upd H' t (.tup (as.map V.ref))) H4 := PdPut.tk (hPD.same sm2) d4
          have sw : Same (wo ka H) H4 := d4.own (wo_le.trans sm2) wo_at
          have hV : StepsV H4 t (nexts J M x) := ⟨as, tk4 _ _ upd_same, hS.tk ((TK.of st).trans tk4)⟩
          have hgt : gt (KN ++ [(x, t)]) x = some t := by
            have h1 : x ∈ (KN ++ [(x, t)]).map (·.1) := by simp
            obtain ⟨v, hv⟩ := gt_some h1
            rcases List.mem_append.mp (gt_mem hv) with h | h
            · exact absurd (List.mem_map.mpr ⟨_, h, rfl⟩) hin
            · cases List.mem_singleton.mp h
              exact hv
          refine ⟨_, _, _, _, _, rfl, sw, ⟨⟨dx, p, q, hob, hJ, hM⟩, hfree, fun b o e => ?_, KN ++ [(x, t)], d4.1, ?_, ?_, ?_⟩, KN ++ [(x, t)], t, d4.1, hgt, hV⟩
          · exact sw _ _ (wo_some (sG _ _ e) (ne_of_none e hfree))
          · rw [List.map_append, List.nodup_append]
            refine ⟨hKN.nd, by simp, fun y hy z hz => ?_⟩
            rw [List.map_singleton, List.mem_singleton] at hz
            rw [hz]
            exact fun e => hin (by rw [e] at hy; exact hy)
          · intro y hy
            rw [List.map_append] at hy
            rcases List.mem_append.mp hy with h | h
            · exact hKN.vd y h
            · rw [List.map_singleton, List.mem_singleton] at h
              rw [h]
              exact hx
          · intro e he
            rcases List.mem_append.mp he with h | h
            · exact (hKN.st e h).tk ((TK.of sm2).trans tk4)
            · rw [List.mem_singleton] at h
              rw [h]
              exact hV
    · rintro σ' H' ⟨y2, y3, y4, y5, y6, rfl, sm, hD', KN', t, hPD', ht, hS⟩
      obtain ⟨⟨dx', p', q', hob', _⟩, _, sG', _⟩ := id hD'
      refine ⟨_, rfl, d, _, dx', _, _, rfl, sG' _ _ hob', T.cls_D, T.no_D_known, sf_known, _, rfl, ka, a, stK x, _, .ref t, rfl, rfl, hPD', (show StA H' a x from sm _ _ (wo_some ha (nkd ha fun F z => nomatch z))).key, by rw [sd_val, ht]; rfl, ?_⟩
      exact fin _ _ sm hD' hS
end
end J

set_option Elab.async false
set_option linter.all false
set_option maxRecDepth 100000
set_option maxHeartbeats 4000000
/-! Walks: the standings that are reached, those that lead on. -/
namespace J
open PySem PySem.Spec PyProof.Rows L2
theorem inV_ints (n : Nat) : ∀ ms : List Nat, inV (nI n) (nIs ms) = decide (n ∈ ms)
  | [] => by simp [inV]
  | m :: ms => by
    have ih := inV_ints n ms
    show (eqV (nI m) (nI n) || inV (nI n) (nIs ms)) = _
    rw [ih]
    have e : eqV (nI m) (nI n) = decide (n = m) := by
      show (((m : Nat) : Int) == ((n : Nat) : Int)) = _
      by_cases h : n = m
      · simp [h]
      · have : ¬ ((m : Nat) : Int) = ((n : Nat) : Int) := by omega
        simp [h, this]
    rw [e]
    by_cases h : n = m
    · simp [h]
    · simp [h]
theorem flat_ints (ms : List Nat) : (nIs ms).all flatV = true := by
  rw [List.all_map]
  exact List.all_eq_true.mpr fun _ _ => rfl
/-- n in a list or a tuple of numbers -/
theorem in_ints {K : PySem.W.Frag} {H : Hp} {a : Addr} {n : Nat} {ms : List Nat} {Q : V → Hp → Prop} (h : SqA K H a (nIs ms)) (q : Q (.bl (decide (n ∈ ms))) H) : rIn K false (nI n) (.ref a) H Q := by
  refine ⟨a, _, rfl, h, rfl, flat_ints ms, ?_⟩
  rw [if_neg (by decide), inV_ints]
  exact q
theorem notin_ints {K : PySem.W.Frag} {H : Hp} {a : Addr} {n : Nat} {ms : List Nat} {Q : V → Hp → Prop} (h : SqA K H a (nIs ms)) (q : Q (.bl (!decide (n ∈ ms))) H) : rIn K true (nI n) (.ref a) H Q := by
  refine ⟨a, _, rfl, h, rfl, flat_ints ms, ?_⟩
  rw [if_pos rfl, inV_ints]
  exact q
def s1f (p : Addr) : List (Str × V) := [("joins", .ref p)]
def s2f (p q : Addr) : List (Str × V) := [("joins", .ref p), ("machine", .ref q)]
theorem sp2 {p q : Addr} : putF ("machine" : Str) (.ref q) (s1f p) = s2f p q := by
  unfold s1f
  rw [putF_skip (by decide +kernel)]
  rfl
theorem sp3 {p q ka : Addr} : putF ("known" : Str) (.ref ka) (s2f p q) = sf p q ka := by
  unfold s2f
  rw [putF_skip (by decide +kernel), putF_skip (by decide +kernel)]
  rfl
theorem StA.tk {H H' : Hp} {a : Addr} {x : Stn} (h : StA H a x) (t : TK H H') : StA H' a x := t _ _ h
theorem stas_tk {H H' : Hp} {as : List Addr} {xs : List Stn} (h : Paired (StA H) as xs) (t : TK H H') : Paired (StA H') as xs := L2.Paired.mapP h fun _ _ e => t _ _ e
section
variable {P : Program} {w : World} {K : PySem.W.Frag} {mg : Str → Option Value} {base : Heap}
def spIsEnd (P : Program) (w : World) (K : PySem.W.Frag) : Sp := fun vs H Q _ => ∃ G d ka J M a x, vs = [.ref d, .ref a] ∧ DAt P w K G H d ka J M ∧ StA H a x ∧ Q (.bl (decide (x.2 ∈ M.ends))) H
theorem ok_Standings_is_end (T : Txt K mg) : MetOk P w K mg base 1 (CD K) "is_end" ["self", "standing"] (spIsEnd P w K) := by
  refine mk_Standings_is_end T (fun vs H Q E h => ?_) (fun f cdv A outer s H vs Q E hr h => ?_)
  · obtain ⟨G, d, ka, J, M, a, x, rfl, _⟩ := h
    rfl
  · obtain ⟨G, d, ka, J, M, a, x, rfl, hD, ha, fin⟩ := h
    refine ⟨_, (pss_one (ps_ret (pe_cmpR (inK (K := K)) (pe_ix (ix_tupK (K := K)) (pv 1) pe_int (fun _ _ => rfl)) (fldK (K := K) (fldK (K := K) (pv 0))) rfl))), ?_⟩
    obtain ⟨⟨dx, p, q, hob, hJ, hM⟩, hfree, sG, KN, hPD, hKN⟩ := id hD
    obtain ⟨mdx, mea, msa, mes, mrs, hMA⟩ := hM.same sG
    refine ⟨_, rfl, a, _, _, _, rfl, rfl, SqT.of ha, atI_nat (j := 1) rfl, _, rfl, d, _, dx, _, _, rfl, sG _ _ hob, T.cls_D, T.no_D_machine, sf_machine, q, _, mdx, _, _, rfl, hMA.ob, T.cls_M, T.no_M_ends, mf_ends, ?_⟩
    refine in_ints (.inr (SqT.of hMA.ends)) ?_
    have e : decide (x.2 ∈ mes) = decide (x.2 ∈ M.ends) := by
      have h := hMA.perm.mem_iff (a := x.2)
      by_cases h2 : x.2 ∈ M.ends
      · rw [decide_eq_true h2, decide_eq_true (h.mpr h2)]
      · rw [decide_eq_false h2, decide_eq_false fun z => h2 (h.mp z)]
    rw [e]
    exact fin
def spStandings (P : Program) (w : World) (K : PySem.W.Frag) : Sp := fun vs H Q _ => ∃ d dx p q, vs = [.ref d, .ref p, .ref q] ∧ H d = some (.ins (CD K) dx []) ∧ ∀ H' ka, Same (wo d H) H' → H ka = none → H' d = some (.ins (CD K) dx (sf p q ka)) → PD P w H' ka [] → Q .non H'
theorem ok_Standings (T : Txt K mg) : NewOk P w K mg base 1 (CD K) "Standings" ["self", "joins", "machine"] (spStandings P w K) := by
  refine mk_Standings_init T (fun vs H Q E h => ?_) (fun f cdv A outer s H vs Q E hr h => ?_)
  · obtain ⟨d, dx, p, q, rfl, _⟩ := h
    rfl
  · obtain ⟨d, dx, p, q, rfl, hd, fin⟩ := h
    refine ⟨_, (pss_cons (pfldK (K := K) (pv 0) (pv 1))
      (pss_cons (pfldK (K := K) (pv 0) (pv 2))
      (pss_one (pfldK (K := K) (pv 0) (pdnewK (P := P) (w := w)))))), ?_⟩
    have nd : wo d H d = none := wo_at
    refine ⟨_, rfl, _, rfl, d, _, dx, _, rfl, hd, T.cls_D, T.no_D_joins, (by show 0 < 1000; decide), ?_⟩
    rw [show putF ("joins" : Str) (V.ref p) [] = s1f p from rfl]
    have s1 := Same.own (o := .ins (CD K) dx (s1f p)) wo_le nd
    have q1 : (upd H d (.ins (CD K) dx (s1f p))) d = _ := upd_same
    have k1 : ∀ c, (upd H d (.ins (CD K) dx (s1f p))) c = none → H c = none := fun c hc => by
      by_cases e : c = d
      · rw [e, upd_same] at hc
        cases hc
      · rw [upd_ne e] at hc
        exact hc
    generalize (upd H d (.ins (CD K) dx (s1f p))) = H1 at s1 q1 k1
    refine ⟨_, rfl, _, rfl, d, _, dx, _, rfl, q1, T.cls_D, T.no_D_machine, (by show 1 < 1000; decide), ?_⟩
    rw [sp2]
    have s2 := Same.own (o := .ins (CD K) dx (s2f p q)) s1 nd
    have q2 : (upd H1 d (.ins (CD K) dx (s2f p q))) d = _ := upd_same
    have k2 : ∀ c, (upd H1 d (.ins (CD K) dx (s2f p q))) c = none → H1 c = none := fun c hc => by
      by_cases e : c = d
      · rw [e, upd_same] at hc
        cases hc
      · rw [upd_ne e] at hc
        exact hc
    generalize (upd H1 d (.ins (CD K) dx (s2f p q))) = H2 at s2 q2 k2
    refine fun ka H3 hka d3 => ⟨_, rfl, d, _, dx, _, rfl, (d3.2 d (ne_of_none q2 hka)).trans q2, T.cls_D, T.no_D_known, (by show 2 < 1000; decide), ?_⟩
    rw [sp3]
    have q3 := (d3.2 d (ne_of_none q2 hka)).trans q2
    have hk : H ka = none := k1 _ (k2 _ hka)
    refine fin _ ka (Same.own (d3.own s2 (s2.free hka)) nd) hk upd_same (d3.1.keep (upd_ne (by
      obtain ⟨xs, e, _⟩ := d3.1
      exact ne_of e q3 fun z => nomatch z)) (TK.own (TK.refl _) q3 fun xs z => nomatch z))
/-- while the standings are gathered -/
structure RInv (P : Program) (w : World) (K : PySem.W.Frag) (G H : Hp) (d ka l pl : Addr) (J : JD) (M : MD) (x : Stn) (H' : Hp) (xs : List Stn) : Prop where
  same : Same (wo ka H) H'
  at_ : DAt P w K G H' d ka J M
  lst : ∃ as, H' l = some (.lst (as.map V.ref)) ∧ Paired (StA H') as xs
  nd : xs.Nodup
  vd : ∀ y ∈ xs, Vd J M y
  st : x ∈ xs
  pl : ∃ PL : List (Stn × Int), PD P w H' pl (sd V.int PL) ∧ PL.map (·.1) = xs
def spReached (P : Program) (w : World) (K : PySem.W.Frag) : Sp := fun vs H Q _ => ∃ G d ka J M a x, vs = [.ref d, .ref a] ∧ DAt P w K G H d ka J M ∧ JM J M ∧ StA H a x ∧ Vd J M x ∧
  ∀ H' l as xs, Same (wo ka H) H' → DAt P w K G H' d ka J M → wo ka H l = none → H' l = some (.lst (as.map V.ref)) → Paired (StA H') as xs → xs.Nodup → (∀ y ∈ xs, Vd J M y) → x ∈ xs → (∀ y ∈ xs, ∀ e ∈ nexts J M y, tgt e ∈ xs) → Q (.ref l) H'
theorem ok_Standings_reached (T : Txt K mg) : MetOk P w K mg base 9 (CD K) "reached" ["self", "start"] (spReached P w K) := by
  have M_Standings_steps := ok_Standings_steps (P := P) (w := w) (base := base) T
  refine mk_Standings_reached T (fun vs H Q E h => ?_) (fun f cdv A outer s H vs Q E hr h => ?_)
  · obtain ⟨G, d, ka, J, M, a, x, rfl, _⟩ := h
    rfl
  · obtain ⟨G, d, ka, J, M, a, x, rfl, hD, ok, ha, hx, fin⟩ := h
    refine ⟨_, (pss_cons (ps_st 2 sc_Standings_reached.nd (pe_lst (pa_cons (pv 1) pa_nil)))
      (pss_cons (ps_st 3 sc_Standings_reached.nd (pdoneK (P := P) (w := w) (hu_of hr) (pv 1) pe_int))
      (pss_cons (ps_st 4 sc_Standings_reached.nd pe_int)
      (pss_cons (ps_while PassesOwn.never (pt_cmpR op_lt (pv 4) (pe_callB (lenK (K := K)) rfl T.b_len PySem.boot_len (pa_cons (pv 2) pa_nil)) (nomark _)) (pss_cons (ps_for PassesOwn.never rfl (pi_tup (pe_met (pv 0) T.cls_D M_Standings_steps hr (pa_cons (pe_ix (ix_listK (K := K)) (pv 2) (pv 4) (fun _ _ => rfl)) pa_nil))) (ptupK (K := K) (n := 2) rfl (pgs_cons (pg_n 5 sc_Standings_reached.nd) (pgs_cons (pg_n 6 sc_Standings_reached.nd) pgs_nil)))
          (pss_one (ps_if (pt_cmp (pdnotinK (P := P) (w := w) (hu_of hr) (pv 6) (pv 3))) (pss_cons (pdputK (P := P) (w := w) (hu_of hr) (pv 3) (pv 6) (pe_callB (lenK (K := K)) rfl T.b_len PySem.boot_len (pa_cons (pv 2) pa_nil)))
            (pss_one (ps_expr (bmK (K := K) PySem.F.plainAttrs_list PySem.F.slot_list_append PySem.F.type_list_append mt_append (pv 2) (pa_cons (pv 6) pa_nil))))) pss_nil)))
        (pss_one (ps_ag 4 sc_Standings_reached.nd pe_int ip_add))))
      (pss_one (ps_ret (pv 2))))))), ?_⟩
    have hDk := hD.kn
    obtain ⟨KN0, hPD0, _⟩ := hDk
    have nk : ∀ {b : Addr}, H b = none → b ≠ ka := fun {b} h e => by
      obtain ⟨xs, e2, _⟩ := hPD0
      rw [e, e2] at h
      cases h
    have wa : wo ka H a = some (.tup [nV x.1, nI x.2]) := wo_some ha fun e => by
      obtain ⟨xs, e2, _⟩ := hPD0
      have h := ha
      rw [e] at h
      exact nomatch e2.symm.trans h
    have hGw : Same G (wo ka H) := fun b o e => wo_some (hD.same _ _ e) (ne_of_none e hD.free)
    refine ⟨_, rfl, one_ok, fun l hl => ?_⟩
    have hlk : l ≠ ka := nk hl
    have hl0 : wo ka H l = none := wo_le.free hl
    refine fun pl H1 hpl d1 => ⟨_, rfl, a, stK x, rfl, ?_, rfl, fun H2 d2 => ?_⟩
    · rw [d1.2 a (ne_of_none ((Same.new hl) _ _ ha) hpl)]
      exact ((Same.new hl) _ _ ha).trans (by rw [pkV_st])
    have hlp : l ≠ pl := ne_of_none upd_same hpl
    have hp0 : H pl = none := (Same.new hl).free hpl
    have hpk : pl ≠ ka := nk hp0
    have hp00 : wo ka H pl = none := wo_le.free hp0
    have s12 : Same (upd H l (.lst [.ref a])) H2 := PdPut.own d2 (PdPut.own d1 (Same.refl _) hpl) hpl
    have sHH : Same H H2 := (Same.new hl).trans s12
    have hDm := hD.mv (hD.same.trans sHH) (by
      obtain ⟨xs, e2, _⟩ := hPD0
      rw [e2]
      exact sHH _ _ e2) (TK.of sHH)
    have hI0 : RInv P w K G H d ka l pl J M x H2 [x] :=
      ⟨wo_le.trans sHH, hDm, ⟨[a], s12 _ _ upd_same, .cons (sHH _ _ ha) .nil⟩, by simp, fun y hy => by rw [List.mem_singleton.mp hy]; exact hx, List.mem_singleton.mpr rfl, [(x, 0)], d2.1, rfl⟩
    have hN : ∀ {H' xs}, RInv P w K G H d ka l pl J M x H' xs → xs.length ≤ 1092 := fun {H' xs} hI => Nat.le_trans (stn_le hI.nd hI.vd) (univ_le ok.j ok.m)
    refine ⟨fun m σ' H' => ∃ (at_ : Nat) (xs : List Stn) (y5 y6 : Option V), σ' = [some (.ref d), some (.ref a), some (.ref l), some (.ref pl), some (.int (at_ : Nat)), y5, y6] ∧ RInv P w K G H d ka l pl J M x H' xs ∧ at_ ≤ xs.length ∧ at_ + m = 1092 ∧ ∀ y ∈ xs.take at_, ∀ e ∈ nexts J M y, tgt e ∈ xs,
      ⟨1092, 0, [x], none, none, rfl, hI0, Nat.zero_le _, rfl, fun y hy => nomatch hy⟩, ?_⟩
    rintro m σ' H' ⟨at_, xs, y5, y6, rfl, hI, hat, hm, hcl⟩
    obtain ⟨as, hL, hS⟩ := hI.lst
    have hal : as.length = xs.length := Paired.length hS
    refine ⟨_, rfl, _, rfl, l, _, rfl, .inl (SqL.of hL), _, _, rfl, rfl, _, rfl, ?_⟩
    rw [List.length_map, hal]
    refine ite2 (fun h1 => ?_) fun h1 => ?_
    · have h1 : at_ < xs.length := by
        have := of_decide_eq_true h1
        omega
      have hxl := hN hI
      obtain ⟨m, rfl⟩ : ∃ m', m = m' + 1 := ⟨m - 1, by omega⟩
      refine ⟨_, fun σ' H' h => ⟨m, Nat.lt_succ_self _, h⟩, ?_⟩
      obtain ⟨c, hc, hcy⟩ := paired_get hS (List.getElem?_eq_getElem h1)
      have hy := hI.vd _ (List.getElem_mem h1)
      obtain ⟨dx, p, q, hob, hJ, hM⟩ := hI.at_.ob
      have hobH := hI.at_.same _ _ hob
      refine ⟨_, rfl, d, dx, _, rfl, hobH, sf_no (by decide +kernel), _, rfl, _, rfl, l, _, _, .ref c, rfl, rfl, SqL.of hL, atI_nat (by rw [List.getElem?_map, hc]; rfl), ?_⟩
      refine ⟨G, d, ka, J, M, c, _, rfl, hI.at_, ok, hcy, hy, fun H3 t s3 hD3 hV3 => ?_⟩
      obtain ⟨ts, ht, hts⟩ := hV3
      have hPk : ∃ KN, PD P w H' ka (sd V.ref KN) := let ⟨KN, h, _⟩ := hI.at_.kn; ⟨KN, h⟩
      have hlk' : H3 l = some (.lst (as.map V.ref)) := s3 _ _ (wo_some hL hlk)
      have tk3 : TK H' H3 := wo_tk s3 fun ys e => by
        obtain ⟨KN, zs, e2, _⟩ := hPk
        rw [e2] at e
        cases e
      have hI3 : RInv P w K G H d ka l pl J M x H3 xs := by
        obtain ⟨PL, hPL, hPLx⟩ := hI.pl
        refine ⟨fun b o e => ?_, hD3, ⟨as, hlk', stas_tk hS tk3⟩, hI.nd, hI.vd, hI.st, PL, ?_, hPLx⟩
        · have hb : b ≠ ka := fun z => by rw [z, wo_at] at e; cases e
          exact s3 _ _ (wo_some (hI.same _ _ e) hb)
        · obtain ⟨zs, e2, _⟩ := id hPL
          exact hPL.keep ((s3 _ _ (wo_some e2 hpk)).trans e2.symm) tk3
      refine ⟨t, rfl, ⟨_, SqT.of ht⟩, for_tup (K := K) (xs := ts.map V.ref) (fun j σ' H' => ∃ (xs' zs : List Stn) (y5 y6 : Option V), σ' = [some (.ref d), some (.ref a), some (.ref l), some (.ref pl), some (.int (at_ : Nat)), y5, y6] ∧ xs' = xs ++ zs ∧ RInv P w K G H d ka l pl J M x H' xs' ∧ TK H3 H' ∧ ∀ e ∈ (nexts J M xs[at_]).take j, tgt e ∈ xs')
        ⟨xs, [], y5, y6, rfl, (List.append_nil _).symm, hI3, TK.refl _, fun e he => by simp at he⟩ (fun j σ' H' _ ⟨_, _, _, _, _, _, _, tk, _⟩ => SqT.of (tk _ _ ht)) ?_ ?_⟩
      · rintro j v σ' H4 hv ⟨xs', zs, y5, y6, rfl, hx', hI4, tk4, hcl4⟩
        rw [List.getElem?_map] at hv
        obtain ⟨a1, ha1, rfl⟩ := Option.map_eq_some_iff.mp hv
        obtain ⟨e, he, b, hab, hb⟩ := paired_get' hts ha1
        have hab4 := tk4 _ _ hab
        have hb4 : StA H4 b (tgt e) := tk4 _ _ hb
        obtain ⟨as4, hL4, hS4⟩ := hI4.lst
        obtain ⟨PL, hPL, hPLx⟩ := hI4.pl
        have hxl4 := hN hI4
        have hPLl : PL.length = xs'.length := by rw [← hPLx, List.length_map]
        have hal4 : as4.length = xs'.length := Paired.length hS4
        have hmem : e ∈ nexts J M xs[at_] := List.mem_of_getElem? he
        refine ⟨a1, _, rfl, SqT.of hab4, rfl, _, _, rfl, _, _, rfl, rfl, ?_⟩
        refine ⟨_, rfl, _, rfl, pl, b, stK (tgt e), _, rfl, rfl, hPL, hb4.key, _, rfl, ?_⟩
        rw [sd_isSome, hPLx]
        by_cases hin : tgt e ∈ xs'
        · rw [decide_eq_true hin]
          refine iteF ⟨xs', zs, _, _, rfl, hx', hI4, tk4, fun e' he' => ?_⟩
          rcases (mem_take_succ he).mp he' with h | h
          · exact hcl4 e' h
          · rw [h]
            exact hin
        · rw [decide_eq_false hin]
          refine iteT ?_
          refine ⟨_, rfl, l, _, rfl, .inl (SqL.of hL4), _, rfl, _, rfl, pl, b, stK (tgt e), _, rfl, rfl, hPL, hb4.key, by rw [sd_len, hPLl]; exact small_lt (by omega), fun H5 d5 => ?_⟩
          rw [sd_put _ (gt_none.mpr (by rw [hPLx]; exact hin))] at d5
          have hL5 : H5 l = _ := (d5.2 l hlp).trans hL4
          have tk5 : TK H4 H5 := PdPut.tk hPL d5
          refine ⟨_, rfl, .inl ⟨rfl, _, SqL.of hL5⟩, _, rfl, l, as4.map V.ref, _, rfl, rfl, hL5, by rw [List.length_map, hal4]; exact small_lt (by omega), ?_⟩
          have tk6 : TK H5 (upd H5 l (.lst (as4.map V.ref ++ [.ref b]))) := TK.own (TK.refl _) hL5 fun xs z => nomatch z
          have sw : Same (wo ka H) (upd H5 l (.lst (as4.map V.ref ++ [.ref b]))) := Same.own (d5.own hI4.same hp00) hl0
          refine ⟨xs' ++ [tgt e], zs ++ [tgt e], _, _, rfl, by rw [hx', List.append_assoc], ⟨sw, ?_, ⟨as4 ++ [b], by rw [upd_same, List.map_append]; rfl, Paired.snoc (stas_tk hS4 (tk5.trans tk6)) ((tk5.trans tk6) _ _ hb4)⟩, ?_, ?_, List.mem_append_left _ hI4.st, PL ++ [(tgt e, ((as4.map V.ref).length : Int))], ?_, ?_⟩, (tk4.trans tk5).trans tk6, fun e' he' => ?_⟩
          · refine hI4.at_.mv (fun b o z => sw _ _ (hGw _ _ z)) ?_ (tk5.trans tk6)
            rw [upd_ne (Ne.symm hlk), d5.2 ka (Ne.symm hpk)]
          · rw [List.nodup_append]
            exact ⟨hI4.nd, by simp, fun y hy z hz => by rw [List.mem_singleton] at hz; rw [hz]; exact fun q => hin (q ▸ hy)⟩
          · intro y hy'
            rcases List.mem_append.mp hy' with h | h
            · exact hI4.vd y h
            · rw [List.mem_singleton.mp h]
              exact nexts_vd ok.m hy hmem
          · exact d5.1.keep (upd_ne (Ne.symm hlp)) tk6
          · rw [List.map_append, hPLx]
            rfl
          · rcases (mem_take_succ he).mp he' with h | h
            · exact List.mem_append_left _ (hcl4 e' h)
            · rw [h]
              exact List.mem_append_right _ (List.mem_singleton.mpr rfl)
      · rintro σ' H4 ⟨xs', zs, y5, y6, rfl, hx', hI4, tk4, hcl4⟩
        have htl : ts.length = (nexts J M xs[at_]).length := Paired.length hts
        rw [List.length_map, htl, List.take_length] at hcl4
        refine ⟨_, rfl, _, _, rfl, rfl, at_ + 1, xs', y5, y6, rfl, hI4, by rw [hx', List.length_append]; omega, by omega, fun y hy' e he => ?_⟩
        have e1 : xs'.take (at_ + 1) = xs.take (at_ + 1) := by rw [hx', List.take_append_of_le_length (by omega)]
        rw [e1] at hy'
        rcases (mem_take_succ (List.getElem?_eq_getElem h1)).mp hy' with h | h
        · rw [hx']
          exact List.mem_append_left _ (hcl y h e he)
        · rw [h] at he
          exact hcl4 e he
    · have h1 : ¬ at_ < xs.length := fun z => h1 (decide_eq_true (by omega))
      rw [List.take_of_length_le (by omega)] at hcl
      exact ⟨_, rfl, fin _ l as xs hI.same hI.at_ hl0 hL hS hI.nd hI.vd hI.st hcl⟩
end
end J

set_option Elab.async false
set_option linter.all false
set_option maxRecDepth 100000
set_option maxHeartbeats 4000000
/-! Walks: the standings that lead on. -/
namespace J
open PySem PySem.Spec PyProof.Rows L2
section
variable {P : Program} {w : World} {K : PySem.W.Frag} {mg : Str → Option Value} {base : Heap}
/-- the heap while alive works: the rows behind, what is found, what is to do -/
structure AHp (P : Program) (w : World) (K : PySem.W.Frag) (G B : Hp) (d ka bh fo wk : Addr) (J : JD) (M : MD) (H : Hp) (BN : List (Stn × (Addr × List Stn))) (FN WN : List Stn) : Prop where
  same : Same B H
  at_ : DAt P w K G H d ka J M
  bhd : PD P w H bh (sd (fun e : Addr × List Stn => V.ref e.1) BN)
  rows : ∀ e ∈ BN, ∃ as, H e.2.1 = some (.lst (as.map V.ref)) ∧ Paired (StA H) as e.2.2
  inj : ∀ e ∈ BN, ∀ e' ∈ BN, e.2.1 = e'.2.1 → e.1 = e'.1
  keys : (BN.map (·.1)).Nodup
  new : ∀ e ∈ BN, B e.2.1 = none ∧ e.2.1 ≠ wk
  fnd : ∃ FL : List (Stn × Unit), PD P w H fo (sd (fun _ => V.bl true) FL) ∧ FL.map (·.1) = FN
  work : ∃ as, H wk = some (.lst (as.map V.ref)) ∧ Paired (StA H) as WN
/-- the four places apart -/
structure Apart (G B : Hp) (ka bh fo wk : Addr) : Prop where
  g : Same G B
  bka : B ka = none
  bbh : B bh = none
  bfo : B fo = none
  bwk : B wk = none
  kb : ka ≠ bh
  kf : ka ≠ fo
  kw : ka ≠ wk
  bf : bh ≠ fo
  bw : bh ≠ wk
  fw : fo ≠ wk
section
variable {G B H H' : Hp} {d ka bh fo wk : Addr} {J : JD} {M : MD} {BN : List (Stn × (Addr × List Stn))} {FN WN : List Stn}
theorem pd_some {a : Addr} {kvs : List (PKey × V)} (h : PD P w H a kvs) : ∃ F, H a = some (.ext F) := let ⟨_, e, _⟩ := h; ⟨_, e⟩
theorem AHp.kn (h : AHp P w K G B d ka bh fo wk J M H BN FN WN) : ∃ F, H ka = some (.ext F) := let ⟨_, h, _⟩ := h.at_.kn; pd_some h
theorem AHp.ext (h : AHp P w K G B d ka bh fo wk J M H BN FN WN) (s : Same H H') : AHp P w K G B d ka bh fo wk J M H' BN FN WN := by
  obtain ⟨FL, h1, h2⟩ := h.fnd
  obtain ⟨as, h3, h4⟩ := h.work
  obtain ⟨F, hk⟩ := h.kn
  exact ⟨h.same.trans s, h.at_.mv (h.at_.same.trans s) ((s _ _ hk).trans hk.symm) (TK.of s), h.bhd.same s, fun e he => let ⟨as, e1, e2⟩ := h.rows e he; ⟨as, s _ _ e1, stas_tk e2 (TK.of s)⟩, h.inj, h.keys, h.new, ⟨FL, h1.same s, h2⟩, as, s _ _ h3, stas_tk h4 (TK.of s)⟩
/-- one place is written: what is behind is told for the other parts -/
theorem AHp.tk_list (h : AHp P w K G B d ka bh fo wk J M H BN FN WN) {a : Addr} {xs ys : List V} (e : H a = some (.lst xs)) : TK H (upd H a (.lst ys)) := TK.own (TK.refl _) e fun xs z => nomatch z
theorem AHp.steps (h : AHp P w K G B d ka bh fo wk J M H BN FN WN) (ap : Apart G B ka bh fo wk) (s : Same (wo ka H) H') (hD : DAt P w K G H' d ka J M) : AHp P w K G B d ka bh fo wk J M H' BN FN WN := by
  obtain ⟨FL, h1, h2⟩ := h.fnd
  obtain ⟨as, h3, h4⟩ := h.work
  obtain ⟨F, hk⟩ := h.kn
  have tk : TK H H' := wo_tk s fun xs z => by rw [hk] at z; cases z
  obtain ⟨F1, e1⟩ := pd_some h.bhd
  obtain ⟨F2, e2⟩ := pd_some h1
  refine ⟨fun b o e => s _ _ (wo_some (h.same _ _ e) (ne_of_none e ap.bka)), hD, h.bhd.keep ((s _ _ (wo_some e1 (Ne.symm ap.kb))).trans e1.symm) tk, fun e he => ?_, h.inj, h.keys, h.new, ⟨FL, h1.keep ((s _ _ (wo_some e2 (Ne.symm ap.kf))).trans e2.symm) tk, h2⟩, as, s _ _ (wo_some h3 (Ne.symm ap.kw)), stas_tk h4 tk⟩
  obtain ⟨as, q1, q2⟩ := h.rows e he
  exact ⟨as, s _ _ (wo_some q1 (ne_of q1 hk fun z => nomatch z)), stas_tk q2 tk⟩
theorem AHp.row (h : AHp P w K G B d ka bh fo wk J M H BN FN WN) (ap : Apart G B ka bh fo wk) {y : Stn} {dl : Addr} (hy : y ∉ BN.map (·.1)) (hd : H dl = some (.lst [])) (nb : B dl = none) (nw : dl ≠ wk) (nn : ∀ e ∈ BN, e.2.1 ≠ dl)
    (p : PdPut P w H bh (sd (fun e : Addr × List Stn => V.ref e.1) (BN ++ [(y, (dl, []))])) H') : AHp P w K G B d ka bh fo wk J M H' (BN ++ [(y, (dl, []))]) FN WN := by
  obtain ⟨FL, h1, h2⟩ := h.fnd
  obtain ⟨as, h3, h4⟩ := h.work
  obtain ⟨F, hk⟩ := pd_some h.bhd
  have tk : TK H H' := PdPut.tk h.bhd p
  have sB : Same B H' := p.own h.same ap.bbh
  refine ⟨sB, h.at_.mv (ap.g.trans sB) (p.2 _ ap.kb) tk, p.1, ?_, ?_, ?_, ?_, ⟨FL, h1.keep (p.2 _ (Ne.symm ap.bf)) tk, h2⟩, as, (p.2 _ (Ne.symm ap.bw)).trans h3, stas_tk h4 tk⟩
  · intro e he
    rcases List.mem_append.mp he with he | he
    · obtain ⟨as, q1, q2⟩ := h.rows e he
      exact ⟨as, (p.2 _ (ne_of q1 hk fun z => nomatch z)).trans q1, stas_tk q2 tk⟩
    · rw [List.mem_singleton.mp he]
      exact ⟨[], (p.2 _ (ne_of hd hk fun z => nomatch z)).trans hd, .nil⟩
  · intro e he e' he' q
    rcases List.mem_append.mp he with he | he <;> rcases List.mem_append.mp he' with he' | he'
    · exact h.inj e he e' he' q
    · rw [List.mem_singleton.mp he'] at q
      exact absurd q (nn e he)
    · rw [List.mem_singleton.mp he] at q
      exact absurd q.symm (nn e' he')
    · rw [List.mem_singleton.mp he, List.mem_singleton.mp he']
  · rw [List.map_append, List.nodup_append]
    refine ⟨h.keys, by simp, fun a ha b hb z => ?_⟩
    rw [List.map_singleton, List.mem_singleton] at hb
    rw [hb] at z
    rw [z] at ha
    exact hy ha
  · intro e he
    rcases List.mem_append.mp he with he | he
    · exact h.new e he
    · rw [List.mem_singleton.mp he]
      exact ⟨nb, nw⟩
def addR (y z : Stn) (e : Stn × (Addr × List Stn)) : Stn × (Addr × List Stn) := if e.1 = y then (e.1, (e.2.1, e.2.2 ++ [z])) else e
theorem addR_1 (y z : Stn) (e : Stn × (Addr × List Stn)) : (addR y z e).1 = e.1 := by
  unfold addR
  split <;> rfl
theorem addR_2 (y z : Stn) (e : Stn × (Addr × List Stn)) : (addR y z e).2.1 = e.2.1 := by
  unfold addR
  split <;> rfl
theorem addR_sd (y z : Stn) (BN : List (Stn × (Addr × List Stn))) : sd (fun e : Addr × List Stn => V.ref e.1) (BN.map (addR y z)) = sd (fun e : Addr × List Stn => V.ref e.1) BN := by
  unfold sd
  rw [List.map_map]
  refine List.map_congr_left fun e _ => ?_
  show (stK (addR y z e).1, V.ref (addR y z e).2.1) = _
  rw [addR_1, addR_2]
theorem AHp.add (h : AHp P w K G B d ka bh fo wk J M H BN FN WN) (ap : Apart G B ka bh fo wk) {y z : Stn} {b c : Addr} {xs : List Stn} {as : List Addr} (hb : (y, (b, xs)) ∈ BN) (hL : H b = some (.lst (as.map V.ref))) (hS : Paired (StA H) as xs) (hc : StA H c z) :
    AHp P w K G B d ka bh fo wk J M (upd H b (.lst (as.map V.ref ++ [.ref c]))) (BN.map (addR y z)) FN WN := by
  obtain ⟨FL, h1, h2⟩ := h.fnd
  obtain ⟨ws, h3, h4⟩ := h.work
  obtain ⟨F, hk⟩ := h.kn
  obtain ⟨F1, e1⟩ := pd_some h.bhd
  obtain ⟨F2, e2⟩ := pd_some h1
  have tk : TK H (upd H b (.lst (as.map V.ref ++ [.ref c]))) := h.tk_list hL
  have nB := h.new _ hb
  have sB : Same B (upd H b (.lst (as.map V.ref ++ [.ref c]))) := Same.own h.same nB.1
  refine ⟨sB, h.at_.mv (ap.g.trans sB) (upd_ne (ne_of hk hL fun z => nomatch z)) tk, ?_, ?_, ?_, ?_, ?_, ⟨FL, h1.keep (upd_ne (ne_of e2 hL fun z => nomatch z)) tk, h2⟩, ws, (upd_ne (Ne.symm nB.2)).trans h3, stas_tk h4 tk⟩
  · rw [addR_sd]
    exact h.bhd.keep (upd_ne (ne_of e1 hL fun z => nomatch z)) tk
  · intro e he
    obtain ⟨e0, he0, rfl⟩ := List.mem_map.mp he
    rw [addR_2]
    obtain ⟨as0, q1, q2⟩ := h.rows e0 he0
    by_cases h0 : e0.1 = y
    · have hb0 : e0.2.1 = b ∧ e0.2.2 = xs := by
        have hkk := h.keys
        have : e0 = (y, (b, xs)) := by
          obtain ⟨i, hi⟩ := List.mem_iff_getElem?.mp he0
          obtain ⟨j, hj⟩ := List.mem_iff_getElem?.mp hb
          have hi2 : (BN.map (·.1))[i]? = some y := by rw [List.getElem?_map, hi]; exact congrArg some h0
          have hj2 : (BN.map (·.1))[j]? = some y := by rw [List.getElem?_map, hj]; rfl
          have := nd_ix hkk hi2 hj2
          rw [this, hj] at hi
          exact (Option.some.inj hi).symm
        rw [this]
        exact ⟨rfl, rfl⟩
      rw [hb0.1]
      refine ⟨as ++ [c], by rw [upd_same, List.map_append]; rfl, ?_⟩
      unfold addR
      rw [if_pos h0]
      show Paired _ (as ++ [c]) (e0.2.2 ++ [z])
      rw [hb0.2]
      exact Paired.snoc (stas_tk hS tk) (hc.tk tk)
    · have hne : e0.2.1 ≠ b := fun q => h0 (h.inj _ he0 _ hb q)
      refine ⟨as0, (upd_ne hne).trans q1, ?_⟩
      unfold addR
      rw [if_neg h0]
      exact stas_tk q2 tk
  · intro e he e' he' q
    obtain ⟨e0, he0, rfl⟩ := List.mem_map.mp he
    obtain ⟨e1, he1, rfl⟩ := List.mem_map.mp he'
    rw [addR_2, addR_2] at q
    rw [addR_1, addR_1]
    exact h.inj _ he0 _ he1 q
  · rw [List.map_map]
    have : (fun e : Stn × (Addr × List Stn) => e.1) ∘ addR y z = fun e => e.1 := funext fun e => addR_1 y z e
    rw [this]
    exact h.keys
  · intro e he
    obtain ⟨e0, he0, rfl⟩ := List.mem_map.mp he
    rw [addR_2]
    exact h.new e0 he0
theorem AHp.found (h : AHp P w K G B d ka bh fo wk J M H BN FN WN) (ap : Apart G B ka bh fo wk) {z : Stn} {FL : List (Stn × Unit)} (h1 : PD P w H fo (sd (fun _ => V.bl true) FL)) (h2 : FL.map (·.1) = FN)
    (p : PdPut P w H fo (sd (fun _ => V.bl true) (FL ++ [(z, ())])) H') : AHp P w K G B d ka bh fo wk J M H' BN (FN ++ [z]) WN := by
  obtain ⟨as, h3, h4⟩ := h.work
  obtain ⟨F, hk⟩ := pd_some h1
  have tk : TK H H' := PdPut.tk h1 p
  have sB : Same B H' := p.own h.same ap.bfo
  refine ⟨sB, h.at_.mv (ap.g.trans sB) (p.2 _ ap.kf) tk, h.bhd.keep (p.2 _ ap.bf) tk, fun e he => ?_, h.inj, h.keys, h.new, ⟨FL ++ [(z, ())], p.1, by rw [List.map_append, h2]; rfl⟩, as, (p.2 _ (Ne.symm ap.fw)).trans h3, stas_tk h4 tk⟩
  obtain ⟨as, q1, q2⟩ := h.rows e he
  exact ⟨as, (p.2 _ (ne_of q1 hk fun z => nomatch z)).trans q1, stas_tk q2 tk⟩
theorem AHp.todo (h : AHp P w K G B d ka bh fo wk J M H BN FN WN) (ap : Apart G B ka bh fo wk) {ys : List V} {as : List Addr} {WN' : List Stn} (hL : H wk = some (.lst ys)) (hS : Paired (StA H) as WN') :
    AHp P w K G B d ka bh fo wk J M (upd H wk (.lst (as.map V.ref))) BN FN WN' := by
  obtain ⟨FL, h1, h2⟩ := h.fnd
  obtain ⟨F, hk⟩ := h.kn
  have tk : TK H (upd H wk (.lst (as.map V.ref))) := h.tk_list hL
  have sB : Same B (upd H wk (.lst (as.map V.ref))) := Same.own h.same ap.bwk
  refine ⟨sB, h.at_.mv (ap.g.trans sB) (upd_ne ap.kw) tk, h.bhd.keep (upd_ne ap.bw) tk, fun e he => ?_, h.inj, h.keys, h.new, ⟨FL, h1.keep (upd_ne ap.fw) tk, h2⟩, as, upd_same, stas_tk hS tk⟩
  obtain ⟨as, q1, q2⟩ := h.rows e he
  exact ⟨as, (upd_ne (h.new e he).2).trans q1, stas_tk q2 tk⟩
end
theorem paired_last {α β : Type} {F : α → β → Prop} : ∀ {ws : List β} {as : List α} {y : β}, Paired F as (ws ++ [y]) → ∃ as0 c, as = as0 ++ [c] ∧ Paired F as0 ws ∧ F c y
  | [], _, y, h => by
    cases h with
    | cons h t =>
      cases t
      exact ⟨[], _, rfl, .nil, h⟩
  | z :: ws, _, y, h => by
    cases h with
    | cons h t =>
      obtain ⟨as0, c, rfl, h2, h3⟩ := paired_last (ws := ws) t
      exact ⟨_ :: as0, c, rfl, .cons h h2, h3⟩
/-- the rows behind, against the standings R; Dn: what is done -/
structure BOk (J : JD) (M : MD) (R : List Stn) (BN : List (Stn × (Addr × List Stn))) (Dn : Stn → Nat × Nat → Prop) (n : Nat) : Prop where
  key : ∀ e ∈ BN, e.1 ∈ R
  snd : ∀ e ∈ BN, ∀ z ∈ e.2.2, z ∈ R ∧ ∃ c, c ∈ nexts J M z ∧ tgt c = e.1
  cmp : ∀ z c, Dn z c → ∃ e, e ∈ BN ∧ e.1 = tgt c ∧ z ∈ e.2.2
  len : ∀ e ∈ BN, e.2.2.length ≤ n
section
variable {J : JD} {M : MD} {R : List Stn} {BN : List (Stn × (Addr × List Stn))} {Dn Dn' : Stn → Nat × Nat → Prop} {n n' : Nat}
theorem BOk.imp (h : BOk J M R BN Dn n) (hd : ∀ z c, Dn' z c → Dn z c) (hn : n ≤ n') : BOk J M R BN Dn' n' := ⟨h.key, h.snd, fun z c q => h.cmp z c (hd z c q), fun e he => Nat.le_trans (h.len e he) hn⟩
theorem BOk.row (h : BOk J M R BN Dn n) {y : Stn} {dl : Addr} (hy : y ∈ R) : BOk J M R (BN ++ [(y, (dl, []))]) Dn n := by
  refine ⟨fun e he => ?_, fun e he z hz => ?_, fun z c q => ?_, fun e he => ?_⟩
  · rcases List.mem_append.mp he with he | he
    · exact h.key e he
    · rw [List.mem_singleton.mp he]
      exact hy
  · rcases List.mem_append.mp he with he | he
    · exact h.snd e he z hz
    · rw [List.mem_singleton.mp he] at hz
      exact nomatch hz
  · obtain ⟨e, he, r⟩ := h.cmp z c q
    exact ⟨e, List.mem_append_left _ he, r⟩
  · rcases List.mem_append.mp he with he | he
    · exact h.len e he
    · rw [List.mem_singleton.mp he]
      exact Nat.zero_le _
theorem BOk.add (h : BOk J M R BN Dn n) {y z : Stn} {c : Nat × Nat} {r : Addr × List Stn} (hb : (y, r) ∈ BN) (hz : z ∈ R) (hc : c ∈ nexts J M z) (hy : tgt c = y) : BOk J M R (BN.map (addR y z)) (fun z' c' => Dn z' c' ∨ (z' = z ∧ c' = c)) (n + 1) := by
  refine ⟨fun e he => ?_, fun e he z' hz' => ?_, fun z' c' q => ?_, fun e he => ?_⟩
  · obtain ⟨e0, he0, rfl⟩ := List.mem_map.mp he
    rw [addR_1]
    exact h.key e0 he0
  · obtain ⟨e0, he0, rfl⟩ := List.mem_map.mp he
    rw [addR_1]
    unfold addR at hz'
    by_cases h0 : e0.1 = y
    · rw [if_pos h0] at hz'
      rcases List.mem_append.mp hz' with hz' | hz'
      · exact h.snd e0 he0 z' hz'
      · rw [List.mem_singleton.mp hz']
        exact ⟨hz, c, hc, hy.trans h0.symm⟩
    · rw [if_neg h0] at hz'
      exact h.snd e0 he0 z' hz'
  · rcases q with q | ⟨rfl, rfl⟩
    · obtain ⟨e, he, r1, r2⟩ := h.cmp z' c' q
      refine ⟨_, List.mem_map.mpr ⟨e, he, rfl⟩, by rw [addR_1]; exact r1, ?_⟩
      unfold addR
      split
      · exact List.mem_append_left _ r2
      · exact r2
    · refine ⟨_, List.mem_map.mpr ⟨_, hb, rfl⟩, by rw [addR_1]; exact hy.symm, ?_⟩
      unfold addR
      rw [if_pos rfl]
      exact List.mem_append_right _ (List.mem_singleton.mpr rfl)
  · obtain ⟨e0, he0, rfl⟩ := List.mem_map.mp he
    have := h.len e0 he0
    unfold addR
    split
    · rw [List.length_append, List.length_singleton]
      omega
    · omega
end
def spAlive (P : Program) (w : World) (K : PySem.W.Frag) : Sp := fun vs H Q _ => ∃ G d ka J M a x, vs = [.ref d, .ref a] ∧ DAt P w K G H d ka J M ∧ JM J M ∧ StA H a x ∧ Vd J M x ∧
  ∀ H' fo FL, Same (wo ka H) H' → DAt P w K G H' d ka J M → wo ka H fo = none → fo ≠ ka → PD P w H' fo (sd (fun _ : Unit => V.bl true) FL) → (∀ y ∈ FL.map (·.1), Live J M y) → (∀ e ∈ nexts J M x, Live J M (tgt e) → tgt e ∈ FL.map (·.1)) → Q (.ref fo) H'
theorem ok_Standings_alive (T : Txt K mg) : MetOk P w K mg base 10 (CD K) "alive" ["self", "start"] (spAlive P w K) := by
  have M_Standings_is_end := ok_Standings_is_end (P := P) (w := w) (base := base) T
  have M_Standings_reached := ok_Standings_reached (P := P) (w := w) (base := base) T
  have M_Standings_steps := ok_Standings_steps (P := P) (w := w) (base := base) T
  refine mk_Standings_alive T (fun vs H Q E h => ?_) (fun f cdv A outer s H vs Q E hr h => ?_)
  · obtain ⟨G, d, ka, J, M, a, x, rfl, _⟩ := h
    rfl
  · obtain ⟨G, d, ka, J, M, a, x, rfl, hD, ok, ha, hx, fin⟩ := h
    refine ⟨_, (pss_cons (ps_st 2 sc_Standings_alive.nd (pdnewK (P := P) (w := w)))
      (pss_cons (ps_st 3 sc_Standings_alive.nd (pdnewK (P := P) (w := w)))
      (pss_cons (ps_st 4 sc_Standings_alive.nd (pe_lst pa_nil))
      (pss_cons (ps_for PassesOwn.never rfl (pi_list (pe_met (pv 0) T.cls_D M_Standings_reached hr (pa_cons (pv 1) pa_nil))) (pg_n 5 sc_Standings_alive.nd)
        (pss_cons (ps_for PassesOwn.never rfl (pi_tup (pe_met (pv 0) T.cls_D M_Standings_steps hr (pa_cons (pv 5) pa_nil))) (ptupK (K := K) (n := 2) rfl (pgs_cons (pg_n 6 sc_Standings_alive.nd) (pgs_cons (pg_n 7 sc_Standings_alive.nd) pgs_nil)))
          (pss_cons (ps_st 8 sc_Standings_alive.nd (pdsetdK (P := P) (w := w) (hu_of hr) (pv 2) (pv 7) (pe_lst pa_nil)))
          (pss_one (ps_expr (bmK (K := K) PySem.F.plainAttrs_list PySem.F.slot_list_append PySem.F.type_list_append mt_append (pv 8) (pa_cons (pv 5) pa_nil))))))
        (pss_one (ps_if (pt_val (pe_met (pv 0) T.cls_D M_Standings_is_end hr (pa_cons (pv 5) pa_nil))) (pss_cons (pdputK (P := P) (w := w) (hu_of hr) (pv 3) (pv 5) pe_bl)
          (pss_one (ps_expr (bmK (K := K) PySem.F.plainAttrs_list PySem.F.slot_list_append PySem.F.type_list_append mt_append (pv 4) (pa_cons (pv 5) pa_nil))))) pss_nil))))
      (pss_cons (ps_while PassesOwn.never (pt_truth (pv 4) (by intro _; rfl)) (pss_one (ps_for PassesOwn.never rfl (pi_list (pdget2K (P := P) (w := w) (hu_of hr) (pv 2) (bm0K (K := K) PySem.F.plainAttrs_list PySem.F.slot_list_pop PySem.F.type_list_pop mt_pop (pv 4)) (pe_lst pa_nil))) (pg_n 5 sc_Standings_alive.nd)
          (pss_one (ps_if (pt_cmp (pdnotinK (P := P) (w := w) (hu_of hr) (pv 5) (pv 3))) (pss_cons (pdputK (P := P) (w := w) (hu_of hr) (pv 3) (pv 5) pe_bl)
            (pss_one (ps_expr (bmK (K := K) PySem.F.plainAttrs_list PySem.F.slot_list_append PySem.F.type_list_append mt_append (pv 4) (pa_cons (pv 5) pa_nil))))) pss_nil)))))
      (pss_one (ps_ret (pv 3)))))))), ?_⟩
    obtain ⟨KN0, hPD0, _⟩ := hD.kn
    obtain ⟨F0, hF0⟩ := pd_some hPD0
    have hGw : Same G (wo ka H) := fun b o e => wo_some (hD.same _ _ e) (ne_of_none e hD.free)
    refine fun bh H1 hbh d1 => ?_
    have s1 : Same H H1 := PdPut.own d1 (Same.refl _) hbh
    refine fun fo H2 hfo d2 => ?_
    have s2 : Same H1 H2 := PdPut.own d2 (Same.refl _) hfo
    refine ⟨Nat.zero_le _, fun wk hwk => ?_⟩
    have s3 : Same H2 (upd H2 wk (.lst [])) := Same.new hwk
    have w3 : (upd H2 wk (.lst [])) wk = some (.lst []) := upd_same
    have s123 := (s1.trans s2).trans s3
    obtain ⟨Fb, eb⟩ := pd_some d1.1
    obtain ⟨Ff, ef⟩ := pd_some d2.1
    have n_bf : bh ≠ fo := ne_of_none eb hfo
    have n_bw : bh ≠ wk := ne_of_none (s2 _ _ eb) hwk
    have n_fw : fo ≠ wk := ne_of_none ef hwk
    have n_kb : ka ≠ bh := ne_of_none hF0 hbh
    have n_kf : ka ≠ fo := ne_of_none (s1 _ _ hF0) hfo
    have n_kw : ka ≠ wk := ne_of_none ((s1.trans s2) _ _ hF0) hwk
    have hb0 : H bh = none := hbh
    have hf0 : H fo = none := s1.free hfo
    have hw0 : H wk = none := (s1.trans s2).free hwk
    have bd3 : PD P w (upd H2 wk (.lst [])) bh [] := d1.1.same (s2.trans s3)
    have fd3 : PD P w (upd H2 wk (.lst [])) fo [] := d2.1.same s3
    generalize (upd H2 wk (.lst [])) = H3 at s3 s123 w3 bd3 fd3
    have hD3 : DAt P w K G H3 d ka J M := hD.mv (hD.same.trans s123) ((s123 _ _ hF0).trans hF0.symm) (TK.of s123)
    obtain ⟨dx, p, q, hob, hJ, hM⟩ := hD.ob
    -- self.reached(start)
    refine ⟨_, rfl, d, dx, _, rfl, hD3.same _ _ hob, sf_no (by decide +kernel), _, rfl, G, d, ka, J, M, a, x, rfl, hD3, ok, s123 _ _ ha, hx, fun H4 l ls R s4 hD4 hl0 hL hLS hnd hvd hxR hcl => ?_⟩
    have F4 : ∃ F, H4 ka = some (.ext F) := let ⟨_, h, _⟩ := hD4.kn; pd_some h
    obtain ⟨F4, e4k⟩ := F4
    have tk4 : TK H3 H4 := wo_tk s4 fun xs z => by
      have := s123 _ _ hF0
      rw [this] at z
      cases z
    have bd4 : PD P w H4 bh [] := bd3.keep (by
      obtain ⟨F, e⟩ := pd_some bd3
      exact (s4 _ _ (wo_some e (Ne.symm n_kb))).trans e.symm) tk4
    have fd4 : PD P w H4 fo [] := fd3.keep (by
      obtain ⟨F, e⟩ := pd_some fd3
      exact (s4 _ _ (wo_some e (Ne.symm n_kf))).trans e.symm) tk4
    have w4 : H4 wk = some (.lst []) := s4 _ _ (wo_some w3 (Ne.symm n_kw))
    obtain ⟨Fb4, eb4⟩ := pd_some bd4
    obtain ⟨Ff4, ef4⟩ := pd_some fd4
    have n_lk : l ≠ ka := ne_of hL e4k fun z => nomatch z
    have n_lb : l ≠ bh := ne_of hL eb4 fun z => nomatch z
    have n_lf : l ≠ fo := ne_of hL ef4 fun z => nomatch z
    have n_lw : l ≠ wk := fun z => by
      rw [z, wo_ne (Ne.symm n_kw), w3] at hl0
      cases hl0
    have hBd : ∃ B, B = wo wk (wo fo (wo bh (wo ka H4))) := ⟨_, rfl⟩
    obtain ⟨B, hB⟩ := hBd
    have mkB : ∀ {b : Addr} {o : HO}, H4 b = some o → b ≠ ka → b ≠ bh → b ≠ fo → b ≠ wk → B b = some o := fun e h1 h2 h3 h4 => by
      rw [hB, wo_ne h4, wo_ne h3, wo_ne h2, wo_ne h1]
      exact e
    have sB4 : Same B H4 := by
      rw [hB]
      exact ((wo_le.trans wo_le).trans wo_le).trans wo_le
    have ap : Apart G B ka bh fo wk := by
      refine ⟨fun b o e => mkB (hD4.same _ _ e) (ne_of_none e hD.free) (ne_of_none (hD.same _ _ e) hb0) (ne_of_none (hD.same _ _ e) hf0) (ne_of_none (hD.same _ _ e) hw0), ?_, ?_, ?_, ?_, n_kb, n_kf, n_kw, n_bf, n_bw, n_fw⟩
      · rw [hB, wo_ne n_kw, wo_ne n_kf, wo_ne n_kb]; exact wo_at
      · rw [hB, wo_ne n_bw, wo_ne n_bf]; exact wo_at
      · rw [hB, wo_ne n_fw]; exact wo_at
      · rw [hB]; exact wo_at
    have hwB : Same (wo ka H) B := fun b o e => by
      have hbk : b ≠ ka := fun z => by rw [z, wo_at] at e; cases e
      have eH := wo_le _ _ e
      have e3 := s123 _ _ eH
      exact mkB (s4 _ _ (wo_some e3 hbk)) hbk (ne_of_none eH hb0) (ne_of_none eH hf0) (ne_of_none eH hw0)
    have hLB : B l = some (.lst (ls.map V.ref)) := mkB hL n_lk n_lb n_lf n_lw
    have hLSB : Paired (StA B) ls R := L2.Paired.mapP hLS fun a c e => mkB e (ne_of e e4k fun z => nomatch z) (ne_of e eb4 fun z => nomatch z) (ne_of e ef4 fun z => nomatch z) (ne_of e w4 fun z => nomatch z)
    have hlen : ls.length = R.length := Paired.length hLS
    have hR : R.length ≤ 1092 := Nat.le_trans (stn_le hnd hvd) (univ_le ok.j ok.m)
    have hn90 : J.n ≤ 90 := by
      have h1 := ok.j.b30
      have h2 := ok.j.p60
      show J.al.length + J.ps.length ≤ 90
      omega
    have hBl : ∀ {BN : List (Stn × (Addr × List Stn))} {Dn : Stn → Nat × Nat → Prop} {n : Nat}, (BN.map (·.1)).Nodup → BOk J M R BN Dn n → BN.length ≤ 1092 := fun {BN Dn n} h1 h2 => by
      have := nodup_len (m := R) h1 fun y hy => by
        obtain ⟨e, he, rfl⟩ := List.mem_map.mp hy
        exact h2.key e he
      rw [List.length_map] at this
      omega
    let fE : Nat → List Stn := fun i => (R.take i).filter fun y => decide (y.2 ∈ M.ends)
    have hI0 : AHp P w K G B d ka bh fo wk J M H4 [] (fE 0) (fE 0) := ⟨sB4, hD4, bd4, (fun e he => nomatch he), (fun e he => nomatch he), .nil, (fun e he => nomatch he), ⟨[], fd4, rfl⟩, [], w4, .nil⟩
    refine ⟨l, rfl, ⟨_, SqL.of hL⟩, for_list (K := K) (xs := ls.map V.ref) (fun i σ' H' => ∃ y5 y6 y7 y8 BN, σ' = [some (.ref d), some (.ref a), some (.ref bh), some (.ref fo), some (.ref wk), y5, y6, y7, y8] ∧ AHp P w K G B d ka bh fo wk J M H' BN (fE i) (fE i) ∧ BOk J M R BN (fun z c => z ∈ R.take i ∧ c ∈ nexts J M z) (i * 90))
      ⟨none, none, none, none, [], rfl, hI0, ⟨(fun e he => nomatch he), (fun e he => nomatch he), (fun z c q => nomatch q.1), (fun e he => nomatch he)⟩⟩ (fun i σ' H' _ ⟨_, _, _, _, _, _, h, _⟩ => SqL.of (h.same _ _ hLB)) ?_ ?_⟩
    · rintro i v σ' H' hv ⟨y5, y6, y7, y8, BN, rfl, hI, hBO⟩
      rw [List.getElem?_map] at hv
      obtain ⟨c0, hc0, rfl⟩ := Option.map_eq_some_iff.mp hv
      obtain ⟨z, hz, hcz⟩ := paired_get' hLSB hc0
      have hzR : z ∈ R := List.mem_of_getElem? hz
      have hzv := hvd z hzR
      have hiR : i < R.length := (List.getElem?_eq_some_iff.mp hz).1
      refine ⟨_, rfl, d, dx, _, rfl, hI.at_.same _ _ hob, sf_no (by decide +kernel), _, rfl, G, d, ka, J, M, c0, z, rfl, hI.at_, ok, hI.same _ _ hcz, hzv, fun H5 t s5 hD5 hV5 => ?_⟩
      have hI5 := hI.steps ap s5 hD5
      obtain ⟨ts, ht, hts⟩ := hV5
      refine ⟨t, rfl, ⟨_, SqT.of ht⟩, for_tup (K := K) (xs := ts.map V.ref) (fun j σ' H' => ∃ y6 y7 y8 BN, σ' = [some (.ref d), some (.ref a), some (.ref bh), some (.ref fo), some (.ref wk), some (.ref c0), y6, y7, y8] ∧ AHp P w K G B d ka bh fo wk J M H' BN (fE i) (fE i) ∧ TK H5 H' ∧
          BOk J M R BN (fun z' c => (z' ∈ R.take i ∧ c ∈ nexts J M z') ∨ (z' = z ∧ c ∈ (nexts J M z).take j)) (i * 90 + j))
        ⟨y6, y7, y8, BN, rfl, hI5, TK.refl _, hBO.imp (fun z' c h => h.elim id fun h => by simp at h) (Nat.le_refl _)⟩ (fun j σ' H' _ ⟨_, _, _, _, _, _, tk, _⟩ => SqT.of (tk _ _ ht)) ?_ ?_⟩
      · rintro j v σ' H6 hv ⟨y6, y7, y8, BN, rfl, hI6, tk6, hBO6⟩
        rw [List.getElem?_map] at hv
        obtain ⟨a1, ha1, rfl⟩ := Option.map_eq_some_iff.mp hv
        obtain ⟨c, hc, b, hab, hb⟩ := paired_get' hts ha1
        have hcm : c ∈ nexts J M z := List.mem_of_getElem? hc
        have hj : j < 90 := Nat.lt_of_lt_of_le (List.getElem?_eq_some_iff.mp hc).1 (Nat.le_trans (nexts_len J M z) hn90)
        refine ⟨a1, _, rfl, SqT.of (tk6 _ _ hab), rfl, _, _, rfl, _, _, rfl, rfl, ?_⟩
        -- the append
        have cont : ∀ (H7 : Hp) (BN7 : List (Stn × (Addr × List Stn))) (rb : Addr) (xs : List Stn) (N : L2.St → Hp → Prop) (D : Ends), AHp P w K G B d ka bh fo wk J M H7 BN7 (fE i) (fE i) → TK H5 H7 →
            BOk J M R BN7 (fun z' c => (z' ∈ R.take i ∧ c ∈ nexts J M z') ∨ (z' = z ∧ c ∈ (nexts J M z).take j)) (i * 90 + j) → (tgt c, (rb, xs)) ∈ BN7 → D.nx = N →
            (∀ y6 y7 y8 BN H', AHp P w K G B d ka bh fo wk J M H' BN (fE i) (fE i) → TK H5 H' → BOk J M R BN (fun z' c => (z' ∈ R.take i ∧ c ∈ nexts J M z') ∨ (z' = z ∧ c ∈ (nexts J M z).take (j + 1))) (i * 90 + (j + 1)) → N [some (.ref d), some (.ref a), some (.ref bh), some (.ref fo), some (.ref wk), some (.ref c0), y6, y7, y8] H') →
            tDrop (tBM K "list" rAppend (tVar 8) (tCons (tVar 5) tNil)) D [some (.ref d), some (.ref a), some (.ref bh), some (.ref fo), some (.ref wk), some (.ref c0), some (nI c.1), some (.ref b), some (.ref rb)] H7 := by
          intro H7 BN7 rb xs N D h7 tk7 b7 hm hDn hN
          obtain ⟨as7, hL7, hS7⟩ := h7.rows _ hm
          have hxl : as7.length = xs.length := Paired.length hS7
          have hxn : xs.length ≤ i * 90 + j := b7.len _ hm
          refine ⟨_, rfl, .inl ⟨rfl, _, SqL.of hL7⟩, _, rfl, rb, as7.map V.ref, _, rfl, rfl, hL7, by rw [List.length_map]; exact small_lt (by omega), ?_⟩
          show D.nx _ _
          rw [hDn]
          refine hN _ _ _ _ _ (h7.add ap hm hL7 hS7 (h7.same _ _ hcz)) (tk7.trans (h7.tk_list hL7)) ((b7.add hm hzR hcm rfl).imp (fun z' c' h => ?_) (Nat.le_refl _))
          rcases h with h | ⟨h1, h2⟩
          · exact .inl (.inl h)
          · rcases (mem_take_succ hc).mp h2 with h2 | h2
            · exact .inl (.inr ⟨h1, h2⟩)
            · exact .inr ⟨h1, h2⟩
        have hbn := hBl hI6.keys hBO6
        refine ⟨_, rfl, bh, _, rfl, hI6.bhd, _, rfl, Nat.zero_le _, fun dl hdl => ?_⟩
        have snew : Same H6 (upd H6 dl (.lst [])) := Same.new hdl
        have hI7 := hI6.ext snew
        have tk7 : TK H5 (upd H6 dl (.lst [])) := tk6.trans (TK.of snew)
        have hd7 : (upd H6 dl (.lst [])) dl = some (.lst []) := upd_same
        have hdB : B dl = none := hI6.same.free hdl
        have hdw : dl ≠ wk := fun z => by
          obtain ⟨as, q1, _⟩ := hI6.work
          rw [z, q1] at hdl
          cases hdl
        have hdn : ∀ e ∈ BN, e.2.1 ≠ dl := fun e he z => by
          obtain ⟨as, q1, _⟩ := hI6.rows e he
          rw [z, hdl] at q1
          cases q1
        generalize (upd H6 dl (.lst [])) = H7 at snew hI7 tk7 hd7
        refine ⟨b, stK (tgt c), _, rfl, hI7.bhd, (tk7 _ _ hb |> fun h => (show StA H7 b (tgt c) from h).key), by rw [sd_len]; exact small_lt (by omega), fun v hv => ?_, fun hn H8 d8 => ?_⟩
        · rw [sd_val] at hv
          obtain ⟨r, hr, rfl⟩ := Option.map_eq_some_iff.mp hv
          exact cont H7 BN r.1 r.2 _ _ hI7 tk7 hBO6 (gt_mem hr) rfl fun y6 y7 y8 BN H' h1 h2 h3 => ⟨y6, y7, y8, BN, rfl, h1, h2, h3⟩
        · rw [sd_val] at hn
          have hg : gt BN (tgt c) = none := by
            cases e : gt BN (tgt c) with
            | none => rfl
            | some v => rw [e] at hn; cases hn
          rw [show V.ref dl = (fun e : Addr × List Stn => V.ref e.1) (dl, []) from rfl, sd_put _ hg] at d8
          have hI8 := hI7.row ap (gt_none.mp hg) hd7 hdB hdw hdn d8
          have tk8 : TK H7 H8 := PdPut.tk hI7.bhd d8
          exact cont H8 _ dl [] _ _ hI8 (tk7.trans tk8) (hBO6.row (hcl z hzR c hcm)) (List.mem_append_right _ (List.mem_singleton.mpr rfl)) rfl fun y6 y7 y8 BN H' h1 h2 h3 => ⟨y6, y7, y8, BN, rfl, h1, h2, h3⟩
      · rintro σ' H6 ⟨y6, y7, y8, BN, rfl, hI6, tk6, hBO6⟩
        have htl : ts.length = (nexts J M z).length := Paired.length hts
        have hnl := nexts_len J M z
        rw [List.length_map, htl, List.take_length] at hBO6
        have hBO7 : BOk J M R BN (fun z c => z ∈ R.take (i + 1) ∧ c ∈ nexts J M z) ((i + 1) * 90) := hBO6.imp (fun z' c' h => by
          rcases (mem_take_succ hz).mp h.1 with h1 | h1
          · exact .inl ⟨h1, h.2⟩
          · rw [h1] at h
            exact .inr ⟨h1, h.2⟩) (by omega)
        have hcz6 : StA H6 c0 z := hI6.same _ _ hcz
        refine ⟨_, rfl, d, dx, _, rfl, hI6.at_.same _ _ hob, sf_no (by decide +kernel), _, rfl, G, d, ka, J, M, c0, z, rfl, hI6.at_, hcz6, _, rfl, ?_⟩
        have hfe : fE (i + 1) = fE i ++ (if decide (z.2 ∈ M.ends) = true then [z] else []) := by
          show (R.take (i + 1)).filter _ = _
          rw [List.take_add_one, hz, List.filter_append, show (some z).toList = [z] from rfl, List.filter_cons, List.filter_nil]
        by_cases hend : z.2 ∈ M.ends
        · rw [decide_eq_true hend] at hfe ⊢
          refine iteT ?_
          have hfe2 : fE (i + 1) = fE i ++ [z] := hfe
          obtain ⟨FL, hF1, hF2⟩ := hI6.fnd
          have hnz : z ∉ fE i := fun h => by
            have h1 := (List.mem_filter.mp h).1
            obtain ⟨k, hk⟩ := List.mem_iff_getElem?.mp h1
            have hki : k < i := by
              have := (List.getElem?_eq_some_iff.mp hk).1
              rw [List.length_take] at this
              omega
            rw [List.getElem?_take_of_lt hki] at hk
            have := nd_ix hnd hk hz
            omega
          have hfl : FL.length ≤ i := by
            have h1 : FL.length = (fE i).length := by rw [← hF2, List.length_map]
            have h2 := List.length_filter_le (fun y : Stn => decide (y.2 ∈ M.ends)) (R.take i)
            rw [List.length_take] at h2
            have h3 : (fE i).length ≤ min i R.length := h2
            omega
          refine ⟨_, rfl, _, rfl, fo, c0, stK z, _, rfl, rfl, hF1, hcz6.key, by rw [sd_len]; exact small_lt (by omega), fun H7 d7 => ?_⟩
          rw [show V.bl true = (fun _ : Unit => V.bl true) () from rfl, sd_put _ (gt_none.mpr (by rw [hF2]; exact hnz))] at d7
          have hI7 := hI6.found ap hF1 hF2 d7
          obtain ⟨ws, hW7, hWS7⟩ := hI7.work
          have hwl : ws.length = (fE i).length := Paired.length hWS7
          have hfl2 : FL.length = (fE i).length := by rw [← hF2, List.length_map]
          refine ⟨_, rfl, .inl ⟨rfl, _, SqL.of hW7⟩, _, rfl, wk, ws.map V.ref, _, rfl, rfl, hW7, by rw [List.length_map]; exact small_lt (by omega), ?_⟩
          have hI8 := hI7.todo ap (as := ws ++ [c0]) hW7 (Paired.snoc hWS7 (hI7.same _ _ hcz))
          refine ⟨_, _, _, _, BN, rfl, ?_, hBO7⟩
          rw [hfe2]
          rw [List.map_append] at hI8
          exact hI8
        · rw [decide_eq_false hend] at hfe ⊢
          have hfe2 : fE (i + 1) = fE i := hfe.trans (List.append_nil _)
          refine iteF ⟨_, _, _, _, BN, rfl, ?_, hBO7⟩
          rw [hfe2]
          exact hI6
    · rintro σ' H' ⟨y5, y6, y7, y8, BN, rfl, hI, hBO⟩
      rw [List.length_map, hlen] at hI hBO
      have hfR : fE R.length = R.filter fun y => decide (y.2 ∈ M.ends) := by
        show (R.take R.length).filter _ = _
        rw [List.take_length]
      rw [hfR] at hI
      rw [List.take_length] at hBO
      have hfm : ∀ {y : Stn}, y ∈ R.filter (fun y => decide (y.2 ∈ M.ends)) ↔ y ∈ R ∧ y.2 ∈ M.ends := fun {y} => by
        rw [List.mem_filter]
        exact and_congr_right fun _ => decide_eq_true_iff
      refine ⟨fun m σ' H' => ∃ y5 y6 y7 y8 FN WN, σ' = [some (.ref d), some (.ref a), some (.ref bh), some (.ref fo), some (.ref wk), y5, y6, y7, y8] ∧ AHp P w K G B d ka bh fo wk J M H' BN FN WN ∧ FN.Nodup ∧ (∀ y ∈ FN, y ∈ R) ∧ (∀ y ∈ FN, Live J M y) ∧
          (∀ y ∈ R, y.2 ∈ M.ends → y ∈ FN) ∧ (∀ y ∈ WN, y ∈ FN) ∧ (∀ y ∈ FN, y ∈ WN ∨ ∀ z ∈ R, ∀ c ∈ nexts J M z, tgt c = y → z ∈ FN) ∧ m + FN.length = WN.length + 1092 ∧ m ≤ 1092,
        ⟨1092, y5, y6, y7, y8, _, _, rfl, hI, List.Pairwise.filter _ hnd, fun y hy => (hfm.mp hy).1, fun y hy => .fin (hfm.mp hy).2, fun y h1 h2 => hfm.mpr ⟨h1, h2⟩, fun y hy => hy, fun y hy => .inl hy, Nat.add_comm _ _, Nat.le_refl _⟩, ?_⟩
      rintro m σ' H' ⟨y5, y6, y7, y8, FN, WN, rfl, hI, hFn, hFR, hFL, hFE, hWF, hFC, hm, hm92⟩
      have hFl : FN.length ≤ 1092 := by
        have := nodup_len (m := R) hFn hFR
        omega
      obtain ⟨ws, hW, hWS⟩ := hI.work
      rcases List.eq_nil_or_concat WN with hWe | ⟨W0, y, hWe⟩
      · -- nothing is to do
        rw [hWe] at hWS
        cases hWS
        refine ⟨_, rfl, false, .inl ⟨_, SqL.of hW, rfl⟩, iteF ?_⟩
        obtain ⟨FL, hF1, hF2⟩ := hI.fnd
        refine ⟨_, rfl, fin _ fo FL (hwB.trans hI.same) hI.at_ (wo_le.free hf0) (Ne.symm n_kf) hF1 (fun y hy => hFL y (by rw [hF2] at hy; exact hy)) fun e he hl => ?_⟩
        rw [hF2]
        refine live_in hcl hFE (fun z hz c hc hcf => ?_) hl (hcl x hxR e he)
        rcases hFC _ hcf with h | h
        · rw [hWe] at h
          exact nomatch h
        · exact h z hz c hc rfl
      · have hWe : WN = W0 ++ [y] := by rw [hWe, List.concat_eq_append]
        subst hWe
        obtain ⟨as0, c, rfl, hS0, hcy⟩ := paired_last hWS
        have hyF : y ∈ FN := hWF y (List.mem_append_right _ (List.mem_singleton.mpr rfl))
        have hyR := hFR y hyF
        rw [List.length_append, List.length_singleton] at hm
        obtain ⟨m, rfl⟩ : ∃ m', m = m' + 1 := ⟨m - 1, by omega⟩
        refine ⟨_, rfl, true, .inl ⟨_, SqL.of hW, by simp⟩, iteT ?_⟩
        refine ⟨_, fun σ' H' h => ⟨m, Nat.lt_succ_self _, h⟩, ?_⟩
        have hbn := hBl hI.keys hBO
        have hW2 : H' wk = some (.lst (as0.map V.ref ++ [.ref c])) := by rw [hW, List.map_append]; rfl
        refine ⟨_, rfl, bh, _, rfl, hI.bhd, _, rfl, .inl ⟨rfl, _, SqL.of hW2⟩, wk, _, .ref c, rfl, rfl, hW2, by simp, ?_⟩
        rw [List.dropLast_concat]
        have hI2 := hI.todo ap (as := as0) hW hS0
        have tk2 := hI.tk_list (ys := as0.map V.ref) hW
        have hcy2 : StA _ c y := hcy.tk tk2
        generalize (upd H' wk (.lst (as0.map V.ref))) = H5 at hI2 tk2 hcy2
        refine ⟨Nat.zero_le _, fun dl hdl => ?_⟩
        have snew : Same H5 (upd H5 dl (.lst [])) := Same.new hdl
        have hI6 := hI2.ext snew
        have hcy6 := hcy2.tk (TK.of snew)
        have hd6 : (upd H5 dl (.lst [])) dl = some (.lst []) := upd_same
        have hdw : dl ≠ wk := fun z => by
          obtain ⟨as, q1, _⟩ := hI2.work
          rw [z, q1] at hdl
          cases hdl
        generalize (upd H5 dl (.lst [])) = H6 at snew hI6 hcy6 hd6
        refine ⟨c, stK y, _, rfl, hI6.bhd, hcy6.key, ?_⟩
        rw [sd_val]
        -- the row to walk
        have cont : ∀ (r : Addr) (as : List Addr) (xs : List Stn), H6 r = some (.lst (as.map V.ref)) → Paired (StA H6) as xs → r ≠ wk → (∀ z ∈ xs, z ∈ R ∧ ∃ c, c ∈ nexts J M z ∧ tgt c = y) → (∀ z ∈ R, ∀ c ∈ nexts J M z, tgt c = y → z ∈ xs) →
            ∀ (N : L2.St → Hp → Prop), (∀ y5 y6 y7 y8 H7 FN WN, AHp P w K G B d ka bh fo wk J M H7 BN FN WN → FN.Nodup → (∀ y ∈ FN, y ∈ R) → (∀ y ∈ FN, Live J M y) → (∀ y ∈ R, y.2 ∈ M.ends → y ∈ FN) → (∀ y ∈ WN, y ∈ FN) → (∀ y ∈ FN, y ∈ WN ∨ ∀ z ∈ R, ∀ c ∈ nexts J M z, tgt c = y → z ∈ FN) →
              m + FN.length = WN.length + 1092 → N [some (.ref d), some (.ref a), some (.ref bh), some (.ref fo), some (.ref wk), y5, y6, y7, y8] H7) → ∀ (D : Ends), D.nx = N →
            ForB (gName 5) (tIfS (tB (tPdNotIn P w (tVar 5) (tVar 3))) (tSeq (sPdPut P w (tVar 3) (tVar 5) (tC (V.bl true))) (tDrop (tBM K "list" rAppend (tVar 4) (tCons (tVar 5) tNil)))) tNext) D (Itl K r) [some (.ref d), some (.ref a), some (.ref bh), some (.ref fo), some (.ref wk), y5, y6, y7, y8] H6 := by
          intro r as xs hr hrs hrw hx1 hx2 N hN D hDn
          have hasl : as.length = xs.length := Paired.length hrs
          refine for_list (K := K) (xs := as.map V.ref) (fun j σ' H7 => ∃ y5 y6 y7 y8 FN' WN', σ' = [some (.ref d), some (.ref a), some (.ref bh), some (.ref fo), some (.ref wk), y5, y6, y7, y8] ∧ AHp P w K G B d ka bh fo wk J M H7 BN FN' WN' ∧ H7 r = some (.lst (as.map V.ref)) ∧ TK H6 H7 ∧ FN'.Nodup ∧ (∀ z ∈ FN, z ∈ FN') ∧ (∀ z ∈ FN', z ∈ R) ∧ (∀ z ∈ FN', Live J M z) ∧ (∀ z ∈ WN', z ∈ FN') ∧
              (∀ u ∈ FN', u ∈ WN' ∨ u = y ∨ ∀ z ∈ R, ∀ c ∈ nexts J M z, tgt c = u → z ∈ FN') ∧ (∀ z ∈ xs.take j, z ∈ FN') ∧ m + FN'.length = WN'.length + 1092)
            ⟨y5, y6, y7, y8, FN, W0, rfl, hI6, hr, TK.refl _, hFn, fun z hz => hz, hFR, hFL, fun z hz => hWF z (List.mem_append_left _ hz), fun u hu => ?_, fun z hz => by simp at hz, by omega⟩ (fun j σ' H7 _ ⟨_, _, _, _, _, _, _, _, h, _⟩ => SqL.of h) ?_ ?_
          · rcases hFC u hu with h | h
            · rcases List.mem_append.mp h with h | h
              · exact .inl h
              · exact .inr (.inl (List.mem_singleton.mp h))
            · exact .inr (.inr h)
          · rintro j v σ' H7 hv ⟨y5, y6, y7, y8, FN', WN', rfl, hI7, hr7, tk7, hn7, hs7, hR7, hL7, hW7, hC7, hx7, hm7⟩
            rw [List.getElem?_map] at hv
            obtain ⟨c1, hc1, rfl⟩ := Option.map_eq_some_iff.mp hv
            obtain ⟨z, hz, hcz⟩ := paired_get' hrs hc1
            have hcz7 : StA H7 c1 z := tk7 _ _ hcz
            obtain ⟨FL, hF1, hF2⟩ := hI7.fnd
            obtain ⟨hzR, c2, hc2, hc2y⟩ := hx1 z (List.mem_of_getElem? hz)
            have hfl : FL.length = FN'.length := by rw [← hF2, List.length_map]
            have hF7 : FN'.length ≤ 1092 := by
              have := nodup_len (m := R) hn7 hR7
              omega
            refine ⟨_, rfl, _, rfl, fo, c1, stK z, _, rfl, rfl, hF1, hcz7.key, _, rfl, ?_⟩
            rw [sd_isSome, hF2]
            by_cases hin : z ∈ FN'
            · rw [decide_eq_true hin]
              refine iteF ⟨_, y6, y7, y8, FN', WN', rfl, hI7, hr7, tk7, hn7, hs7, hR7, hL7, hW7, hC7, fun u hu => ?_, hm7⟩
              rcases (mem_take_succ hz).mp hu with h | h
              · exact hx7 u h
              · rw [h]
                exact hin
            · rw [decide_eq_false hin]
              refine iteT ?_
              refine ⟨_, rfl, _, rfl, fo, c1, stK z, _, rfl, rfl, hF1, hcz7.key, by rw [sd_len]; exact small_lt (by omega), fun H8 d8 => ?_⟩
              rw [show V.bl true = (fun _ : Unit => V.bl true) () from rfl, sd_put _ (gt_none.mpr (by rw [hF2]; exact hin))] at d8
              have hI8 := hI7.found ap hF1 hF2 d8
              have tk8 : TK H7 H8 := PdPut.tk hF1 d8
              have hr8 : H8 r = some (.lst (as.map V.ref)) := by
                obtain ⟨F, e⟩ := pd_some hF1
                exact (d8.2 r (ne_of hr7 e fun z => nomatch z)).trans hr7
              obtain ⟨ws8, hW8, hWS8⟩ := hI8.work
              have hwl8 : ws8.length = WN'.length := Paired.length hWS8
              have hwl9 : WN'.length ≤ 1092 + m := by omega
              have hmm : m ≤ 1092 := by omega
              refine ⟨_, rfl, .inl ⟨rfl, _, SqL.of hW8⟩, _, rfl, wk, ws8.map V.ref, _, rfl, rfl, hW8, by rw [List.length_map]; exact small_lt (by omega), ?_⟩
              have hI9 := hI8.todo ap (as := ws8 ++ [c1]) hW8 (Paired.snoc hWS8 (hcz7.tk tk8))
              rw [List.map_append] at hI9
              have tk9 : TK H8 (upd H8 wk (.lst (ws8.map V.ref ++ [.ref c1]))) := hI8.tk_list hW8
              refine ⟨_, y6, y7, y8, FN' ++ [z], WN' ++ [z], rfl, hI9, (upd_ne hrw).trans hr8, (tk7.trans tk8).trans tk9, ?_, fun u hu => List.mem_append_left _ (hs7 u hu), fun u hu => ?_, fun u hu => ?_, fun u hu => ?_, fun u hu => ?_, fun u hu => ?_, by rw [List.length_append, List.length_append]; simp only [List.length_singleton]; omega⟩
              · rw [List.nodup_append]
                exact ⟨hn7, by simp, fun u hu v hv q => by rw [List.mem_singleton.mp hv] at q; rw [q] at hu; exact hin hu⟩
              · rcases List.mem_append.mp hu with h | h
                · exact hR7 u h
                · rw [List.mem_singleton.mp h]
                  exact hzR
              · rcases List.mem_append.mp hu with h | h
                · exact hL7 u h
                · rw [List.mem_singleton.mp h]
                  exact .step hc2 (by rw [hc2y]; exact hFL y hyF)
              · rcases List.mem_append.mp hu with h | h
                · exact List.mem_append_left _ (hW7 u h)
                · exact List.mem_append_right _ h
              · rcases List.mem_append.mp hu with h | h
                · rcases hC7 u h with h | h | h
                  · exact .inl (List.mem_append_left _ h)
                  · exact .inr (.inl h)
                  · exact .inr (.inr fun z' hz' c' hc' q => List.mem_append_left _ (h z' hz' c' hc' q))
                · exact .inl (List.mem_append_right _ h)
              · rcases (mem_take_succ hz).mp hu with h | h
                · exact List.mem_append_left _ (hx7 u h)
                · rw [h]
                  exact List.mem_append_right _ (List.mem_singleton.mpr rfl)
          · rintro σ' H7 ⟨y5, y6, y7, y8, FN', WN', rfl, hI7, hr7, tk7, hn7, hs7, hR7, hL7, hW7, hC7, hx7, hm7⟩
            rw [List.length_map, hasl, List.take_length] at hx7
            rw [hDn]
            refine hN y5 y6 y7 y8 H7 FN' WN' hI7 hn7 hR7 hL7 (fun u h1 h2 => hs7 u (hFE u h1 h2)) hW7 (fun u hu => ?_) hm7
            rcases hC7 u hu with h | h | h
            · exact .inl h
            · refine .inr fun z hz c hc q => hx7 z (hx2 z hz c hc (q.trans h))
            · exact .inr h
        cases hg : gt BN y with
        | some r =>
          have hm2 := gt_mem hg
          obtain ⟨as, q1, q2⟩ := hI6.rows _ hm2
          refine ⟨r.1, rfl, ⟨_, SqL.of q1⟩, cont r.1 as r.2 q1 q2 (hI6.new _ hm2).2 (hBO.snd _ hm2) (fun z hz c hc hcy => ?_) _ (fun y5 y6 y7 y8 H7 FN WN h1 h2 h3 h4 h5 h6 h7 h8 => ⟨y5, y6, y7, y8, FN, WN, rfl, h1, h2, h3, h4, h5, h6, h7, h8, by omega⟩) _ rfl⟩
          obtain ⟨e, he, r1, r2⟩ := hBO.cmp z c ⟨hz, hc⟩
          have : e = (y, r) := by
            obtain ⟨i, hi⟩ := List.mem_iff_getElem?.mp he
            obtain ⟨j, hj⟩ := List.mem_iff_getElem?.mp hm2
            have hi2 : (BN.map (·.1))[i]? = some y := by rw [List.getElem?_map, hi]; exact congrArg some (r1.trans hcy)
            have hj2 : (BN.map (·.1))[j]? = some y := by rw [List.getElem?_map, hj]; rfl
            have := nd_ix hI6.keys hi2 hj2
            rw [this, hj] at hi
            exact (Option.some.inj hi).symm
          rw [this] at r2
          exact r2
        | none =>
          refine ⟨dl, rfl, ⟨_, SqL.of hd6⟩, cont dl [] [] hd6 .nil hdw (fun z hz => nomatch hz) (fun z hz c hc hcy => ?_) _ (fun y5 y6 y7 y8 H7 FN WN h1 h2 h3 h4 h5 h6 h7 h8 => ⟨y5, y6, y7, y8, FN, WN, rfl, h1, h2, h3, h4, h5, h6, h7, h8, by omega⟩) _ rfl⟩
          obtain ⟨e, he, r1, r2⟩ := hBO.cmp z c ⟨hz, hc⟩
          exact absurd (List.mem_map.mpr ⟨e, he, r1.trans hcy⟩) (gt_none.mp hg)
end
end J

set_option Elab.async false
set_option linter.all false
set_option maxRecDepth 100000
set_option maxHeartbeats 4000000
/-! Walks: what may stand next, whether it may end, the shortest end. -/
namespace J
open PySem PySem.Spec PyProof.Rows L2
/-- the standing of a row -/
def sOf (J : JD) (M : MD) (R : List Nat) : Option Stn := (M.run (some M.start) (flat J.al.length J.ps R)).map fun s => (R.getLast?, s)
def StV (H : Hp) (v : V) : Option Stn → Prop
  | none => v = .non
  | some x => ∃ a, v = .ref a ∧ StA H a x
theorem flat_len {J : JD} (ok : J.Ok) : ∀ {R : List Nat}, (∀ x ∈ R, x < J.al.length + J.ps.length) → (flat J.al.length J.ps R).length ≤ 40 * R.length
  | [], _ => Nat.le_refl _
  | x :: R, h => by
    have h1 := ok.short x (h x (List.mem_cons_self ..))
    have h2 := flat_len ok (R := R) fun y hy => h y (List.mem_cons_of_mem _ hy)
    rw [flat_cons, List.length_append, List.length_cons]
    omega
/-- a row of pieces that is a cut -/
structure RowOk (J : JD) (R : List Nat) : Prop where
  lt : ∀ x ∈ R, x < J.al.length + J.ps.length
  ch : Chain J.al.length J.ps R
  len : R.length ≤ 2000
theorem sOf_vd {J : JD} {M : MD} (ok : JM J M) {R : List Nat} (hR : RowOk J R) {x : Stn} (h : sOf J M R = some x) : Vd J M x := by
  unfold sOf at h
  obtain ⟨s, hs, rfl⟩ := Option.map_eq_some_iff.mp h
  refine ⟨fun l hl => hR.lt l (List.mem_of_getLast? hl), ?_⟩
  exact MD.run_in ok.m _ (some M.start) (fun s hs => by cases hs; exact ok.m.start) _ hs
def mayB (J : JD) (M : MD) (R : List Nat) : Bool := (sOf J M R).elim false fun x => decide (x.2 ∈ M.ends)
noncomputable def letsOf (J : JD) (M : MD) (R : List Nat) : List Nat := (sOf J M R).elim [] fun x => ((nexts J M x).filter fun e => liveB J M (tgt e)).map (·.1)
section
variable {P : Program} {w : World} {K : PySem.W.Frag} {mg : Str → Option Value} {base : Heap}
def spStandingOf (P : Program) (w : World) (K : PySem.W.Frag) : Sp := fun vs H Q _ => ∃ p q r J M R, vs = [.ref p, .ref q, .ref r] ∧ JIs P w K H p J ∧ MIs K H q M ∧ JM J M ∧ SqA K H r (nIs R) ∧ RowOk J R ∧ ∀ H' v, Same H H' → StV H' v (sOf J M R) → Q v H'
theorem ok_standing_of (T : Txt K mg) : DefOk P w K mg base 9 "standing_of" ["joins", "machine", "row"] (spStandingOf P w K) := by
  have D_is_cut := ok_is_cut (P := P) (w := w) (base := base) T
  have D_text_of_row := ok_text_of_row (P := P) (w := w) (base := base) T
  have M_Machine_after := ok_Machine_after (P := P) (w := w) (base := base) T
  refine mk_standing_of T (fun vs H Q E h => ?_) (fun f cdv A outer s H vs Q E hr h => ?_)
  · obtain ⟨p, q, r, J, M, R, rfl, _⟩ := h
    rfl
  · obtain ⟨p, q, r, J, M, R, rfl, hJ, hM, ok, hS, hR, fin⟩ := h
    refine ⟨_, (pss_cons (ps_if (pt_not (pt_val (pe_def D_is_cut hr (pa_cons (pv 0) (pa_cons (pv 2) pa_nil))))) (pss_one ps_never) pss_nil)
      (pss_cons (ps_st 3 sc_standing_of.nd (pe_met (pv 1) T.cls_M M_Machine_after hr (pa_cons (fldK (K := K) (pv 1)) (pa_cons (pe_def D_text_of_row hr (pa_cons (pv 0) (pa_cons (pv 2) pa_nil))) pa_nil))))
      (pss_cons (ps_if (pt_cmpR op_isN (pv 3) pe_non (nomark _)) (pss_one (ps_ret pe_non)) pss_nil)
      (pss_one (ps_ret (pe_tup (pa_cons (pe_ifExp (pt_cmpR op_gt (pe_callB (lenK (K := K)) rfl T.b_len PySem.boot_len (pa_cons (pv 2) pa_nil)) pe_int (nomark _)) (pe_ix (ix_seqK (K := K)) (pv 2) (pe_un un_neg pe_int) (fun _ _ => rfl)) pe_non) (pa_cons (pv 3) pa_nil)))))))), ?_⟩
    refine ⟨_, rfl, _, rfl, p, J, r, R, rfl, hJ, ok.j, hS, hR.lt, hR.ch, hR.len, fun H1 s1 => ⟨_, rfl, iteF ?_⟩⟩
    obtain ⟨mdx, mea, msa, mes, mrs, hA⟩ := hM.same s1
    refine ⟨_, rfl, q, mdx, _, rfl, hA.ob, mf_no (by decide +kernel), _, rfl, q, _, mdx, _, _, rfl, hA.ob, T.cls_M, T.no_M_start, mf_start, _, rfl, _, rfl, p, J, r, R, rfl, hJ.same s1, ok.j, hS.same s1, hR.lt, hR.len, fun H2 s2 => ?_⟩
    refine ⟨q, M, some M.start, flat J.al.length J.ps R, by rw [ok.al]; rfl, (hM.same s1).same s2, ok.m, fun s hs => by cases hs; exact ok.m.start, ?_, ?_, fun H3 s3 => ?_⟩
    · rw [ok.al]
      exact ok.j.prop.flat_in hR.lt
    · have := flat_len ok.j hR.lt
      have := hR.len
      omega
    have hS3 := ((hS.same s1).same s2).same s3
    have sall := (s1.trans s2).trans s3
    cases hrun : M.run (some M.start) (flat J.al.length J.ps R) with
    | none =>
      refine ⟨_, rfl, rfl, _, rfl, iteT (fin _ _ sall ?_)⟩
      unfold sOf
      rw [hrun]
      rfl
    | some st =>
      refine ⟨_, rfl, rfl, _, rfl, iteF ?_⟩
      have hso : sOf J M R = some (R.getLast?, st) := by
        unfold sOf
        rw [hrun]
        rfl
      rw [hso] at fin
      refine ⟨_, rfl, r, _, rfl, hS3, _, _, rfl, rfl, _, rfl, ?_⟩
      rw [nIs_len]
      refine ite2 (fun h1 => ?_) fun h1 => ?_
      · have h1 : 0 < R.length := by
          have := of_decide_eq_true h1
          omega
        have hl : R[R.length - 1]? = some (R.getLast (List.length_pos_iff.mp h1)) := by
          rw [List.getLast_eq_getElem]
          exact List.getElem?_eq_getElem (by omega)
        refine ⟨_, rfl, _, rfl, ix_A hS3 (v := nI (R.getLast (List.length_pos_iff.mp h1))) ?_ ⟨_, rfl, two_ok, fun t ht => ?_⟩⟩
        · have e := List.dropLast_concat_getLast (List.length_pos_iff.mp h1)
          have e2 : nIs R = nIs R.dropLast ++ [nI (R.getLast (List.length_pos_iff.mp h1))] := by
            rw [nIs_snoc, e]
          rw [e2]
          exact atI_last _ _
        · refine fin _ _ (sall.trans (Same.new ht)) ⟨t, rfl, ?_⟩
          rw [List.getLast?_eq_some_getLast (List.length_pos_iff.mp h1)]
          exact upd_same
      · have h1 : R = [] := by
          cases R with
          | nil => rfl
          | cons a R => exact absurd (decide_eq_true (by rw [List.length_cons]; omega)) h1
        subst h1
        exact ⟨_, rfl, two_ok, fun t ht => fin _ _ (sall.trans (Same.new ht)) ⟨t, rfl, upd_same⟩⟩
def spMayEnd (P : Program) (w : World) (K : PySem.W.Frag) : Sp := fun vs H Q _ => ∃ p q r J M R, vs = [.ref p, .ref q, .ref r] ∧ JIs P w K H p J ∧ MIs K H q M ∧ JM J M ∧ SqA K H r (nIs R) ∧ RowOk J R ∧ ∀ H', Same H H' → Q (.bl (mayB J M R)) H'
theorem ok_may_end (T : Txt K mg) : DefOk P w K mg base 10 "may_end" ["joins", "machine", "row"] (spMayEnd P w K) := by
  have D_standing_of := ok_standing_of (P := P) (w := w) (base := base) T
  refine mk_may_end T (fun vs H Q E h => ?_) (fun f cdv A outer s H vs Q E hr h => ?_)
  · obtain ⟨p, q, r, J, M, R, rfl, _⟩ := h
    rfl
  · obtain ⟨p, q, r, J, M, R, rfl, hJ, hM, ok, hS, hR, fin⟩ := h
    refine ⟨_, (pss_cons (ps_st 3 sc_may_end.nd (pe_def D_standing_of hr (pa_cons (pv 0) (pa_cons (pv 1) (pa_cons (pv 2) pa_nil)))))
      (pss_one (ps_ret (pe_and (pe_cmpR op_notN (pv 3) pe_non (nomark _)) (pe_one (pe_cmpR (inK (K := K)) (pe_ix (ix_tupK (K := K)) (pv 3) pe_int (fun _ _ => rfl)) (fldK (K := K) (pv 1)) rfl)))))), ?_⟩
    refine ⟨_, rfl, _, rfl, _, rfl, p, q, r, J, M, R, rfl, hJ, hM, ok, hS, hR, fun H1 v s1 hv => ?_⟩
    cases hso : sOf J M R with
    | none =>
      rw [hso] at hv
      obtain rfl : v = V.non := hv
      refine ⟨_, rfl, rfl, ?_⟩
      have e : mayB J M R = false := by
        unfold mayB
        rw [hso]
        rfl
      rw [e] at fin
      exact ⟨_, rfl, iteF (fin _ s1)⟩
    | some x =>
      rw [hso] at hv
      obtain ⟨a, rfl, ha⟩ := hv
      have e : mayB J M R = decide (x.2 ∈ M.ends) := by
        unfold mayB
        rw [hso]
        rfl
      rw [e] at fin
      obtain ⟨mdx, mea, msa, mes, mrs, hA⟩ := hM.same s1
      refine ⟨_, rfl, rfl, _, rfl, iteT ⟨_, rfl, a, _, _, _, rfl, rfl, SqT.of ha, atI_nat (j := 1) rfl, _, rfl, q, _, mdx, _, _, rfl, hA.ob, T.cls_M, T.no_M_ends, mf_ends, in_ints (.inr (SqT.of hA.ends)) ?_⟩⟩
      have e : decide (x.2 ∈ mes) = decide (x.2 ∈ M.ends) := by
        have h := hA.perm.mem_iff (a := x.2)
        by_cases h2 : x.2 ∈ M.ends
        · rw [decide_eq_true h2, decide_eq_true (h.mpr h2)]
        · rw [decide_eq_false h2, decide_eq_false fun z => h2 (h.mp z)]
      rw [e]
      exact fin _ s1
theorem dat_new {H1 H2 : Hp} {d dx ka p q : Addr} {J : JD} {M : MD} (hJ : JIs P w K H1 p J) (hM : MIs K H1 q M) (hd : H1 d = none) (hdx : H1 dx = none) (s2 : Same (wo d (upd (upd H1 dx (.own d)) d (.ins (CD K) dx []))) H2) (hka : (upd (upd H1 dx (.own d)) d (.ins (CD K) dx [])) ka = none)
    (hob : H2 d = some (.ins (CD K) dx (sf p q ka))) (hPD : PD P w H2 ka []) : Same H1 (wo ka H2) ∧ DAt P w K (wo ka H2) H2 d ka J M := by
  have s0 : Same H1 (upd (upd H1 dx (.own d)) d (.ins (CD K) dx [])) := Same.own (Same.new hdx) hd
  have hk1 : H1 ka = none := s0.free hka
  have s1 : Same H1 (wo ka H2) := fun b o e => wo_some (s2 _ _ (wo_some (s0 _ _ e) (ne_of_none e hd))) (ne_of_none e hk1)
  obtain ⟨F, hF⟩ := pd_some hPD
  exact ⟨s1, ⟨dx, p, q, wo_some hob (ne_of hob hF fun z => nomatch z), hJ.same s1, hM.same s1⟩, wo_at, wo_le, [], hPD, .nil, (fun x hx => nomatch hx), (fun e he => nomatch he)⟩
def spLets (P : Program) (w : World) (K : PySem.W.Frag) : Sp := fun vs H Q _ => ∃ p q r J M R, vs = [.ref p, .ref q, .ref r] ∧ JIs P w K H p J ∧ MIs K H q M ∧ JM J M ∧ SqA K H r (nIs R) ∧ RowOk J R ∧
  ∀ H' t, Same H H' → H' t = some (.tup (nIs (letsOf J M R))) → Q (.ref t) H'
theorem ok_lets (T : Txt K mg) : DefOk P w K mg base 11 "lets" ["joins", "machine", "row"] (spLets P w K) := by
  have D_Standings := ok_Standings (P := P) (w := w) (base := base) T
  have D_standing_of := ok_standing_of (P := P) (w := w) (base := base) T
  have M_Standings_alive := ok_Standings_alive (P := P) (w := w) (base := base) T
  have M_Standings_steps := ok_Standings_steps (P := P) (w := w) (base := base) T
  refine mk_lets T (fun vs H Q E h => ?_) (fun f cdv A outer s H vs Q E hr h => ?_)
  · obtain ⟨p, q, r, J, M, R, rfl, _⟩ := h
    rfl
  · obtain ⟨p, q, r, J, M, R, rfl, hJ, hM, ok, hS, hR, fin⟩ := h
    refine ⟨_, (pss_cons (ps_st 3 sc_lets.nd (pe_def D_standing_of hr (pa_cons (pv 0) (pa_cons (pv 1) (pa_cons (pv 2) pa_nil)))))
      (pss_cons (ps_if (pt_cmpR op_isN (pv 3) pe_non (nomark _)) (pss_one (ps_ret (pe_tup pa_nil))) pss_nil)
      (pss_cons (ps_st 4 sc_lets.nd (pe_new D_Standings hr (pa_cons (pv 0) (pa_cons (pv 1) pa_nil))))
      (pss_cons (ps_st 5 sc_lets.nd (pe_met (pv 4) T.cls_D M_Standings_alive hr (pa_cons (pv 3) pa_nil)))
      (pss_one (ps_ret (pe_callTy (tupK (K := K)) rfl T.b_tuple (by decide +kernel) (pa_cons (pe_lc (own := [("piece", 6), ("target", 7)]) rfl sc_lets.nd (pi_tup (pe_met (pv 4) T.cls_D M_Standings_steps hr (pa_cons (pv 3) pa_nil))) (blkOk_by (N := N_lets) (sc := defScope s_lets) (by decide +kernel)) (fun _ _ _ _ _ => (ptupK (K := K) (n := 2) rfl (pgs_cons (pg_n 6 sc_lets.nd) (pgs_cons (pg_n 7 sc_lets.nd) pgs_nil)))) (fun _ _ _ _ _ => (pts_one (pt_cmp (pdinK (P := P) (w := w) (hu_of hr) (pv 7) (pv 5))))) (fun _ _ _ _ _ => (pv 6))) pa_nil)))))))), ?_⟩
    refine ⟨_, rfl, _, rfl, _, rfl, p, q, r, J, M, R, rfl, hJ, hM, ok, hS, hR, fun H1 v s1 hv => ?_⟩
    cases hso : sOf J M R with
    | none =>
      rw [hso] at hv
      obtain rfl : v = V.non := hv
      have e : letsOf J M R = [] := by
        unfold letsOf
        rw [hso]
        rfl
      rw [e] at fin
      refine ⟨_, rfl, rfl, _, rfl, iteT ⟨Nat.zero_le _, fun t ht => fin _ _ (s1.trans (Same.new ht)) upd_same⟩⟩
    | some x =>
      rw [hso] at hv
      obtain ⟨a, rfl, ha⟩ := hv
      have hx := sOf_vd ok hR hso
      have e : letsOf J M R = ((nexts J M x).filter fun e => liveB J M (tgt e)).map (·.1) := by
        unfold letsOf
        rw [hso]
        rfl
      rw [e] at fin
      refine ⟨_, rfl, rfl, _, rfl, iteF ?_⟩
      -- Standings(joins, machine)
      refine ⟨_, rfl, _, rfl, fun d dx hd hdx hne => ⟨d, dx, p, q, rfl, upd_same, fun H2 ka s2 hka hob hPD => ⟨rfl, ?_⟩⟩⟩
      obtain ⟨sG, hD2⟩ := dat_new (hJ.same s1) (hM.same s1) hd hdx s2 hka hob hPD
      have sH2 := sG.trans wo_le
      -- alive
      refine ⟨_, rfl, d, dx, _, rfl, hob, sf_no (by decide +kernel), _, rfl, wo ka H2, d, ka, J, M, a, x, rfl, hD2, ok, sH2 _ _ ha, hx, fun H3 fo FL s3 hD3 hfo0 hfk hF hlive hcomp => ?_⟩
      have sG3 := sG.trans s3
      have hob3 : H3 d = some (.ins (CD K) dx (sf p q ka)) := s3 _ _ (wo_some hob (by
        obtain ⟨F, hF⟩ := pd_some hPD
        exact ne_of hob hF fun z => nomatch z))
      -- steps
      refine ⟨_, rfl, d, dx, _, rfl, hob3, sf_no (by decide +kernel), _, rfl, wo ka H2, d, ka, J, M, a, x, rfl, hD3, ok, sG3 _ _ ha, hx, fun H4 t s4 hD4 hV4 => ?_⟩
      obtain ⟨ts, ht, hts⟩ := hV4
      have hk3 : ∃ F, H3 ka = some (.ext F) := let ⟨_, h, _⟩ := hD3.kn; pd_some h
      obtain ⟨F3, e3⟩ := hk3
      have tk4 : TK H3 H4 := wo_tk s4 fun xs z => by rw [e3] at z; cases z
      have hF4 : PD P w H4 fo (sd (fun _ : Unit => V.bl true) FL) := hF.keep (by
        obtain ⟨F, e⟩ := pd_some hF
        exact (s4 _ _ (wo_some e hfk)).trans e.symm) tk4
      have sG4 : Same H1 H4 := fun b o e => s4 _ _ (wo_some (sG3 _ _ e) fun z => by
        have := sG _ _ e
        rw [z, wo_at] at this
        cases this)
      have htl : ts.length = (nexts J M x).length := Paired.length hts
      have hnl : (nexts J M x).length ≤ 90 := by
        have h1 := ok.j.b30
        have h2 := ok.j.p60
        refine Nat.le_trans (nexts_len J M x) ?_
        show J.al.length + J.ps.length ≤ 90
        omega
      refine ⟨t, rfl, ⟨_, SqT.of ht⟩, fun D hDn => lc_tup (K := K) (xs := ts.map V.ref) (fun i H' => Same H4 H' ∧ H' D = some (.lst (nIs ((((nexts J M x).take i).filter fun e => liveB J M (tgt e)).map (·.1))))) ⟨Same.new hDn, upd_same⟩ (fun i H' _ h => SqT.of (h.1 _ _ ht)) ?_ ?_⟩
      · rintro i v H' hv ⟨sm, hL⟩
        rw [List.getElem?_map] at hv
        obtain ⟨a1, ha1, rfl⟩ := Option.map_eq_some_iff.mp hv
        obtain ⟨c, hc, b, hab, hb⟩ := paired_get' hts ha1
        have hcm : c ∈ nexts J M x := List.mem_of_getElem? hc
        have hb' : StA H' b (tgt c) := sm _ _ hb
        have hl := hL
        refine ⟨a1, _, rfl, SqT.of (sm _ _ hab), rfl, _, _, rfl, _, _, rfl, rfl, rfl, ?_⟩
        refine ⟨_, rfl, _, rfl, fo, b, stK (tgt c), _, rfl, rfl, hF4.same sm, hb'.key, _, rfl, ?_⟩
        rw [sd_isSome]
        have hlen : (nIs ((((nexts J M x).take i).filter fun e => liveB J M (tgt e)).map (·.1))).length ≤ 90 := by
          rw [nIs_len, List.length_map]
          refine Nat.le_trans (List.length_filter_le _ _) ?_
          rw [List.length_take]
          omega
        by_cases hin : tgt c ∈ FL.map (·.1)
        · rw [decide_eq_true hin]
          refine iteT ⟨_, rfl, _, hL, small_lt (by omega), Same.own sm hDn, ?_⟩
          have hlv : liveB J M (tgt c) = true := liveB_iff.mpr (hlive _ hin)
          rw [upd_same, List.take_add_one, hc, List.filter_append, show (some c).toList = [c] from rfl, List.filter_cons, hlv]
          exact congrArg (fun z => some (HO.lst z)) (by
            rw [List.map_append]
            exact nIs_snoc _ c.1)
        · rw [decide_eq_false hin]
          refine iteF ⟨sm, ?_⟩
          have hlv : liveB J M (tgt c) = false := by
            cases h : liveB J M (tgt c) with
            | false => rfl
            | true => exact absurd (hcomp c hcm (liveB_iff.mp h)) hin
          rw [List.take_add_one, hc, List.filter_append, show (some c).toList = [c] from rfl, List.filter_cons, hlv]
          rw [if_neg (by decide), List.filter_nil, List.append_nil]
          exact hL
      · rintro H' ⟨sm, hL⟩
        rw [List.length_map, htl, List.take_length] at hL
        exact ⟨D, _, rfl, .inl ⟨SqL.of hL, fun z hz => fin _ _ ((s1.trans (sG4.trans sm)).trans (Same.new hz)) upd_same⟩⟩
end
end J

set_option Elab.async false
set_option linter.all false
set_option maxRecDepth 100000
set_option maxHeartbeats 4000000
/-! Walk: the shortest end. -/
namespace J
open PySem PySem.Spec PyProof.Rows L2
section
variable {P : Program} {w : World} {K : PySem.W.Frag} {mg : Str → Option Value} {base : Heap}
/-- a standing and the way to it -/
abbrev FE := Stn × List (Nat × Nat)
def FeA (H : Hp) (a : Addr) (e : FE) : Prop := ∃ b t, H a = some (.tup [.ref b, .ref t]) ∧ StA H b e.1 ∧ H t = some (.tup (nIs (e.2.map (·.1))))
theorem FeA.tk {H H' : Hp} {a : Addr} {e : FE} (h : FeA H a e) (t : TK H H') : FeA H' a e := by
  obtain ⟨b, c, h1, h2, h3⟩ := h
  exact ⟨b, c, t _ _ h1, h2.tk t, t _ _ h3⟩
theorem feas_tk {H H' : Hp} {as : List Addr} {fe : List FE} (h : Paired (FeA H) as fe) (t : TK H H') : Paired (FeA H') as fe := L2.Paired.mapP h fun _ _ e => e.tk t
/-- a way in order -/
structure WayOk (J : JD) (M : MD) (x : Stn) (seen : List Stn) (e : FE) : Prop where
  way : Way J M x e.2
  fin : wend x e.2 = e.1
  nd : (e.2.map tgt).Nodup
  sub : ∀ c ∈ e.2, tgt c ∈ seen
structure SInv (P : Program) (w : World) (K : PySem.W.Frag) (G : Hp) (d ka fl se : Addr) (J : JD) (M : MD) (x : Stn) (H : Hp) (fe : List FE) : Prop where
  at_ : DAt P w K G H d ka J M
  lst : ∃ as, H fl = some (.lst (as.map V.ref)) ∧ Paired (FeA H) as fe
  nd : (fe.map (·.1)).Nodup
  vd : ∀ y ∈ fe.map (·.1), Vd J M y
  st : x ∈ fe.map (·.1)
  ways : ∀ e ∈ fe, WayOk J M x (fe.map (·.1)) e
  se : ∃ SL : List (Stn × Unit), PD P w H se (sd (fun _ => V.bl true) SL) ∧ SL.map (·.1) = fe.map (·.1)
/-- the answer: None, or the pieces of a way to an end -/
def ShV (J : JD) (M : MD) (H : Hp) (v : V) (o : Option Stn) : Prop := (v = .non ∧ ∀ x, o = some x → ¬ Live J M x) ∨ ∃ x t es, o = some x ∧ v = .ref t ∧ H t = some (.tup (nIs (es.map (·.1)))) ∧ Way J M x es ∧ (wend x es).2 ∈ M.ends ∧ (es.map tgt).Nodup
def spShort (P : Program) (w : World) (K : PySem.W.Frag) : Sp := fun vs H Q _ => ∃ p q r J M R, vs = [.ref p, .ref q, .ref r] ∧ JIs P w K H p J ∧ MIs K H q M ∧ JM J M ∧ SqA K H r (nIs R) ∧ RowOk J R ∧ ∀ H' v, Same H H' → ShV J M H' v (sOf J M R) → Q v H'
theorem ok_shortest_end (T : Txt K mg) : DefOk P w K mg base 10 "shortest_end" ["joins", "machine", "row"] (spShort P w K) := by
  have D_Standings := ok_Standings (P := P) (w := w) (base := base) T
  have D_standing_of := ok_standing_of (P := P) (w := w) (base := base) T
  have M_Standings_is_end := ok_Standings_is_end (P := P) (w := w) (base := base) T
  have M_Standings_steps := ok_Standings_steps (P := P) (w := w) (base := base) T
  refine mk_shortest_end T (fun vs H Q E h => ?_) (fun f cdv A outer s H vs Q E hr h => ?_)
  · obtain ⟨p, q, r, J, M, R, rfl, _⟩ := h
    rfl
  · obtain ⟨p, q, r, J, M, R, rfl, hJ, hM, ok, hS, hR, fin⟩ := h
    refine ⟨_, (pss_cons (ps_st 3 sc_shortest_end.nd (pe_def D_standing_of hr (pa_cons (pv 0) (pa_cons (pv 1) (pa_cons (pv 2) pa_nil)))))
      (pss_cons (ps_if (pt_cmpR op_isN (pv 3) pe_non (nomark _)) (pss_one (ps_ret pe_non)) pss_nil)
      (pss_cons (ps_st 4 sc_shortest_end.nd (pe_new D_Standings hr (pa_cons (pv 0) (pa_cons (pv 1) pa_nil))))
      (pss_cons (ps_st 5 sc_shortest_end.nd (pe_lst (pa_cons (pe_tup (pa_cons (pv 3) (pa_cons (pe_tup pa_nil) pa_nil))) pa_nil)))
      (pss_cons (ps_st 6 sc_shortest_end.nd (pdoneK (P := P) (w := w) (hu_of hr) (pv 3) pe_bl))
      (pss_cons (ps_st 7 sc_shortest_end.nd pe_int)
      (pss_cons (ps_while PassesOwn.never (pt_cmpR op_lt (pv 7) (pe_callB (lenK (K := K)) rfl T.b_len PySem.boot_len (pa_cons (pv 5) pa_nil)) (nomark _)) (pss_cons (ps_asg (pe_ix (ix_listK (K := K)) (pv 5) (pv 7) (fun _ _ => rfl)) (ptupK (K := K) (n := 2) rfl (pgs_cons (pg_n 8 sc_shortest_end.nd) (pgs_cons (pg_n 9 sc_shortest_end.nd) pgs_nil))))
        (pss_cons (ps_if (pt_val (pe_met (pv 4) T.cls_D M_Standings_is_end hr (pa_cons (pv 8) pa_nil))) (pss_one (ps_ret (pv 9))) pss_nil)
        (pss_cons (ps_for PassesOwn.never rfl (pi_tup (pe_met (pv 4) T.cls_D M_Standings_steps hr (pa_cons (pv 8) pa_nil))) (ptupK (K := K) (n := 2) rfl (pgs_cons (pg_n 10 sc_shortest_end.nd) (pgs_cons (pg_n 11 sc_shortest_end.nd) pgs_nil)))
          (pss_one (ps_if (pt_cmp (pdnotinK (P := P) (w := w) (hu_of hr) (pv 11) (pv 6))) (pss_cons (pdputK (P := P) (w := w) (hu_of hr) (pv 6) (pv 11) pe_bl)
            (pss_one (ps_expr (bmK (K := K) PySem.F.plainAttrs_list PySem.F.slot_list_append PySem.F.type_list_append mt_append (pv 5) (pa_cons (pe_tup (pa_cons (pv 11) (pa_cons (pe_op (catAK (K := K)) (pv 9) (pe_tup (pa_cons (pv 10) pa_nil))) pa_nil))) pa_nil))))) pss_nil)))
        (pss_one (ps_ag 7 sc_shortest_end.nd pe_int ip_add))))))
      (pss_one (ps_ret pe_non))))))))), ?_⟩
    refine ⟨_, rfl, _, rfl, _, rfl, p, q, r, J, M, R, rfl, hJ, hM, ok, hS, hR, fun H1 v s1 hv => ?_⟩
    cases hso : sOf J M R with
    | none =>
      rw [hso] at hv fin
      obtain rfl : v = V.non := hv
      exact ⟨_, rfl, rfl, _, rfl, iteT (fin _ _ s1 (.inl ⟨rfl, fun x hx => nomatch hx⟩))⟩
    | some x =>
      rw [hso] at hv fin
      obtain ⟨a, rfl, ha⟩ := hv
      have hx := sOf_vd ok hR hso
      refine ⟨_, rfl, rfl, _, rfl, iteF ?_⟩
      refine ⟨_, rfl, _, rfl, fun d dx hd hdx hne => ⟨d, dx, p, q, rfl, upd_same, fun H2 ka s2 hka hob hPD => ⟨rfl, ?_⟩⟩⟩
      obtain ⟨sG, hD2⟩ := dat_new (hJ.same s1) (hM.same s1) hd hdx s2 hka hob hPD
      have hG : ∃ G, G = wo ka H2 := ⟨_, rfl⟩
      obtain ⟨G, hG⟩ := hG
      rw [← hG] at sG hD2
      have haG := sG _ _ ha
      obtain ⟨F2, e2⟩ := pd_some hPD
      have hobG : G d = some (.ins (CD K) dx (sf p q ka)) := by
        rw [hG]
        exact wo_some hob (ne_of hob e2 fun z => nomatch z)
      have sGH : Same G H2 := hD2.same
      -- found = [(start, ())]
      refine ⟨_, rfl, Nat.zero_le _, fun t0 ht0 => ⟨two_ok, fun t1 ht1 => ⟨one_ok, fun fl hfl => ?_⟩⟩⟩
      have sa := Same.new (o := .tup []) ht0
      have sb := Same.new (o := .tup [.ref a, .ref t0]) ht1
      have sc := Same.new (o := .lst [.ref t1]) hfl
      have et0 : (upd (upd H2 t0 (.tup [])) t1 (.tup [.ref a, .ref t0])) t0 = some (.tup []) := sb _ _ upd_same
      have et1 : (upd (upd H2 t0 (.tup [])) t1 (.tup [.ref a, .ref t0])) t1 = some (.tup [.ref a, .ref t0]) := upd_same
      have hfl2 : H2 fl = none := (sa.trans sb).free hfl
      have et0' := sc _ _ et0
      have et1' := sc _ _ et1
      have efl : (upd (upd (upd H2 t0 (.tup [])) t1 (.tup [.ref a, .ref t0])) fl (.lst [.ref t1])) fl = some (.lst [.ref t1]) := upd_same
      have sabc := (sa.trans sb).trans sc
      generalize (upd (upd (upd H2 t0 (.tup [])) t1 (.tup [.ref a, .ref t0])) fl (.lst [.ref t1])) = H3 at sc et0' et1' efl sabc
      -- seen = {start: True}
      have ha3 : StA H3 a x := sabc _ _ (sGH _ _ haG)
      refine fun se H4 hse d4 => ⟨_, rfl, a, stK x, rfl, ?_, rfl, fun H5 d5 => ?_⟩
      · exact (show StA H4 a x from (PdPut.own d4 (Same.refl _) hse) _ _ ha3).key
      have s35 : Same H3 H5 := PdPut.own d5 (PdPut.own d4 (Same.refl _) hse) hse
      have s25 := sabc.trans s35
      have hse2 : H2 se = none := sabc.free hse
      have gfl : G fl = none := sGH.free hfl2
      have gse : G se = none := sGH.free hse2
      have n_fs : fl ≠ se := ne_of_none efl hse
      have n_kf : ka ≠ fl := ne_of_none e2 hfl2
      have n_ks : ka ≠ se := ne_of_none e2 hse2
      have gka : G ka = none := hD2.free
      have hI0 : SInv P w K G d ka fl se J M x H5 [(x, [])] := by
        refine ⟨hD2.mv (sGH.trans s25) ((s25 _ _ e2).trans e2.symm) (TK.of s25), ⟨[t1], s35 _ _ efl, .cons ⟨a, t0, s35 _ _ et1', s35 _ _ ha3, s35 _ _ et0'⟩ .nil⟩, by simp, fun y hy => by rw [List.mem_singleton.mp hy]; exact hx, List.mem_singleton.mpr rfl, fun e he => ?_, [(x, ())], d5.1, rfl⟩
        rw [List.mem_singleton.mp he]
        exact ⟨trivial, rfl, .nil, fun c hc => nomatch hc⟩
      have hlen : ∀ {H' fe}, SInv P w K G d ka fl se J M x H' fe → fe.length ≤ 1092 := fun {H' fe} hI => by
        have := Nat.le_trans (stn_le hI.nd hI.vd) (univ_le ok.j ok.m)
        rw [List.length_map] at this
        exact this
      refine ⟨fun m σ' H' => ∃ (at_ : Nat) (fe : List FE) (y8 y9 y10 y11 : Option V), σ' = [some (.ref p), some (.ref q), some (.ref r), some (.ref a), some (.ref d), some (.ref fl), some (.ref se), some (.int (at_ : Nat)), y8, y9, y10, y11] ∧ SInv P w K G d ka fl se J M x H' fe ∧ at_ ≤ fe.length ∧ at_ + m = 1092 ∧
          ∀ y ∈ (fe.map (·.1)).take at_, ¬ y.2 ∈ M.ends ∧ ∀ c ∈ nexts J M y, tgt c ∈ fe.map (·.1),
        ⟨1092, 0, [(x, [])], none, none, none, none, rfl, hI0, Nat.zero_le _, rfl, fun y hy => nomatch hy⟩, ?_⟩
      rintro m σ' H' ⟨at_, fe, y8, y9, y10, y11, rfl, hI, hat, hm, hcl⟩
      obtain ⟨as, hL, hS⟩ := hI.lst
      have hal : as.length = fe.length := Paired.length hS
      have hfl92 := hlen hI
      refine ⟨_, rfl, _, rfl, fl, _, rfl, .inl (SqL.of hL), _, _, rfl, rfl, _, rfl, ?_⟩
      rw [List.length_map, hal]
      refine ite2 (fun h1 => ?_) fun h1 => ?_
      · have h1 : at_ < fe.length := by
          have := of_decide_eq_true h1
          omega
        obtain ⟨m, rfl⟩ : ∃ m', m = m' + 1 := ⟨m - 1, by omega⟩
        refine ⟨_, fun σ' H' h => ⟨m, Nat.lt_succ_self _, h⟩, ?_⟩
        obtain ⟨e0, he0⟩ : ∃ e0, fe[at_]? = some e0 := ⟨_, List.getElem?_eq_getElem h1⟩
        obtain ⟨c0, hc0, b0, tw, hcb, hb0, htw⟩ := paired_get hS he0
        have he0m : e0 ∈ fe := List.mem_of_getElem? he0
        have hy0 : e0.1 ∈ fe.map (·.1) := List.mem_map.mpr ⟨_, he0m, rfl⟩
        have hv0 := hI.vd _ hy0
        have hw0 := hI.ways _ he0m
        have hobH := hI.at_.same _ _ hobG
        -- standing, way = found[at]
        refine ⟨_, rfl, _, rfl, fl, _, _, .ref c0, rfl, rfl, SqL.of hL, atI_nat (by rw [List.getElem?_map, hc0]; rfl), c0, _, rfl, SqT.of hcb, rfl, _, _, rfl, _, _, rfl, rfl, ?_⟩
        -- is_end
        refine ⟨_, rfl, d, dx, _, rfl, hobH, sf_no (by decide +kernel), _, rfl, G, d, ka, J, M, b0, e0.1, rfl, hI.at_, hb0, _, rfl, ?_⟩
        have htk1 : (fe.map (·.1))[at_]? = some e0.1 := by rw [List.getElem?_map, he0]; rfl
        by_cases hend : e0.1.2 ∈ M.ends
        · rw [decide_eq_true hend]
          refine iteT ⟨_, rfl, fin _ _ (s1.trans (sG.trans hI.at_.same)) (.inr ⟨x, tw, e0.2, rfl, rfl, htw, hw0.way, by rw [hw0.fin]; exact hend, hw0.nd⟩)⟩
        · rw [decide_eq_false hend]
          refine iteF ?_
          refine ⟨_, rfl, d, dx, _, rfl, hobH, sf_no (by decide +kernel), _, rfl, G, d, ka, J, M, b0, e0.1, rfl, hI.at_, ok, hb0, hv0, fun H6 t s6 hD6 hV6 => ?_⟩
          obtain ⟨ts, ht, hts⟩ := hV6
          have hPk : ∃ F, H' ka = some (.ext F) := let ⟨_, h, _⟩ := hI.at_.kn; pd_some h
          obtain ⟨Fk, ek⟩ := hPk
          have tk6 : TK H' H6 := wo_tk s6 fun ys z => by rw [ek] at z; cases z
          have hI6 : SInv P w K G d ka fl se J M x H6 fe := by
            obtain ⟨SL, h1, h2⟩ := hI.se
            refine ⟨hD6, ⟨as, s6 _ _ (wo_some hL (Ne.symm n_kf)), feas_tk hS tk6⟩, hI.nd, hI.vd, hI.st, hI.ways, SL, h1.keep ?_ tk6, h2⟩
            obtain ⟨F, e⟩ := pd_some h1
            exact (s6 _ _ (wo_some e (Ne.symm n_ks))).trans e.symm
          have htw6 := tk6 _ _ htw
          refine ⟨t, rfl, ⟨_, SqT.of ht⟩, for_tup (K := K) (xs := ts.map V.ref) (fun j σ' H' => ∃ (fe' ze : List FE) (y10 y11 : Option V), σ' = [some (.ref p), some (.ref q), some (.ref r), some (.ref a), some (.ref d), some (.ref fl), some (.ref se), some (.int (at_ : Nat)), some (.ref b0), some (.ref tw), y10, y11] ∧ fe' = fe ++ ze ∧ SInv P w K G d ka fl se J M x H' fe' ∧ TK H6 H' ∧
              ∀ c ∈ (nexts J M e0.1).take j, tgt c ∈ fe'.map (·.1))
            ⟨fe, [], y10, y11, rfl, (List.append_nil _).symm, hI6, TK.refl _, fun c hc => by simp at hc⟩ (fun j σ' H' _ ⟨_, _, _, _, _, _, _, tk, _⟩ => SqT.of (tk _ _ ht)) ?_ ?_⟩
          · rintro j v σ' H7 hv ⟨fe', ze, y10, y11, rfl, hx', hI7, tk7, hcl7⟩
            rw [List.getElem?_map] at hv
            obtain ⟨a1, ha1, rfl⟩ := Option.map_eq_some_iff.mp hv
            obtain ⟨c, hc, b, hab, hb⟩ := paired_get' hts ha1
            have hb7 : StA H7 b (tgt c) := tk7 _ _ hb
            obtain ⟨as7, hL7, hS7⟩ := hI7.lst
            obtain ⟨SL, hSL, hSLx⟩ := hI7.se
            have hfe7 := hlen hI7
            have hSLl : SL.length = fe'.length := by
              have := congrArg List.length hSLx
              rw [List.length_map, List.length_map] at this
              exact this
            have hal7 : as7.length = fe'.length := Paired.length hS7
            have hcm : c ∈ nexts J M e0.1 := List.mem_of_getElem? hc
            have he0' : e0 ∈ fe' := by rw [hx']; exact List.mem_append_left _ he0m
            have hw7 := hI7.ways _ he0'
            have hwl : e0.2.length ≤ 1092 := by
              have h1 := nodup_len (m := fe'.map (·.1)) hw7.nd fun y hy => by
                obtain ⟨c', hc', rfl⟩ := List.mem_map.mp hy
                exact hw7.sub c' hc'
              rw [List.length_map, List.length_map] at h1
              omega
            refine ⟨a1, _, rfl, SqT.of (tk7 _ _ hab), rfl, _, _, rfl, _, _, rfl, rfl, ?_⟩
            refine ⟨_, rfl, _, rfl, se, b, stK (tgt c), _, rfl, rfl, hSL, hb7.key, _, rfl, ?_⟩
            rw [sd_isSome, hSLx]
            by_cases hin : tgt c ∈ fe'.map (·.1)
            · rw [decide_eq_true hin]
              refine iteF ⟨fe', ze, _, _, rfl, hx', hI7, tk7, fun c' hc' => ?_⟩
              rcases (mem_take_succ hc).mp hc' with h | h
              · exact hcl7 c' h
              · rw [h]
                exact hin
            · rw [decide_eq_false hin]
              refine iteT ?_
              refine ⟨_, rfl, _, rfl, se, b, stK (tgt c), _, rfl, rfl, hSL, hb7.key, by rw [sd_len, hSLl]; exact small_lt (by omega), fun H8 d8 => ?_⟩
              rw [show V.bl true = (fun _ : Unit => V.bl true) () from rfl, sd_put _ (gt_none.mpr (by rw [hSLx]; exact hin))] at d8
              have tk8 : TK H7 H8 := PdPut.tk hSL d8
              have hL8 : H8 fl = _ := (d8.2 fl n_fs).trans hL7
              have tk78 := tk7.trans tk8
              -- found.append((target, way + (piece,)))
              refine ⟨_, rfl, .inl ⟨rfl, _, SqL.of hL8⟩, _, rfl, _, rfl, _, rfl, one_ok, fun t2 ht2 => ?_⟩
              have sn2 := Same.new (o := .tup [nI c.1]) ht2
              refine cat_new (sn2 _ _ (tk78 _ _ htw6)) upd_same (by simp) (by rw [nIs_len, List.length_map]; exact small_ok (by show _ + 1 ≤ _; omega)) fun t3 H9 s9 ht3 => ?_
              refine ⟨two_ok, fun t4 ht4 => ?_⟩
              have sn4 := Same.new (o := .tup [.ref b, .ref t3]) ht4
              have s89 := (sn2.trans s9).trans sn4
              have hL9 := s89 _ _ hL8
              have e4 : (upd H9 t4 (.tup [.ref b, .ref t3])) t4 = some (.tup [.ref b, .ref t3]) := upd_same
              have e3 := sn4 _ _ ht3
              have hD9 := (hI7.at_.mv (fun b o e => by
                rw [d8.2 b (ne_of_none e gse)]
                exact hI7.at_.same _ _ e) (d8.2 ka n_ks) tk8)
              have hkk : ∃ F, H8 ka = some (.ext F) := let ⟨_, h, _⟩ := hD9.kn; pd_some h
              obtain ⟨F8, ek8⟩ := hkk
              have hD10 := hD9.mv (hD9.same.trans s89) ((s89 _ _ ek8).trans ek8.symm) (TK.of s89)
              have hse10 : PD P w (upd H9 t4 (.tup [.ref b, .ref t3])) se _ := d8.1.same s89
              have tk810 : TK H8 (upd H9 t4 (.tup [.ref b, .ref t3])) := TK.of s89
              generalize (upd H9 t4 (.tup [.ref b, .ref t3])) = H10 at sn4 s89 hL9 e4 e3 hD10 hse10 tk810
              refine ⟨fl, as7.map V.ref, _, rfl, rfl, hL9, by rw [List.length_map, hal7]; exact small_lt (by omega), ?_⟩
              have tk11 : TK H10 (upd H10 fl (.lst (as7.map V.ref ++ [.ref t4]))) := TK.own (TK.refl _) hL9 fun xs z => nomatch z
              have tkA := (tk8.trans tk810).trans tk11
              have hne : WayOk J M x ((fe' ++ [(tgt c, e0.2 ++ [c])]).map (·.1)) (tgt c, e0.2 ++ [c]) := by
                refine ⟨way_snoc hw7.way (by rw [hw7.fin]; exact hcm), wend_snoc _ _ _, ?_, fun c' hc' => ?_⟩
                · rw [List.map_append, List.nodup_append]
                  refine ⟨hw7.nd, by simp, fun y hy z hz q => ?_⟩
                  rw [List.map_singleton, List.mem_singleton] at hz
                  obtain ⟨c', hc', rfl⟩ := List.mem_map.mp hy
                  exact hin (by rw [← hz, ← q]; exact hw7.sub c' hc')
                · rw [List.map_append]
                  rcases List.mem_append.mp hc' with h | h
                  · exact List.mem_append_left _ (hw7.sub c' h)
                  · rw [List.mem_singleton.mp h]
                    exact List.mem_append_right _ (List.mem_singleton.mpr rfl)
              refine ⟨fe' ++ [(tgt c, e0.2 ++ [c])], ze ++ [(tgt c, e0.2 ++ [c])], _, _, rfl, by rw [hx', List.append_assoc], ⟨?_, ⟨as7 ++ [t4], by rw [upd_same, List.map_append]; rfl, Paired.snoc (feas_tk hS7 tkA) ⟨b, t3, tk11 _ _ e4, tkA _ _ hb7, ?_⟩⟩, ?_, ?_, ?_, ?_, SL ++ [(tgt c, ())], ?_, ?_⟩, ((tk78.trans tk810).trans tk11), fun c' hc' => ?_⟩
              · exact hD10.mv (Same.own hD10.same gfl) (upd_ne n_kf) tk11
              · have := tk11 _ _ e3
                rw [this]
                exact congrArg (fun z => some (HO.tup z)) (by
                  rw [List.map_append]
                  exact nIs_snoc _ c.1)
              · rw [List.map_append, List.nodup_append]
                refine ⟨hI7.nd, by simp, fun y hy z hz q => ?_⟩
                rw [List.map_singleton, List.mem_singleton] at hz
                rw [q, hz] at hy
                exact hin hy
              · intro y hy
                rw [List.map_append] at hy
                rcases List.mem_append.mp hy with h | h
                · exact hI7.vd y h
                · rw [List.map_singleton, List.mem_singleton] at h
                  rw [h]
                  exact nexts_vd ok.m hv0 hcm
              · rw [List.map_append]
                exact List.mem_append_left _ hI7.st
              · intro e he
                rcases List.mem_append.mp he with h | h
                · have := hI7.ways e h
                  exact ⟨this.way, this.fin, this.nd, fun c' hc' => by rw [List.map_append]; exact List.mem_append_left _ (this.sub c' hc')⟩
                · rw [List.mem_singleton.mp h]
                  exact hne
              · exact hse10.keep (upd_ne (Ne.symm n_fs)) tk11
              · rw [List.map_append, List.map_append, hSLx]
                rfl
              · rw [List.map_append]
                rcases (mem_take_succ hc).mp hc' with h | h
                · exact List.mem_append_left _ (hcl7 c' h)
                · rw [h]
                  exact List.mem_append_right _ (List.mem_singleton.mpr rfl)
          · rintro σ' H7 ⟨fe', ze, y10, y11, rfl, hx', hI7, tk7, hcl7⟩
            have htl : ts.length = (nexts J M e0.1).length := Paired.length hts
            rw [List.length_map, htl, List.take_length] at hcl7
            refine ⟨_, rfl, _, _, rfl, rfl, at_ + 1, fe', _, _, y10, y11, rfl, hI7, by rw [hx', List.length_append]; omega, by omega, fun y hy => ?_⟩
            have e1 : (fe'.map (·.1)).take (at_ + 1) = (fe.map (·.1)).take (at_ + 1) := by
              rw [hx', List.map_append, List.take_append_of_le_length (by rw [List.length_map]; omega)]
            rw [e1] at hy
            rcases (mem_take_succ htk1).mp hy with h | h
            · refine ⟨(hcl y h).1, fun c hc => ?_⟩
              rw [hx', List.map_append]
              exact List.mem_append_left _ ((hcl y h).2 c hc)
            · rw [h]
              exact ⟨hend, hcl7⟩
      · have h1 : ¬ at_ < fe.length := fun z => h1 (decide_eq_true (by omega))
        rw [List.take_of_length_le (by rw [List.length_map]; omega)] at hcl
        refine fin _ _ (s1.trans (sG.trans hI.at_.same)) (.inl ⟨rfl, fun x' hx' => ?_⟩)
        cases hx'
        exact fun hl => not_live (fun y hy => (hcl y hy).2) (fun y hy => (hcl y hy).1) hl hI.st
end
end J

set_option Elab.async false
set_option linter.all false
set_option maxRecDepth 100000
set_option maxHeartbeats 4000000
/-! Walks of the law: the tape. -/
namespace J
open PySem PySem.Spec PyProof.Rows L2
/-! ### the tape -/
def tpD (ca : Addr) (a g l s u : Int) : List (Key × V) := [(Sum.inr "cells", .ref ca), (Sum.inr "at", .int a), (Sum.inr "great", .int g), (Sum.inr "left", .int l), (Sum.inr "seed", .int s), (Sum.inr "turn", .int u)]
theorem tp_merge (ca : Addr) (a g l s u : Int) : mergeK [] (tpD ca a g l s u) = tpD ca a g l s u := by kernel_rfl
section
variable (ca : Addr) (a g l s u x : Int)
theorem tp_at : putK (tpD ca a g l s u) (Sum.inr "at") (.int x) = tpD ca x g l s u := by kernel_rfl
theorem tp_great : putK (tpD ca a g l s u) (Sum.inr "great") (.int x) = tpD ca a x l s u := by kernel_rfl
theorem tp_left : putK (tpD ca a g l s u) (Sum.inr "left") (.int x) = tpD ca a g x s u := by kernel_rfl
theorem tp_seed : putK (tpD ca a g l s u) (Sum.inr "seed") (.int x) = tpD ca a g l x u := by kernel_rfl
theorem tp_turn : putK (tpD ca a g l s u) (Sum.inr "turn") (.int x) = tpD ca a g l s x := by kernel_rfl
theorem tv_cells : valV (tpD ca a g l s u) (Sum.inr "cells") = some (.ref ca) := by kernel_rfl
theorem tv_at : valV (tpD ca a g l s u) (Sum.inr "at") = some (.int a) := by kernel_rfl
theorem tv_great : valV (tpD ca a g l s u) (Sum.inr "great") = some (.int g) := by kernel_rfl
theorem tv_left : valV (tpD ca a g l s u) (Sum.inr "left") = some (.int l) := by kernel_rfl
theorem tv_seed : valV (tpD ca a g l s u) (Sum.inr "seed") = some (.int s) := by kernel_rfl
theorem tv_turn : valV (tpD ca a g l s u) (Sum.inr "turn") = some (.int u) := by kernel_rfl
end
/-- reading a key of a dict -/
theorem dk_get {H : Hp} {a : Addr} {kvs : List (Key × V)} {k : Key} {v : V} (e : H a = some (.dK kvs)) (h : valV kvs k = some v) : DGet H a (kV k) (some v) := by
  rw [← h]
  exact DGet.k e
theorem tg_cells {H : Hp} {t ca : Addr} {a g l s u : Int} (e : H t = some (.dK (tpD ca a g l s u))) : DGet H t (.str "cells") (some (.ref ca)) := dk_get (k := Sum.inr "cells") e (tv_cells ca a g l s u)
theorem tg_at {H : Hp} {t ca : Addr} {a g l s u : Int} (e : H t = some (.dK (tpD ca a g l s u))) : DGet H t (.str "at") (some (.int a)) := dk_get (k := Sum.inr "at") e (tv_at ca a g l s u)
theorem tg_great {H : Hp} {t ca : Addr} {a g l s u : Int} (e : H t = some (.dK (tpD ca a g l s u))) : DGet H t (.str "great") (some (.int g)) := dk_get (k := Sum.inr "great") e (tv_great ca a g l s u)
theorem tg_left {H : Hp} {t ca : Addr} {a g l s u : Int} (e : H t = some (.dK (tpD ca a g l s u))) : DGet H t (.str "left") (some (.int l)) := dk_get (k := Sum.inr "left") e (tv_left ca a g l s u)
theorem tg_seed {H : Hp} {t ca : Addr} {a g l s u : Int} (e : H t = some (.dK (tpD ca a g l s u))) : DGet H t (.str "seed") (some (.int s)) := dk_get (k := Sum.inr "seed") e (tv_seed ca a g l s u)
theorem tg_turn {H : Hp} {t ca : Addr} {a g l s u : Int} (e : H t = some (.dK (tpD ca a g l s u))) : DGet H t (.str "turn") (some (.int u)) := dk_get (k := Sum.inr "turn") e (tv_turn ca a g l s u)
theorem ts_at {H : Hp} {t ca : Addr} {a g l s u x : Int} (e : H t = some (.dK (tpD ca a g l s u))) : DPut H t (.str "at") (.int x) (L2.upd H t (.dK (tpD ca x g l s u))) := by
  have h := DPut.k (k := Sum.inr "at") (v := .int x) e (by show 6 < sizeLine; decide)
  rw [tp_at] at h
  exact h
theorem ts_great {H : Hp} {t ca : Addr} {a g l s u x : Int} (e : H t = some (.dK (tpD ca a g l s u))) : DPut H t (.str "great") (.int x) (L2.upd H t (.dK (tpD ca a x l s u))) := by
  have h := DPut.k (k := Sum.inr "great") (v := .int x) e (by show 6 < sizeLine; decide)
  rw [tp_great] at h
  exact h
theorem ts_left {H : Hp} {t ca : Addr} {a g l s u x : Int} (e : H t = some (.dK (tpD ca a g l s u))) : DPut H t (.str "left") (.int x) (L2.upd H t (.dK (tpD ca a g x s u))) := by
  have h := DPut.k (k := Sum.inr "left") (v := .int x) e (by show 6 < sizeLine; decide)
  rw [tp_left] at h
  exact h
theorem ts_seed {H : Hp} {t ca : Addr} {a g l s u x : Int} (e : H t = some (.dK (tpD ca a g l s u))) : DPut H t (.str "seed") (.int x) (L2.upd H t (.dK (tpD ca a g l x u))) := by
  have h := DPut.k (k := Sum.inr "seed") (v := .int x) e (by show 6 < sizeLine; decide)
  rw [tp_seed] at h
  exact h
theorem ts_turn {H : Hp} {t ca : Addr} {a g l s u x : Int} (e : H t = some (.dK (tpD ca a g l s u))) : DPut H t (.str "turn") (.int x) (L2.upd H t (.dK (tpD ca a g l s x))) := by
  have h := DPut.k (k := Sum.inr "turn") (v := .int x) e (by show 6 < sizeLine; decide)
  rw [tp_turn] at h
  exact h
/-- a tape at t -/
def Tape (K : PySem.W.Frag) (H : Hp) (t ca : Addr) (cs : List Int) : Prop := ∃ (a : Nat) (g l s u : Int), H t = some (.dK (tpD ca a g l s u)) ∧ SqL K H ca (cs.map V.int) ∧ ca ≠ t
/-- but for t all is as it was -/
def But (t : Addr) (H H' : Hp) : Prop := ∀ b, b ≠ t → H' b = H b
theorem But.trans {t : Addr} {H H1 H2 : Hp} (h : But t H H1) (h2 : But t H1 H2) : But t H H2 := fun b hb => (h2 b hb).trans (h b hb)
theorem But.refl (t : Addr) (H : Hp) : But t H H := fun _ _ => rfl
theorem But.upd {t : Addr} {H : Hp} {o : HO} : But t H (L2.upd H t o) := fun b hb => L2.upd_ne hb
theorem But.wo {t : Addr} {H H' : Hp} (h : But t H H') : Same (wo t H) H' := fun b o e => by
  have hb : b ≠ t := fun z => by rw [z, wo_at] at e; cases e
  rw [h b hb]
  exact wo_le _ _ e
theorem But.tk {t : Addr} {H H' : Hp} (h : But t H H') {kvs : List (Key × V)} (e : H t = some (.dK kvs)) : TK H H' := wo_tk h.wo fun xs z => by rw [e] at z; cases z
theorem seq_but {K : PySem.W.Frag} {H H' : Hp} {a t : Addr} {xs : List V} (h : SqL K H a xs) (e : But t H H') (hne : a ≠ t) : SqL K H' a xs := by
  rcases h with (h | ⟨o, h⟩) | h
  · exact .inl (.inl ((e a hne).trans h))
  · exact .inl (.inr ⟨o, (e a hne).trans h⟩)
  · exact .inr h
theorem seq_upd {K : PySem.W.Frag} {H : Hp} {a t : Addr} {xs : List V} {kvs kv2 : List (Key × V)} (h : SqL K H a xs) (e : H t = some (.dK kvs)) (hne : a ≠ t) : SqL K (upd H t (.dK kv2)) a xs := by
  rcases h with (h | ⟨o, h⟩) | h
  · exact .inl (.inl ((upd_ne hne).trans h))
  · exact .inl (.inr ⟨o, (upd_ne hne).trans h⟩)
  · exact .inr h
section
variable {P : Program} {w : World} {K : PySem.W.Frag} {mg : Str → Option Value} {base : Heap}
def spMixed : Sp := fun vs H Q _ => ∃ n u : Int, vs = [.int n, .int u] ∧ ∀ r : Int, Q (.int r) H
theorem ok_L_mixed (T : Txt K mg) : DefOk P w K mg base 1 "_law_mixed" ["_law_number", "_law_turn"] spMixed := by
  refine mk_L_mixed T (fun vs H Q E h => ?_) (fun f cdv A outer s H vs Q E hr h => ?_)
  · obtain ⟨n, u, rfl, _⟩ := h
    rfl
  · obtain ⟨n, u, rfl, fin⟩ := h
    refine ⟨_, (pss_cons (ps_st 2 sc_L_mixed.nd (pe_op op_mod (pe_callTy call_int1 rfl T.b_int (by decide +kernel) (pa_cons (pe_op op_add (pe_op op_add (pe_op op_mul (pv 0) pe_int) (pe_op op_mul (pv 1) pe_int)) pe_int) pa_nil)) pe_int))
      (pss_cons (ps_st 3 sc_L_mixed.nd (pe_op op_mod (pe_callTy call_int1 rfl T.b_int (by decide +kernel) (pa_cons (pe_op op_add (pe_op op_add (pe_op op_mul (pv 2) pe_int) (pe_op op_fdiv (pv 2) pe_int)) (pe_op op_mul (pv 1) pe_int)) pa_nil)) pe_int))
      (pss_one (ps_ret (pe_op op_mod (pe_callTy call_int1 rfl T.b_int (by decide +kernel) (pa_cons (pe_op op_add (pe_op op_mul (pv 3) (pv 3)) (pe_op op_fdiv (pv 2) pe_int)) pa_nil)) pe_int))))), ?_⟩
    refine ⟨_, rfl, _, _, rfl, rfl, .inr ⟨by decide, by decide⟩, _, rfl, _, _, rfl, rfl, .inr ⟨by decide, by decide⟩, _, _, rfl, rfl, _, _, rfl, rfl, .inl ⟨_, rfl, _, _, rfl, rfl, by show (0 : Int) < 2147483647; decide, ?_⟩⟩
    have h1 := Int.emod_nonneg (n * 48271 + u * 69621 + 11) (b := 2147483647) (by decide)
    have h2 := Int.emod_lt_of_pos (n * 48271 + u * 69621 + 11) (b := 2147483647) (by decide)
    generalize (n * 48271 + u * 69621 + 11) % 2147483647 = x at h1 h2
    refine ⟨_, rfl, _, _, rfl, rfl, .inr ⟨by decide, by decide⟩, _, rfl, _, _, rfl, rfl, ⟨by decide, by decide⟩, _, _, rfl, rfl, _, rfl, _, _, rfl, rfl, .inr ⟨by decide, by decide⟩, _, _, rfl, rfl, .inl ⟨_, rfl, _, _, rfl, rfl, by show (0 : Int) < 1000003; decide, ?_⟩⟩
    have h3 := Int.emod_nonneg (x * 16807 + x / 127773 + u * 271) (b := 1000003) (by decide)
    have h4 := Int.emod_lt_of_pos (x * 16807 + x / 127773 + u * 271) (b := 1000003) (by decide)
    generalize (x * 16807 + x / 127773 + u * 271) % 1000003 = y at h3 h4
    exact ⟨_, rfl, _, rfl, _, _, rfl, rfl, .inl ⟨by omega, by omega⟩, _, rfl, _, _, rfl, rfl, ⟨by decide, by decide⟩, _, _, rfl, rfl, .inl ⟨_, rfl, _, _, rfl, rfl, by show (0 : Int) < 999983; decide, fin _⟩⟩
def spTape (K : PySem.W.Frag) : Sp := fun vs H Q _ => ∃ (a : Addr) (ns : List Int), vs = [.ref a] ∧ SqL K H a (ns.map V.int) ∧ ns.length ≤ 63 ∧ ∀ H' t ca cs, Same H H' → H t = none → Tape K H' t ca cs → Q (.ref t) H'
theorem ok_L_tape (T : Txt K mg) : DefOk P w K mg base 1 "_law_tape" ["_law_script"] (spTape K) := by
  refine mk_L_tape T (fun vs H Q E h => ?_) (fun f cdv A outer s H vs Q E hr h => ?_)
  · obtain ⟨a, ns, rfl, _⟩ := h
    rfl
  · obtain ⟨a, ns, rfl, hS, hl, fin⟩ := h
    refine ⟨_, (pss_one (ps_ret (pe_disp (pps_cons pe_str (pe_callTy (listK (K := K)) rfl T.b_list (by decide +kernel) (pa_cons (pv 0) pa_nil)) (pps_cons pe_str pe_int (pps_cons pe_str pe_int (pps_cons pe_str pe_int (pps_cons pe_str pe_int (pps_cons pe_str pe_int pps_nil)))))) (by rfl) (by rfl) (fun z => by cases z) (by decide)))), ?_⟩
    refine fun t ht => ⟨_, rfl, a, _, rfl, .inl ((Same.new ht).seq hS), fun ca hca => ⟨?_, tpD ca 0 0 0 7 0, rfl, by show 6 ≤ 15; decide, ?_⟩⟩
    · rw [upd_ne (ne_of_none upd_same hca)]
      exact upd_same
    · rw [tp_merge]
      have hct : ca ≠ t := (ne_of_none upd_same hca).symm
      have sm := (Same.new (o := .dK []) ht).trans (Same.new (o := .lst (ns.map V.int)) hca)
      exact fin _ _ ca ns (Same.own sm ht) ht ⟨0, 0, 0, 7, 0, upd_same, .inl (.inl ((upd_ne hct).trans upd_same)), hct⟩
def spDraw (K : PySem.W.Frag) : Sp := fun vs H Q _ => ∃ t ca cs, ∃ m : Nat, vs = [.ref t, .int m] ∧ 0 < m ∧ Tape K H t ca cs ∧ ∀ H', But t H H' → Tape K H' t ca cs → ∀ r : Nat, r < m → Q (.int r) H'
theorem ok_L_draw (T : Txt K mg) : DefOk P w K mg base 2 "_law_draw" ["_law_tape_here", "_law_many"] (spDraw K) := by
  have D_L_mixed := ok_L_mixed (P := P) (w := w) (base := base) T
  refine mk_L_draw T (fun vs H Q E h => ?_) (fun f cdv A outer s H vs Q E hr h => ?_)
  · obtain ⟨t, ca, cs, m, rfl, _⟩ := h
    rfl
  · obtain ⟨t, ca, cs, m, rfl, hm, hT, fin⟩ := h
    refine ⟨_, (pss_cons (ps_dput (hu_of hr) (pv 0) pe_str (pe_op op_add (pe_dget (hu_of hr) (pv 0) pe_str (fun _ _ => rfl)) pe_int) rfl)
      (C8.pss_cut (ps_if (PW.pt (pw_and (pt_cmpR op_eq (pe_dget (hu_of hr) (pv 0) pe_str (fun _ _ => rfl)) pe_int (nomark _)) (pw_and1 (pt_cmpR op_lt (pe_dget (hu_of hr) (pv 0) pe_str (fun _ _ => rfl)) (pe_callB (lenK (K := K)) rfl T.b_len PySem.boot_len (pa_cons (pe_dget (hu_of hr) (pv 0) pe_str (fun _ _ => rfl)) pa_nil)) (nomark _))))) (pss_cons (ps_st 2 sc_L_draw.nd (pe_ix (ix_listK (K := K)) (pe_dget (hu_of hr) (pv 0) pe_str (fun _ _ => rfl)) (pe_dget (hu_of hr) (pv 0) pe_str (fun _ _ => rfl)) (fun _ _ => rfl)))
        (pss_cons (ps_dput (hu_of hr) (pv 0) pe_str (pe_op op_add (pe_dget (hu_of hr) (pv 0) pe_str (fun _ _ => rfl)) pe_int) rfl)
        (pss_cons (ps_dput (hu_of hr) (pv 0) pe_str (pe_def D_L_mixed hr (pa_cons (pe_op op_add (pe_dget (hu_of hr) (pv 0) pe_str (fun _ _ => rfl)) (pv 2)) (pa_cons (pe_dget (hu_of hr) (pv 0) pe_str (fun _ _ => rfl)) pa_nil))) rfl)
        (pss_cons (ps_dput (hu_of hr) (pv 0) pe_str pe_int rfl)
        (pss_one (ps_if (pt_cmpR op_ge (pv 2) (pe_op op_pow pe_int pe_int) (nomark _)) (pss_cons (ps_dput (hu_of hr) (pv 0) pe_str (pv 2) rfl)
          (pss_one (ps_dput (hu_of hr) (pv 0) pe_str pe_int rfl))) pss_nil)))))) pss_nil)
      (C8.pss_cut (ps_if (pt_cmpR op_gt (pe_dget (hu_of hr) (pv 0) pe_str (fun _ _ => rfl)) pe_int (nomark _)) (pss_one (ps_dput (hu_of hr) (pv 0) pe_str (pe_op op_sub (pe_dget (hu_of hr) (pv 0) pe_str (fun _ _ => rfl)) pe_int) rfl)) pss_nil)
      (C8.pss_cut (ps_if (pt_cmpR op_eq (pe_dget (hu_of hr) (pv 0) pe_str (fun _ _ => rfl)) pe_int (nomark _)) (pss_one (ps_ret (pe_op op_mod (pe_callTy call_int1 rfl T.b_int (by decide +kernel) (pa_cons (pe_def D_L_mixed hr (pa_cons (pe_dget (hu_of hr) (pv 0) pe_str (fun _ _ => rfl)) (pa_cons (pe_dget (hu_of hr) (pv 0) pe_str (fun _ _ => rfl)) pa_nil))) pa_nil)) (pv 1)))) pss_nil)
      (pss_cons (ps_st 3 sc_L_draw.nd (pe_op op_mod (pe_callTy call_int1 rfl T.b_int (by decide +kernel) (pa_cons (pe_dget (hu_of hr) (pv 0) pe_str (fun _ _ => rfl)) pa_nil)) pe_int))
      (pss_cons (ps_dput (hu_of hr) (pv 0) pe_str (pe_op op_fdiv (pe_dget (hu_of hr) (pv 0) pe_str (fun _ _ => rfl)) pe_int) rfl)
      (C8.pss_cut (ps_if (PW.pt (pw_or (pt_cmpR op_eq (pe_dget (hu_of hr) (pv 0) pe_str (fun _ _ => rfl)) pe_int (nomark _)) (pw_or1 (pt_cmpR op_eq (pe_dget (hu_of hr) (pv 0) pe_str (fun _ _ => rfl)) pe_int (nomark _))))) (pss_cons (ps_dput (hu_of hr) (pv 0) pe_str pe_int rfl)
        (pss_one (ps_dput (hu_of hr) (pv 0) pe_str pe_int rfl))) pss_nil)
      (pss_one (ps_ret (pe_op op_mod (pe_callTy call_int1 rfl T.b_int (by decide +kernel) (pa_cons (pv 3) pa_nil)) (pv 1))))))))))), ?_⟩
    obtain ⟨a0, g0, l0, s0, u0, e0, hC, hne⟩ := hT
    refine ⟨_, rfl, t, _, rfl, tg_turn e0, _, _, rfl, rfl, _, rfl, t, _, rfl, ts_turn e0, ?_⟩
    have b1 : But t H (upd H t (.dK (tpD ca a0 g0 l0 s0 (u0 + 1)))) := But.upd
    have e1 : (upd H t (.dK (tpD ca a0 g0 l0 s0 (u0 + 1)))) t = _ := upd_same
    generalize (upd H t (.dK (tpD ca a0 g0 l0 s0 (u0 + 1)))) = H1 at b1 e1
    have gen : ∀ {Hx : Hp} {a : Nat} {g l s u : Int}, But t H Hx → Hx t = some (.dK (tpD ca a g l s u)) → ∀ {a' : Nat} {g' l' s' u' : Int}, But t H (upd Hx t (.dK (tpD ca a' g' l' s' u'))) ∧ (upd Hx t (.dK (tpD ca a' g' l' s' u'))) t = some (.dK (tpD ca a' g' l' s' u')) := fun h1 h2 => ⟨h1.trans But.upd, upd_same⟩
    have fin2 : ∀ {Hx : Hp} {a : Nat} {g l s u : Int}, But t H Hx → Hx t = some (.dK (tpD ca a g l s u)) → ∀ z : Int, Q (.int (z % (m : Int))) Hx := fun {Hx a g l s u} h1 h2 z => by
      have p1 := Int.emod_nonneg z (b := (m : Int)) (by omega)
      have p2 := Int.emod_lt_of_pos z (b := (m : Int)) (by omega)
      have := fin Hx h1 ⟨a, g, l, s, u, h2, seq_but hC h1 hne, hne⟩ (z % (m : Int)).toNat (by omega)
      rw [Int.toNat_of_nonneg p1] at this
      exact this
    refine ⟨fun σ' H' => ∃ (y2 y3 : Option V) (a : Nat) (g l s u : Int), σ' = [some (.ref t), some (.int (m : Nat)), y2, y3] ∧ But t H H' ∧ H' t = some (.dK (tpD ca a g l s u)), ?_, ?_⟩
    · refine ⟨_, rfl, t, _, rfl, tg_left e1, rfl, _, rfl, ite2 (fun h1 => ?_) fun h1 => iteF ⟨none, none, a0, g0, l0, s0, u0 + 1, rfl, b1, e1⟩⟩
      refine ⟨_, rfl, t, _, rfl, tg_at e1, _, rfl, t, _, rfl, tg_cells e1, ca, _, rfl, .inl (seq_but hC b1 hne), _, _, rfl, rfl, _, rfl, ite2 (fun h2 => ?_) fun h2 => ⟨none, none, a0, g0, l0, s0, u0 + 1, rfl, b1, e1⟩⟩
      have h2 : a0 < cs.length := by
        have := of_decide_eq_true h2
        rw [List.length_map] at this
        omega
      have hcell : (cs.map V.int)[a0]? = some (.int cs[a0]) := by rw [List.getElem?_map, List.getElem?_eq_getElem h2]; rfl
      generalize cs[a0] = cell at hcell
      refine ⟨_, rfl, t, _, rfl, tg_cells e1, _, rfl, t, _, rfl, tg_at e1, ca, _, _, _, rfl, rfl, seq_but hC b1 hne, atI_nat hcell, ?_⟩
      refine ⟨_, rfl, t, _, rfl, tg_at e1, _, _, rfl, rfl, _, rfl, t, _, rfl, ts_at e1, ?_⟩
      obtain ⟨b2, e2⟩ := gen b1 e1 (a' := a0 + 1) (g' := g0) (l' := l0) (s' := s0) (u' := u0 + 1)
      rw [show ((a0 : Int) + 1) = ((a0 + 1 : Nat) : Int) by omega]
      generalize (upd H1 t (.dK (tpD ca ((a0 + 1 : Nat) : Int) g0 l0 s0 (u0 + 1)))) = H2 at b2 e2
      refine ⟨_, rfl, t, _, rfl, tg_seed e2, _, rfl, _, _, rfl, rfl, _, rfl, t, _, rfl, tg_at e2, _, _, rfl, fun r => ⟨_, rfl, t, _, rfl, ts_seed e2, ?_⟩⟩
      obtain ⟨b3, e3⟩ := gen b2 e2 (a' := a0 + 1) (g' := g0) (l' := l0) (s' := r) (u' := u0 + 1)
      generalize (upd H2 t (.dK (tpD ca ((a0 + 1 : Nat) : Int) g0 l0 r (u0 + 1)))) = H3 at b3 e3
      refine ⟨_, rfl, t, _, rfl, ts_left e3, ?_⟩
      obtain ⟨b4, e4⟩ := gen b3 e3 (a' := a0 + 1) (g' := g0) (l' := 4) (s' := r) (u' := u0 + 1)
      generalize (upd H3 t (.dK (tpD ca ((a0 + 1 : Nat) : Int) g0 4 r (u0 + 1)))) = H4 at b4 e4
      refine ⟨_, rfl, _, _, rfl, rfl, ⟨by decide, by decide, by decide⟩, _, _, rfl, rfl, _, rfl, ite2 (fun h3 => ?_) fun h3 => ⟨_, none, a0 + 1, g0, 4, r, u0 + 1, rfl, b4, e4⟩⟩
      refine ⟨_, rfl, _, rfl, t, _, rfl, ts_great e4, ?_⟩
      obtain ⟨b5, e5⟩ := gen b4 e4 (a' := a0 + 1) (g' := cell) (l' := 4) (s' := r) (u' := u0 + 1)
      generalize (upd H4 t (.dK (tpD ca ((a0 + 1 : Nat) : Int) cell 4 r (u0 + 1)))) = H5 at b5 e5
      refine ⟨_, rfl, t, _, rfl, ts_left e5, ?_⟩
      obtain ⟨b6, e6⟩ := gen b5 e5 (a' := a0 + 1) (g' := cell) (l' := 60) (s' := r) (u' := u0 + 1)
      exact ⟨_, none, a0 + 1, cell, 60, r, u0 + 1, rfl, b6, e6⟩
    · rintro σ' H2 ⟨y2, y3, a, g, l, s, u, rfl, b2, e2⟩
      refine ⟨fun σ' H' => ∃ (y2 y3 : Option V) (a : Nat) (g l s u : Int), σ' = [some (.ref t), some (.int (m : Nat)), y2, y3] ∧ But t H H' ∧ H' t = some (.dK (tpD ca a g l s u)), ?_, ?_⟩
      · refine ⟨_, rfl, t, _, rfl, tg_left e2, _, _, rfl, rfl, _, rfl, ite2 (fun h1 => ?_) fun h1 => ⟨y2, y3, a, g, l, s, u, rfl, b2, e2⟩⟩
        refine ⟨_, rfl, t, _, rfl, tg_left e2, _, _, rfl, rfl, _, rfl, t, _, rfl, ts_left e2, ?_⟩
        obtain ⟨b3, e3⟩ := gen b2 e2 (a' := a) (g' := g) (l' := l - 1) (s' := s) (u' := u)
        exact ⟨y2, y3, a, g, l - 1, s, u, rfl, b3, e3⟩
      · rintro σ' H3 ⟨y2, y3, a, g, l, s, u, rfl, b3, e3⟩
        refine ⟨fun σ' H' => ∃ (y2 y3 : Option V), σ' = [some (.ref t), some (.int (m : Nat)), y2, y3] ∧ H' = H3, ?_, ?_⟩
        · refine ⟨_, rfl, t, _, rfl, tg_great e3, rfl, _, rfl, ite2 (fun h1 => ?_) fun h1 => ⟨y2, y3, rfl, rfl⟩⟩
          refine ⟨_, rfl, t, _, rfl, tg_seed e3, _, rfl, t, _, rfl, tg_turn e3, _, _, rfl, fun r => .inl ⟨_, rfl, _, rfl, _, _, rfl, rfl, by show (0 : Int) < m; omega, fin2 b3 e3 _⟩⟩
        · rintro σ' H' ⟨y2, y3, rfl, rfl⟩
          refine ⟨_, rfl, t, _, rfl, tg_great e3, .inl ⟨_, rfl, _, _, rfl, rfl, by show (0 : Int) < 1009; decide, ?_⟩⟩
          refine ⟨_, rfl, t, _, rfl, tg_great e3, _, _, rfl, rfl, ⟨by decide, by decide⟩, _, rfl, t, _, rfl, ts_great e3, ?_⟩
          obtain ⟨b4, e4⟩ := gen b3 e3 (a' := a) (g' := g / 1009) (l' := l) (s' := s) (u' := u)
          generalize (upd H' t (.dK (tpD ca (a : Int) (g / 1009) l s u))) = H4 at b4 e4
          refine ⟨fun σ' H' => ∃ (a2 : Nat) (g2 l2 s2 u2 : Int), σ' = [some (.ref t), some (.int (m : Nat)), y2, some (.int (g % 1009))] ∧ But t H H' ∧ H' t = some (.dK (tpD ca a2 g2 l2 s2 u2)), ?_, ?_⟩
          · have put : ∃ (a' : Nat) (g' l' s' u' : Int), [some (V.ref t), some (V.int (m : Nat)), y2, some (V.int (g % 1009))] = [some (V.ref t), some (V.int (m : Nat)), y2, some (V.int (g % 1009))] ∧ But t H (upd (upd H4 t (.dK (tpD ca a 0 l s u))) t (.dK (tpD ca a 0 0 s u))) ∧ (upd (upd H4 t (.dK (tpD ca a 0 l s u))) t (.dK (tpD ca a 0 0 s u))) t = some (.dK (tpD ca a' g' l' s' u')) :=
              ⟨a, 0, 0, s, u, rfl, (b4.trans But.upd).trans But.upd, upd_same⟩
            refine ⟨_, rfl, t, _, rfl, tg_great e4, rfl, _, rfl, ite2 (fun h1 => iteT ?_) fun h1 => ?_⟩
            · exact ⟨_, rfl, t, _, rfl, ts_great e4, _, rfl, t, _, rfl, ts_left upd_same, put⟩
            · refine ⟨_, rfl, t, _, rfl, tg_left e4, rfl, _, rfl, ite2 (fun h2 => ?_) fun h2 => ⟨a, g / 1009, l, s, u, rfl, b4, e4⟩⟩
              exact ⟨_, rfl, t, _, rfl, ts_great e4, _, rfl, t, _, rfl, ts_left upd_same, put⟩
          · rintro σ' H5 ⟨a, g, l, s, u, rfl, b5, e5⟩
            exact ⟨_, rfl, .inl ⟨_, rfl, _, rfl, _, _, rfl, rfl, by show (0 : Int) < m; omega, fin2 b5 e5 _⟩⟩
end
end J

set_option Elab.async false
set_option linter.all false
set_option maxRecDepth 100000
set_option maxHeartbeats 4000000
/-! Walks of the law: picks, letters. -/
namespace J
open PySem PySem.Spec PyProof.Rows L2
theorem Tape.dk {K : PySem.W.Frag} {H : Hp} {t ca : Addr} {cs : List Int} (h : Tape K H t ca cs) : ∃ kvs, H t = some (.dK kvs) := let ⟨_, _, _, _, _, e, _⟩ := h; ⟨_, e⟩
theorem Tape.same {K : PySem.W.Frag} {H H' : Hp} {t ca : Addr} {cs : List Int} (h : Tape K H t ca cs) (s : Same H H') : Tape K H' t ca cs := by
  obtain ⟨a, g, l, s', u, e, hC, hne⟩ := h
  exact ⟨a, g, l, s', u, s _ _ e, s.seq hC, hne⟩
theorem seq_wo {K : PySem.W.Frag} {H : Hp} {a t : Addr} {xs : List V} (h : SqL K H a xs) (hne : a ≠ t) : SqL K (wo t H) a xs := by
  rcases h with (h | ⟨o, h⟩) | h
  · exact .inl (.inl (wo_some h hne))
  · exact .inl (.inr ⟨o, wo_some h hne⟩)
  · exact .inr h
/-- what was ahead of it is as it was: the tape stays -/
theorem Tape.mv {K : PySem.W.Frag} {H0 H H' : Hp} {t ca : Addr} {cs : List Int} (h0 : Tape K H0 t ca cs) (h : Tape K H t ca cs) (s : Same (wo t H0) H') (e : H' t = H t) : Tape K H' t ca cs := by
  obtain ⟨_, _, _, _, _, _, hC, hne⟩ := h0
  obtain ⟨a, g, l, s', u, e', _, _⟩ := h
  exact ⟨a, g, l, s', u, e.trans e', s.seq (seq_wo hC hne), hne⟩
theorem wo_but {B H H' : Hp} {t : Addr} (s : Same B H) (n : B t = none) (b : But t H H') : Same B H' := fun c o e => by
  rw [b c (ne_of_none e n)]
  exact s _ _ e
theorem keys_put {κ : Type} [DecidableEq κ] {kvs : List (κ × V)} {k : κ} {y : V} : (putK kvs k y).map (·.1) = if k ∈ kvs.map (·.1) then kvs.map (·.1) else kvs.map (·.1) ++ [k] := by
  unfold putK
  by_cases h : (kvs.any fun kv => decide (kv.1 = k)) = true
  · rw [if_pos h]
    have hm : k ∈ kvs.map (·.1) := by
      obtain ⟨p, hp, hk⟩ := List.any_eq_true.mp h
      exact List.mem_map.mpr ⟨p, hp, of_decide_eq_true hk⟩
    rw [if_pos hm, List.map_map]
    refine List.map_congr_left fun p _ => ?_
    show (if p.1 = k then (p.1, y) else p).1 = p.1
    split <;> rfl
  · rw [if_neg h]
    have hm : ¬ k ∈ kvs.map (·.1) := fun hm => by
      obtain ⟨p, hp, hk⟩ := List.mem_map.mp hm
      exact h (List.any_eq_true.mpr ⟨p, hp, decide_eq_true hk⟩)
    rw [if_neg hm, List.map_append]
    rfl
theorem perm_ints2 {ys : List Int} {es : List Nat} (h : ys.Perm (es.map fun n => ((n : Nat) : Int))) : ∃ zs : List Nat, zs.Perm es ∧ ys = zs.map fun n => ((n : Nat) : Int) := by
  refine ⟨ys.map Int.toNat, ?_, ?_⟩
  · have h2 := h.map Int.toNat
    rw [List.map_map] at h2
    have e : es.map (Int.toNat ∘ fun n => ((n : Nat) : Int)) = es := by
      rw [show (Int.toNat ∘ fun n : Nat => ((n : Nat) : Int)) = id from by funext n; simp]
      exact List.map_id _
    rw [e] at h2
    exact h2
  · rw [List.map_map]
    conv => lhs; rw [← List.map_id ys]
    refine List.map_congr_left fun y hy => ?_
    obtain ⟨n, _, rfl⟩ := List.mem_map.mp (h.mem_iff.mp hy)
    show (n : Int) = (((n : Int).toNat : Nat) : Int)
    rw [Int.toNat_natCast]
section
variable {P : Program} {w : World} {K : PySem.W.Frag} {mg : Str → Option Value} {base : Heap}
def spPick (K : PySem.W.Frag) : Sp := fun vs H Q _ => ∃ t ca cs r xs, vs = [.ref t, .ref r] ∧ Tape K H t ca cs ∧ H r = some (.lst xs) ∧ xs ≠ [] ∧ xs.length ≤ 1000 ∧ ∀ H', But t H H' → Tape K H' t ca cs → ∀ v ∈ xs, Q v H'
theorem ok_L_pick (T : Txt K mg) : DefOk P w K mg base 3 "_law_pick" ["_law_tape_here", "_law_row"] (spPick K) := by
  have D_L_draw := ok_L_draw (P := P) (w := w) (base := base) T
  refine mk_L_pick T (fun vs H Q E h => ?_) (fun f cdv A outer s H vs Q E hr h => ?_)
  · obtain ⟨t, ca, cs, r, xs, rfl, _⟩ := h
    rfl
  · obtain ⟨t, ca, cs, r, xs, rfl, hT, hr', hx, hl, fin⟩ := h
    refine ⟨_, (pss_one (ps_ret (pe_ix (ix_listK (K := K)) (pv 1) (pe_def D_L_draw hr (pa_cons (pv 0) (pa_cons (pe_callB (lenK (K := K)) rfl T.b_len PySem.boot_len (pa_cons (pv 1) pa_nil)) pa_nil))) (fun _ _ => rfl)))), ?_⟩
    have hpos := List.length_pos_iff.mpr hx
    obtain ⟨kvs, ek⟩ := hT.dk
    refine ⟨_, rfl, _, rfl, _, rfl, r, _, rfl, .inl (SqL.of hr'), t, ca, cs, xs.length, rfl, hpos, hT, fun H' hb hT' n hn => ?_⟩
    refine ⟨r, xs, n, xs[n], rfl, rfl, SqL.of ((hb r (ne_of hr' ek fun z => nomatch z)).trans hr'), atI_nat (List.getElem?_eq_getElem hn), fin _ hb hT' _ (List.getElem_mem hn)⟩
def signs : List Nat := [32,33,34,35,36,38,39,40,41,42,43,44,45,46,47,48,49,50,51,52,53,54,55,56,57,58,59,60,61,62,63,64,65,66,67,68,69,70,71,72,73,74,75,76,77,78,79,80,81,82,83,84,85,86,87,88,89,90,91,92,93,94,95,96,97,98,99,100,101,102,103,104,105,106,107,108,109,110,111,112,113,114,115,116,117,118,119,120,121,122,123,124,125,126]
def spSigns : Sp := fun vs H Q _ => vs = [] ∧ Q (.str (alS signs)) H
theorem ok_L_signs (T : Txt K mg) : DefOk P w K mg base 1 "_law_signs" [] spSigns := by
  refine mk_L_signs T (fun vs H Q E h => ?_) (fun f cdv A outer s H vs Q E hr h => ?_)
  · obtain ⟨rfl, _⟩ := h
    rfl
  · obtain ⟨rfl, fin⟩ := h
    refine ⟨_, (pss_cons (ps_st 0 sc_L_signs.nd pe_str)
      (pss_one (ps_ret (pe_op op_add_str (pv 0) pe_str)))), ?_⟩
    have e : ((" !\"#$&'()*+,-./0123456789:;<=>?@ABCDEFGHIJKLMNOPQRSTUVWXYZ[\\]^_`" : Str) ++ ("abcdefghijklmnopqrstuvwxyz{|}~" : Str)) = alS signs := by decide +kernel
    refine ⟨_, rfl, _, _, rfl, rfl, by decide +kernel, ?_⟩
    rw [e]
    exact fin
theorem signs_asc : ∀ i < 94, ∀ j < 94, i < j → signs.getD i 0 < signs.getD j 0 := by decide +kernel
theorem signs_rng : ∀ i < 94, 32 ≤ signs.getD i 0 ∧ signs.getD i 0 ≤ 126 := by decide +kernel
/-- letters in order -/
structure Letters (al : List Nat) (n : Nat) : Prop where
  pos : 1 ≤ al.length
  le : al.length ≤ n
  asc : al.Pairwise (· < ·)
  rng : ∀ c ∈ al, 32 ≤ c ∧ c ≤ 126
def spLtrs (K : PySem.W.Frag) : Sp := fun vs H Q _ => ∃ t ca cs, ∃ m : Nat, vs = [.ref t, .int m] ∧ 1 ≤ m ∧ m ≤ 30 ∧ Tape K H t ca cs ∧ ∀ H', Same (wo t H) H' → Tape K H' t ca cs → ∀ al, Letters al m → Q (.str (alS al)) H'
theorem ok_L_letters (T : Txt K mg) : DefOk P w K mg base 4 "_law_letters" ["_law_tape_here", "_law_many"] (spLtrs K) := by
  have D_L_draw := ok_L_draw (P := P) (w := w) (base := base) T
  have D_L_pick := ok_L_pick (P := P) (w := w) (base := base) T
  have D_L_signs := ok_L_signs (P := P) (w := w) (base := base) T
  refine mk_L_letters T (fun vs H Q E h => ?_) (fun f cdv A outer s H vs Q E hr h => ?_)
  · obtain ⟨t, ca, cs, m, rfl, _⟩ := h
    rfl
  · obtain ⟨t, ca, cs, m, rfl, h1, h30, hT, fin⟩ := h
    refine ⟨_, (pss_cons (ps_st 2 sc_L_letters.nd pe_dnewK)
      (pss_cons (ps_st 3 sc_L_letters.nd (pe_def D_L_draw hr (pa_cons (pv 0) (pa_cons pe_int pa_nil))))
      (pss_cons (ps_for PassesOwn.never rfl (pi_range1 rfl T.b_range (pa_cons (pv 1) pa_nil)) (pg_n 4 sc_L_letters.nd)
        (pss_one (ps_dput (hu_of hr) (pv 2) (pe_def D_L_pick hr (pa_cons (pv 0) (pa_cons (pe_lst (pa_cons (pe_op op_mod (pe_callTy call_int1 rfl T.b_int (by decide +kernel) (pa_cons (pe_op op_add (pv 3) (pv 4)) pa_nil)) pe_int) (pa_cons (pe_def D_L_draw hr (pa_cons (pv 0) (pa_cons pe_int pa_nil))) pa_nil))) pa_nil))) pe_bl rfl)))
      (pss_one (ps_ret (pe_join pe_str (pe_lc (own := [("_law_place", 5)]) (g := (gName 5)) (tt := tYes) rfl sc_L_letters.nd (pi_list (pe_callB (call_sortedDI rfl) rfl T.b_sorted (by decide +kernel) (pa_cons (pv 2) pa_nil))) (blkOk_by (N := N_L_letters) (sc := defScope s_L_letters) (by decide +kernel)) (fun _ _ _ _ _ => (pg_n 5 sc_L_letters.nd)) (fun _ _ _ _ _ => pts_nil) (fun _ _ _ _ _ => (pe_ix ix_str (pe_def0 D_L_signs hr) (pv 5) (fun _ _ => rfl)))))))))), ?_⟩
    obtain ⟨tk, etk⟩ := hT.dk
    -- chosen
    refine fun D hD => ?_
    have s1 : Same H (upd H D (.dK [])) := Same.new hD
    have hT1 := hT.same s1
    have hDt : t ≠ D := ne_of_none etk hD
    have hB : wo t H t = none := wo_at
    have hBD : wo t H D = none := wo_le.free hD
    have e1 : (upd H D (.dK [])) D = some (.dK []) := upd_same
    have sB1 : Same (wo t H) (upd H D (.dK [])) := wo_le.trans s1
    generalize (upd H D (.dK [])) = H1 at s1 hT1 e1 sB1
    refine ⟨_, rfl, t, ca, cs, 94, rfl, by decide, hT1, fun H2 b2 hT2 fr hfr => ?_⟩
    refine ⟨_, rfl, _, rfl, by omega, by omega, for_range (lo := 0) (fun i σ' H' => ∃ y4 y5 kvs, ∃ ks : List Nat, σ' = [some (.ref t), some (.int (m : Nat)), some (.ref D), some (.int (fr : Nat)), y4, y5] ∧ Same (wo t H) H' ∧ Tape K H' t ca cs ∧ H' D = some (.dK kvs) ∧ kvs.map (·.1) = ks.map (fun n => (Sum.inl ((n : Nat) : Int) : Key)) ∧
        ks.Nodup ∧ (∀ x ∈ ks, x < 94) ∧ ks.length ≤ i ∧ (0 < i → ks ≠ [])) ⟨none, none, [], [], rfl, wo_but sB1 hB b2, hT2, (b2 D (Ne.symm hDt)).trans e1, rfl, .nil, (fun x hx => nomatch hx), Nat.le_refl _, fun h => absurd h (Nat.lt_irrefl _)⟩ ?_ ?_⟩
    · rintro i σ' H3 hi ⟨y4, y5, kvs, ks, rfl, sB3, hT3, e3, hk, hnd, hlt, hlen, hne⟩
      rw [Int.toNat_natCast] at hi
      refine ⟨_, rfl, _, rfl, _, rfl, _, rfl, _, _, rfl, rfl, .inl ⟨_, rfl, _, _, rfl, rfl, by show (0 : Int) < 94; decide, ?_⟩⟩
      refine ⟨_, rfl, t, ca, cs, 94, rfl, by decide, hT3, fun H4 b4 hT4 n hn => ⟨two_ok, fun l hl => ?_⟩⟩
      have s5 : Same H4 (upd H4 l (.lst [.int (((fr : Nat) : Int) + (0 + ((i : Nat) : Int)) |> fun z => z % 94), .int (n : Nat)])) := Same.new hl
      refine ⟨t, ca, cs, l, _, rfl, hT4.same (Same.new hl), upd_same, by simp, by show 2 ≤ 1000; decide, fun H6 b6 hT6 v hv => ?_⟩
      have hx : ∃ x : Nat, x < 94 ∧ v = .int (x : Nat) := by
        rcases List.mem_cons.mp hv with h | h
        · refine ⟨((((fr : Nat) : Int) + (0 + ((i : Nat) : Int))) % 94).toNat, ?_, ?_⟩
          · have := Int.emod_lt_of_pos (((fr : Nat) : Int) + (0 + ((i : Nat) : Int))) (b := 94) (by decide)
            omega
          · rw [h]
            have := Int.emod_nonneg (((fr : Nat) : Int) + (0 + ((i : Nat) : Int))) (b := 94) (by decide)
            rw [Int.toNat_of_nonneg this]
        · rw [List.mem_singleton] at h
          exact ⟨n, hn, h⟩
      obtain ⟨x, hx94, rfl⟩ := hx
      have e4 := (b4 D (Ne.symm hDt)).trans e3
      have e5 := (Same.new (o := .lst [.int ((((fr : Nat) : Int) + (0 + ((i : Nat) : Int))) % 94), .int (n : Nat)]) hl) _ _ e4
      have e6 := (b6 D (Ne.symm hDt)).trans e5
      have sB6 : Same (wo t H) H6 := wo_but ((wo_but sB3 hB b4).trans (Same.new hl)) hB b6
      have hkl : kvs.length = ks.length := by
        have := congrArg List.length hk
        rw [List.length_map, List.length_map] at this
        exact this
      refine ⟨D, _, rfl, DPut.k (k := Sum.inl ((x : Nat) : Int)) e6 (by rw [hkl]; exact small_lt (by omega)), ?_⟩
      have sB7 : Same (wo t H) (upd H6 D (.dK (putK kvs (Sum.inl ((x : Nat) : Int)) (.bl true)))) := Same.own sB6 hBD
      have hmem : (Sum.inl ((x : Nat) : Int) : Key) ∈ kvs.map (·.1) ↔ x ∈ ks := by
        rw [hk]
        constructor
        · intro h
          obtain ⟨z, hz, q⟩ := List.mem_map.mp h
          have q2 : ((z : Nat) : Int) = ((x : Nat) : Int) := Sum.inl.inj q
          have : z = x := by omega
          rw [← this]
          exact hz
        · intro h
          exact List.mem_map.mpr ⟨x, h, rfl⟩
      by_cases hin : x ∈ ks
      · refine ⟨_, y5, _, ks, rfl, sB7, hT.mv hT6 sB7 (upd_ne hDt), upd_same, ?_, hnd, hlt, by omega, fun _ z => by rw [z] at hin; exact nomatch hin⟩
        rw [keys_put, if_pos (hmem.mpr hin)]
        exact hk
      · refine ⟨_, y5, _, ks ++ [x], rfl, sB7, hT.mv hT6 sB7 (upd_ne hDt), upd_same, ?_, ?_, ?_, by rw [List.length_append, List.length_singleton]; omega, fun _ => by simp⟩
        · rw [keys_put, if_neg fun z => hin (hmem.mp z), hk, List.map_append]
          rfl
        · rw [List.nodup_append]
          exact ⟨hnd, by simp, fun a ha b hb q => by rw [List.mem_singleton.mp hb] at q; rw [q] at ha; exact hin ha⟩
        · intro y hy
          rcases List.mem_append.mp hy with h | h
          · exact hlt y h
          · rw [List.mem_singleton.mp h]
            exact hx94
    · rintro σ' H3 ⟨y4, y5, kvs, ks, rfl, sB3, hT3, e3, hk, hnd, hlt, hlen, hne⟩
      rw [Int.toNat_natCast] at hlen hne
      have hks := hne (by omega)
      refine ⟨⟨_, rfl⟩, _, rfl, D, kvs, ks.map (fun n => ((n : Nat) : Int)), rfl, Rd.of e3, by rw [hk, List.map_map]; rfl, by rw [List.length_map]; omega, fun ys p hperm hasc hp => ?_⟩
      obtain ⟨zs, hzp, rfl⟩ := perm_ints2 hperm
      rw [nIs_ints]
      have s4 : Same H3 (upd H3 p (.lst (nIs zs))) := Same.new hp
      have e4 : (upd H3 p (.lst (nIs zs))) p = some (.lst (nIs zs)) := upd_same
      have hT4 := hT3.same s4
      have sB4 := sB3.trans s4
      generalize (upd H3 p (.lst (nIs zs))) = H4 at s4 e4 hT4 sB4
      have hzl : zs.length = ks.length := hzp.length_eq
      have hz94 : ∀ x ∈ zs, x < 94 := fun x hx => hlt x (hzp.mem_iff.mp hx)
      refine ⟨p, rfl, ⟨_, SqL.of e4⟩, fun D2 hD2 => lc_list (K := K) (xs := nIs zs) (fun i H' => Same H4 H' ∧ H' D2 = some (.lst (((zs.take i).map fun z => tx signs [z]).map V.str))) ⟨Same.new hD2, upd_same⟩ (fun i H' _ h => SqL.of (h.1 _ _ e4)) ?_ ?_⟩
      · rintro i v H5 hv ⟨s5, e5⟩
        obtain ⟨z, hz, rfl⟩ := nIs_get' hv
        have hz9 := hz94 z (List.mem_of_getElem? hz)
        have hsz : signs[z]? = some (signs.getD z 0) := getD_at (by show z < 94; exact hz9)
        have hil : i < zs.length := (List.getElem?_eq_some_iff.mp hz).1
        refine ⟨rfl, yes (iteT ?_)⟩
        refine ⟨rfl, _, rfl, _, _, signs.getD z 0, rfl, rfl, by decide +kernel, atI_nat (by show signs[z]? = _; exact hsz), _, e5, by rw [List.length_map, List.length_map, List.length_take]; exact small_lt (by omega), Same.own s5 hD2, ?_⟩
        rw [upd_same, List.take_add_one, hz, List.map_append, List.map_append, ← tx_one hsz]
        rfl
      · rintro H5 ⟨s5, e5⟩
        rw [nIs_len, List.take_length] at e5
        refine ⟨_, D2, zs.map fun z => tx signs [z], rfl, rfl, .inl (SqL.of e5), ?_, ?_⟩
        · have h2 : ("" : Str).length = 0 := by decide +kernel
          have h3 : ∀ S : List Nat, ((S.map fun z => tx signs [z]).map (·.length)).sum = S.length := by
            intro S
            induction S with
            | nil => rfl
            | cons a S ih =>
              rw [List.map_cons, List.map_cons, List.sum_cons, ih, tx_len]
              show 1 + S.length = S.length + 1
              omega
          rw [h2, h3]
          omega
        · have e6 : (zs.map fun z => tx signs [z]) = (zs.map fun z => [z]).map (tx signs) := by rw [List.map_map]; rfl
          rw [e6, join_tx]
          have e7 : ∀ S : List Nat, (S.map fun z => [z]).flatMap id = S := by
            intro S
            induction S with
            | nil => rfl
            | cons a S ih =>
              rw [List.map_cons, List.flatMap_cons, ih]
              rfl
          rw [e7]
          have e8 : tx signs zs = alS (zs.map fun z => signs.getD z 0) := rfl
          rw [e8]
          have sB5 := sB4.trans s5
          refine fin H5 sB5 (hT4.same s5) _ ⟨?_, ?_, ?_, ?_⟩
          · rw [List.length_map, hzl]
            exact List.length_pos_iff.mpr hks
          · rw [List.length_map, hzl]
            exact hlen
          · rw [List.pairwise_map]
            rw [List.pairwise_map] at hasc
            have hn : zs.Nodup := hzp.nodup_iff.mpr hnd
            refine ((hasc.and hn).imp_of_mem fun {a b} ha hb h => ?_)
            exact signs_asc a (hz94 a ha) b (hz94 b hb) (by have h1 := h.1; have h2 := h.2; omega)
          · intro c hc
            obtain ⟨z, hz, rfl⟩ := List.mem_map.mp hc
            exact signs_rng z (hz94 z hz)
end
end J

set_option Elab.async false
set_option linter.all false
set_option maxRecDepth 100000
set_option maxHeartbeats 4000000
/-! Walks of the law: its own cut. -/
namespace J
open PySem PySem.Spec PyProof.Rows L2
/-! ### the law's joins -/
def ljD (al : List Nat) (pl ra ta : Addr) : List (Key × V) := [(Sum.inr "letters", .str (alS al)), (Sum.inr "pairs", .ref pl), (Sum.inr "ranks", .ref ra), (Sum.inr "texts", .ref ta)]
theorem lj_merge (al : List Nat) (pl ra ta : Addr) : mergeK [] (ljD al pl ra ta) = ljD al pl ra ta := by kernel_rfl
theorem lj_letters {H : Hp} {a : Addr} {al : List Nat} {pl ra ta : Addr} (e : H a = some (.dK (ljD al pl ra ta))) : DGet H a (.str "letters") (some (.str (alS al))) := dk_get (k := Sum.inr "letters") e (by kernel_rfl)
theorem lj_pairs {H : Hp} {a : Addr} {al : List Nat} {pl ra ta : Addr} (e : H a = some (.dK (ljD al pl ra ta))) : DGet H a (.str "pairs") (some (.ref pl)) := dk_get (k := Sum.inr "pairs") e (by kernel_rfl)
theorem lj_ranks {H : Hp} {a : Addr} {al : List Nat} {pl ra ta : Addr} (e : H a = some (.dK (ljD al pl ra ta))) : DGet H a (.str "ranks") (some (.ref ra)) := dk_get (k := Sum.inr "ranks") e (by kernel_rfl)
theorem lj_texts {H : Hp} {a : Addr} {al : List Nat} {pl ra ta : Addr} (e : H a = some (.dK (ljD al pl ra ta))) : DGet H a (.str "texts") (some (.ref ta)) := dk_get (k := Sum.inr "texts") e (by kernel_rfl)
structure LJAt (P : Program) (w : World) (H : Hp) (a : Addr) (J : JD) (pl ra ta : Addr) (prs : List Addr) : Prop where
  ob : H a = some (.dK (ljD J.al pl ra ta))
  pairs : H pl = some (.lst (prs.map V.ref))
  prs : PairsAt H prs J.ps
  ranks : PD P w H ra (rkT 0 J.ps)
  texts : H ta = some (.lst (txV J))
theorem LJAt.same {P : Program} {w : World} {H H' : Hp} {a : Addr} {J : JD} {pl ra ta : Addr} {prs : List Addr} (h : LJAt P w H a J pl ra ta prs) (s : Same H H') : LJAt P w H' a J pl ra ta prs :=
  ⟨s _ _ h.ob, s _ _ h.pairs, h.prs.tk (.of s), h.ranks.same s, s _ _ h.texts⟩
def LJ (P : Program) (w : World) (H : Hp) (a : Addr) (J : JD) : Prop := ∃ pl ra ta prs, LJAt P w H a J pl ra ta prs
theorem LJ.same {P : Program} {w : World} {H H' : Hp} {a : Addr} {J : JD} (h : LJ P w H a J) (s : Same H H') : LJ P w H' a J := let ⟨pl, ra, ta, prs, h⟩ := h; ⟨pl, ra, ta, prs, h.same s⟩
theorem cut_to (xs : List V) (i : Nat) (h : i ≤ xs.length) : cutV xs none (some (i : Int)) = xs.take i := by
  unfold cutV
  rw [HT.sIx_none, HT.sIx_nat, List.drop_zero, Nat.sub_zero, Nat.min_eq_left h]
theorem cut_from (xs : List V) (i : Nat) (h : i ≤ xs.length) : cutV xs (some (i : Int)) none = xs.drop i := by
  unfold cutV
  rw [HT.sIx_nat, HT.sIx_none, Nat.min_eq_left h]
  exact List.take_of_length_le (by rw [List.length_drop]; omega)
theorem split_at {R : List Nat} {i x y : Nat} (h1 : R[i]? = some x) (h2 : R[i + 1]? = some y) : R = R.take i ++ x :: y :: R.drop (i + 2) := by
  obtain ⟨l1, e1⟩ := List.getElem?_eq_some_iff.mp h1
  obtain ⟨l2, e2⟩ := List.getElem?_eq_some_iff.mp h2
  rw [← e1, ← e2, ← List.drop_eq_getElem_cons l2, ← List.drop_eq_getElem_cons l1, List.take_append_drop]
/-- the best place so far: the leftmost of the lowest rank -/
def BestC (H : Hp) (v : V) (ps : List (Nat × Nat)) (R : List Nat) (i : Nat) : Prop :=
  (v = .non ∧ ∀ j p, j < i → R[j]? = some p.1 → R[j + 1]? = some p.2 → p ∉ ps) ∨
  ∃ (k at_ : Nat) (c : Nat × Nat) (b : Addr), v = .ref b ∧ H b = some (.tup [nI k, nI at_]) ∧ at_ < i ∧ ps[k]? = some c ∧ R[at_]? = some c.1 ∧ R[at_ + 1]? = some c.2 ∧
    (∀ j p r, j < i → R[j]? = some p.1 → R[j + 1]? = some p.2 → ps[r]? = some p → k ≤ r) ∧ ∀ j, j < at_ → R[j]? = some c.1 → R[j + 1]? = some c.2 → False
theorem BestC.tk {H H' : Hp} {v : V} {ps : List (Nat × Nat)} {R : List Nat} {i : Nat} (h : BestC H v ps R i) (t : TK H H') : BestC H' v ps R i := by
  rcases h with h | ⟨k, a, c, b, e, hb, r⟩
  · exact .inl h
  · exact .inr ⟨k, a, c, b, e, t _ _ hb, r⟩
section
variable {P : Program} {w : World} {K : PySem.W.Frag} {mg : Str → Option Value} {base : Heap}
def spLCut (P : Program) (w : World) : Sp := fun vs H Q _ => ∃ a J W, vs = [.ref a, .str (tx J.al W)] ∧ LJ P w H a J ∧ J.Ok ∧ (∀ x ∈ W, x < J.al.length) ∧ W.length ≤ 100000 ∧ ∀ H' r, Same H H' → H' r = some (.lst (nIs (stg J.al.length J.ps W))) → Q (.ref r) H'
theorem ok_L_cut (T : Txt K mg) : DefOk P w K mg base 1 "_law_cut" ["_law_joins_here", "_law_text"] (spLCut P w) := by
  refine mk_L_cut T (fun vs H Q E h => ?_) (fun f cdv A outer s H vs Q E hr h => ?_)
  · obtain ⟨a, J, W, rfl, _⟩ := h
    rfl
  · obtain ⟨a, J, W, rfl, hL, ok, hW, hl, fin⟩ := h
    refine ⟨_, (pss_cons (ps_setLc (i := 2) (own := [("_law_sign", 8)]) (g := (gName 8)) (tt := tYes) rfl sc_L_cut.nd rfl rfl (sw_true rfl rfl rfl (by decide +kernel)) (pi_str (pv 1)) (blkOk_by (N := N_L_cut) (sc := defScope s_L_cut) (by decide +kernel)) (fun _ _ _ _ _ => (pg_n 8 sc_L_cut.nd)) (fun _ _ _ _ _ => pts_nil) (fun _ _ _ _ _ => (bmK (K := K) PySem.F.plainAttrs_str PySem.F.slot_str_index PySem.F.type_str_index mt_sindex (pe_dget (hu_of hr) (pv 0) pe_str (fun _ _ => rfl)) (pa_cons (pv 8) pa_nil))))
      (pss_cons (ps_st 3 sc_L_cut.nd (pe_callB call_len_str rfl T.b_len PySem.boot_len (pa_cons (pe_dget (hu_of hr) (pv 0) pe_str (fun _ _ => rfl)) pa_nil)))
      (pss_cons (ps_for PassesOwn.never rfl (pi_range1 rfl T.b_range (pa_cons (pe_callB call_len_str rfl T.b_len PySem.boot_len (pa_cons (pv 1) pa_nil)) pa_nil)) (pg_n 4 sc_L_cut.nd)
        (pss_cons (ps_st 5 sc_L_cut.nd pe_non)
        (pss_cons (ps_for PassesOwn.never rfl (pi_range1 rfl T.b_range (pa_cons (pe_op op_sub (pe_callB (lenK (K := K)) rfl T.b_len PySem.boot_len (pa_cons (pv 2) pa_nil)) pe_int) pa_nil)) (pg_n 6 sc_L_cut.nd)
          (pss_cons (ps_st 7 sc_L_cut.nd (pdget2K (P := P) (w := w) (hu_of hr) (pe_dget (hu_of hr) (pv 0) pe_str (fun _ _ => rfl)) (pe_tup (pa_cons (pe_ix (ix_listK (K := K)) (pv 2) (pv 6) (fun _ _ => rfl)) (pa_cons (pe_ix (ix_listK (K := K)) (pv 2) (pe_op op_add (pv 6) pe_int) (fun _ _ => rfl)) pa_nil))) pe_non))
          (pss_one (ps_if (PW.pt (pw_and (pt_cmpR op_notN (pv 7) pe_non (nomark _)) (pw_and1 (PW.pt (pw_or (pt_cmpR op_isN (pv 5) pe_non (nomark _)) (pw_or1 (pt_cmpR op_lt (pv 7) (pe_ix (ix_tupK (K := K)) (pv 5) pe_int (fun _ _ => rfl)) (nomark _)))))))) (pss_one (ps_st 5 sc_L_cut.nd (pe_tup (pa_cons (pv 7) (pa_cons (pv 6) pa_nil))))) pss_nil))))
        (pss_cons (ps_if (pt_cmpR op_isN (pv 5) pe_non (nomark _)) (pss_one ps_break) pss_nil)
        (pss_one (ps_st 2 sc_L_cut.nd (pe_op op_cat (pe_op op_cat (pe_slice (sl_listK (K := K)) (pv 2) po_none (po_some (pe_ix (ix_tupK (K := K)) (pv 5) pe_int (fun _ _ => rfl)))) (pe_lst (pa_cons (pe_op op_add (pv 3) (pe_ix (ix_tupK (K := K)) (pv 5) pe_int (fun _ _ => rfl))) pa_nil))) (pe_slice (sl_listK (K := K)) (pv 2) (po_some (pe_op op_add (pe_ix (ix_tupK (K := K)) (pv 5) pe_int (fun _ _ => rfl)) pe_int)) po_none))))))))
      (pss_one (ps_ret (pv 2)))))), ?_⟩
    obtain ⟨pl, ra, ta, prs, hA⟩ := hL
    have hU := ok.prop.uniq
    have hLow := ok.prop.low
    -- the letters' places
    refine ⟨_, rfl, _, rfl, fun D hD => lc_str (fun i H' => Same H H' ∧ H' D = some (.lst (nIs (W.take i)))) ⟨Same.new hD, upd_same⟩ ?_ ?_⟩
    · rintro i c H' hi ⟨sm, hDl⟩
      rw [tx_get] at hi
      obtain ⟨x, hx, hcx⟩ := Option.map_eq_some_iff.mp hi
      have hxb := hW x (List.mem_of_getElem? hx)
      have hac : J.al[x]? = some c := by rw [← hcx]; exact getD_at hxb
      obtain ⟨rest, ho⟩ := occ_letter ok.nodup hac
      refine ⟨rfl, yes (iteT ?_)⟩
      refine ⟨_, rfl, a, _, rfl, lj_letters (sm _ _ hA.ob), rfl, _, rfl, _, _, x, rest, rfl, rfl, ho, _, hDl, by rw [nIs_len, List.length_take]; exact small_lt (by omega), Same.own sm hD, ?_⟩
      rw [upd_same, List.take_add_one, hx]
      exact congrArg (fun z => some (HO.lst z)) (nIs_snoc _ x)
    · rintro H1 ⟨s1, hDl⟩
      rw [tx_size, List.take_length] at hDl
      refine ⟨_, rfl, a, _, rfl, lj_letters (s1 _ _ hA.ob), _, rfl, by rw [alS_len]; exact small_ok (by have := ok.b30; omega), ?_⟩
      rw [alS_len]
      refine ⟨_, rfl, _, rfl, by rw [tx_len]; exact small_ok hl, _, rfl, by omega, by rw [tx_len]; omega, ?_⟩
      rw [tx_len, Int.toNat_natCast]
      refine for_range (lo := 0) (fun k σ' H' => ∃ r R y4 y5 y6 y7 y8, σ' = [some (.ref a), some (.str (tx J.al W)), some (.ref r), some (.int (J.al.length : Nat)), y4, y5, y6, y7, y8] ∧ Same H H' ∧ H' r = some (.lst (nIs R)) ∧ stg J.al.length J.ps R = stg J.al.length J.ps W ∧ R.length + k ≤ W.length)
        ⟨D, W, none, none, none, none, none, rfl, s1, hDl, rfl, Nat.le_refl _⟩ ?_ ?_
      · rintro k σ' H2 hk ⟨r, R, y4, y5, y6, y7, y8, rfl, s2, hR, hst, hlen⟩
        -- the best place
        refine ⟨_, rfl, r, _, rfl, .inl (SqL.of hR), _, _, rfl, rfl, _, rfl, by rw [nIs_len]; omega, by rw [nIs_len]; omega, for_range (lo := 0) (fun i σ' H' => ∃ bv y6 y7, σ' = [some (.ref a), some (.str (tx J.al W)), some (.ref r), some (.int (J.al.length : Nat)), some (.int (0 + (k : Int))), some bv, y6, y7, y8] ∧ Same H2 H' ∧ BestC H' bv J.ps R i)
          ⟨.non, y6, y7, rfl, Same.refl _, .inl ⟨rfl, fun j p hj => absurd hj (Nat.not_lt_zero _)⟩⟩ ?_ ?_⟩
        · rintro i σ' H3 hi ⟨bv, y6, y7, rfl, s3, hB⟩
          rw [nIs_len] at hi
          have hx : R[i]? = some R[i] := List.getElem?_eq_getElem (by omega)
          have hy : R[i + 1]? = some R[i + 1] := List.getElem?_eq_getElem (by omega)
          generalize R[i] = x at hx
          generalize R[i + 1] = y at hy
          have hR3 := s3 _ _ hR
          have hA3 := (hA.same s2).same s3
          refine ⟨_, rfl, a, _, rfl, lj_ranks hA3.ob, ra, _, rfl, hA3.ranks, _, rfl, _, rfl, r, _, _, nI x, rfl, rfl, SqL.of hR3, at_of (j := i) (by omega) (nIs_get hx), _, rfl, _, rfl, _, _, rfl, rfl, r, _, _, nI y, rfl, rfl, SqL.of hR3, at_of (j := i + 1) (by omega) (nIs_get hy), two_ok, fun t ht => ?_⟩
          have s4 : Same H3 (upd H3 t (.tup [nI x, nI y])) := Same.new ht
          have e4 : (upd H3 t (.tup [nI x, nI y])) t = some (.tup [nI x, nI y]) := upd_same
          generalize (upd H3 t (.tup [nI x, nI y])) = H4 at s4 e4
          refine ⟨t, pk (x, y), _, rfl, hA3.ranks.same s4, e4, ?_⟩
          rw [rkT_val]
          have hB4 := hB.tk (TK.of s4)
          have s34 := s3.trans s4
          cases hrk : rk 0 J.ps (x, y) with
          | none =>
            have hnot := rk_none.mp hrk
            refine ⟨_, rfl, rfl, _, rfl, iteF ?_⟩
            refine iteF ⟨bv, _, _, rfl, s34, ?_⟩
            rcases hB4 with ⟨e, h⟩ | ⟨k0, a0, c, b, e, hb, h0, h1, h2, h3, h4, h5⟩
            · refine .inl ⟨e, fun j p hj h1 h2 => ?_⟩
              rcases Nat.lt_succ_iff_lt_or_eq.mp hj with hj | hj
              · exact h j p hj h1 h2
              · rw [hj, hx] at h1
                rw [hj, hy] at h2
                have : p = (x, y) := Prod.ext (Option.some.inj h1).symm (Option.some.inj h2).symm
                rw [this]
                exact hnot
            · refine .inr ⟨k0, a0, c, b, e, hb, by omega, h1, h2, h3, fun j p r hj g1 g2 g3 => ?_, h5⟩
              rcases Nat.lt_succ_iff_lt_or_eq.mp hj with hj | hj
              · exact h4 j p r hj g1 g2 g3
              · rw [hj, hx] at g1
                rw [hj, hy] at g2
                have : p = (x, y) := Prod.ext (Option.some.inj g1).symm (Option.some.inj g2).symm
                rw [this] at g3
                exact absurd (List.mem_of_getElem? g3) hnot
          | some rr =>
            have hps := rk_some hrk
            refine ⟨_, rfl, rfl, _, rfl, iteT ?_⟩
            -- a better one is kept
            have better : (∀ j p r, j < i → R[j]? = some p.1 → R[j + 1]? = some p.2 → J.ps[r]? = some p → rr < r) → ∀ (H5 : Hp) (t2 : Addr), Same H4 H5 → H5 t2 = some (.tup [nI rr, nI i]) → BestC H5 (.ref t2) J.ps R (i + 1) := by
              intro hall H5 t2 s5 ht2
              refine .inr ⟨rr, i, (x, y), t2, rfl, ht2, Nat.lt_succ_self _, hps, hx, hy, fun j p r hj g1 g2 g3 => ?_, fun j hj g1 g2 => ?_⟩
              · rcases Nat.lt_succ_iff_lt_or_eq.mp hj with hj | hj
                · exact Nat.le_of_lt (hall j p r hj g1 g2 g3)
                · rw [hj, hx] at g1
                  rw [hj, hy] at g2
                  have : p = (x, y) := Prod.ext (Option.some.inj g1).symm (Option.some.inj g2).symm
                  rw [this] at g3
                  exact Nat.le_of_eq (hU _ _ _ hps g3)
              · exact absurd (hall j (x, y) rr hj g1 g2 hps) (Nat.lt_irrefl _)
            rcases hB4 with ⟨rfl, h⟩ | ⟨k0, a0, c, b, rfl, hb, h0, h1, h2, h3, h4, h5⟩
            · refine ⟨_, rfl, rfl, _, rfl, iteT (iteT ⟨_, rfl, _, rfl, two_ok, fun t2 ht2 => ?_⟩)⟩
              have s5 := Same.new (o := .tup [nI rr, .int (0 + (i : Int))]) ht2
              refine ⟨.ref t2, _, _, rfl, s34.trans s5, better (fun j p r hj g1 g2 g3 => absurd (List.mem_of_getElem? g3) (h j p hj g1 g2)) _ t2 s5 ?_⟩
              rw [upd_same, show (0 + (i : Int)) = ((i : Nat) : Int) by omega]
              rfl
            · refine ⟨_, rfl, rfl, _, rfl, iteF ?_⟩
              refine ⟨_, rfl, _, rfl, b, _, _, _, rfl, rfl, SqT.of hb, atI_nat (j := 0) rfl, _, _, rfl, rfl, _, rfl, ite2 (fun g => ?_) fun g => ?_⟩
              · have g : rr < k0 := by
                  have := of_decide_eq_true g
                  omega
                refine ⟨_, rfl, _, rfl, two_ok, fun t2 ht2 => ?_⟩
                have s5 := Same.new (o := .tup [nI rr, .int (0 + (i : Int))]) ht2
                refine ⟨.ref t2, _, _, rfl, s34.trans s5, better (fun j p r hj g1 g2 g3 => Nat.lt_of_lt_of_le g (h4 j p r hj g1 g2 g3)) _ t2 s5 ?_⟩
                rw [upd_same, show (0 + (i : Int)) = ((i : Nat) : Int) by omega]
                rfl
              · have g : ¬ rr < k0 := fun z => g (decide_eq_true (by omega))
                refine ⟨.ref b, _, _, rfl, s34, .inr ⟨k0, a0, c, b, rfl, hb, by omega, h1, h2, h3, fun j p r hj g1 g2 g3 => ?_, h5⟩⟩
                rcases Nat.lt_succ_iff_lt_or_eq.mp hj with hj | hj
                · exact h4 j p r hj g1 g2 g3
                · rw [hj, hx] at g1
                  rw [hj, hy] at g2
                  have : p = (x, y) := Prod.ext (Option.some.inj g1).symm (Option.some.inj g2).symm
                  rw [this] at g3
                  have := hU _ _ _ hps g3
                  omega
        · rintro σ' H3 ⟨bv, y6, y7, rfl, s3, hB⟩
          have hn : (((nIs R).length : Int) - 1).toNat = R.length - 1 := by rw [nIs_len]; omega
          rw [hn] at hB
          have hR3 := s3 _ _ hR
          rcases hB with ⟨rfl, hno⟩ | ⟨k0, a0, c, b, rfl, hb, h0, h1, h2, h3, h4, h5⟩
          · refine ⟨_, rfl, rfl, _, rfl, iteT ?_⟩
            refine ⟨_, rfl, fin _ _ (s2.trans s3) ?_⟩
            rw [← hst, stg_noop J.al.length J.ps fun p hp hadj => ?_]
            · exact hR3
            · obtain ⟨j, g1, g2⟩ := adj_ix.mp hadj
              have := (List.getElem?_eq_some_iff.mp g2).1
              exact hno j p (by omega) g1 g2 hp
          · refine ⟨_, rfl, rfl, _, rfl, iteF ?_⟩
            have hsp := split_at h2 h3
            have hal : a0 + 1 < R.length := (List.getElem?_eq_some_iff.mp h3).1
            -- row[:best[1]]
            refine ⟨_, rfl, _, rfl, b, _, _, _, rfl, rfl, SqT.of hb, atI_nat (j := 1) rfl, ?_⟩
            refine ⟨_, rfl, r, _, rfl, SqL.of hR3, fun p1 hp1 => ?_⟩
            rw [show nI a0 = V.int ((a0 : Nat) : Int) from rfl] at *
            rw [cut_to _ a0 (by rw [nIs_len]; omega)]
            have z1 := Same.new (o := .lst ((nIs R).take a0)) hp1
            have hb1 := z1 _ _ hb
            refine ⟨_, rfl, _, rfl, b, _, _, _, rfl, rfl, SqT.of hb1, atI_nat (j := 0) rfl, _, _, rfl, rfl, one_ok, fun p2 hp2 => ?_⟩
            have z2 := Same.new (o := .lst [V.int (((J.al.length : Nat) : Int) + ((k0 : Nat) : Int))]) hp2
            refine ⟨p1, p2, _, _, rfl, rfl, z2 _ _ upd_same, upd_same, by rw [List.length_take, nIs_len]; exact small_ok (by show _ + 1 ≤ _; omega), fun p3 hp3 => ?_⟩
            have z3 := Same.new (o := .lst ((nIs R).take a0 ++ [V.int (((J.al.length : Nat) : Int) + ((k0 : Nat) : Int))])) hp3
            have z123 := (z1.trans z2).trans z3
            have hb3 := z123 _ _ hb
            have hR4 := z123 _ _ hR3
            refine ⟨_, rfl, _, rfl, b, _, _, _, rfl, rfl, SqT.of hb3, atI_nat (j := 1) rfl, _, _, rfl, rfl, _, rfl, r, _, rfl, SqL.of hR4, fun p4 hp4 => ?_⟩
            rw [show (((a0 : Nat) : Int) + 2) = ((a0 + 2 : Nat) : Int) by omega, cut_from _ (a0 + 2) (by rw [nIs_len]; omega)]
            have z4 := Same.new (o := .lst ((nIs R).drop (a0 + 2))) hp4
            refine ⟨p3, p4, _, _, rfl, rfl, z4 _ _ upd_same, upd_same, by rw [List.length_append, List.length_take, List.length_drop, nIs_len]; exact small_ok (by show _ + 1 + _ ≤ _; omega), fun p5 hp5 => ?_⟩
            have z5 := Same.new (o := .lst ((nIs R).take a0 ++ [V.int (((J.al.length : Nat) : Int) + ((k0 : Nat) : Int))] ++ (nIs R).drop (a0 + 2))) hp5
            refine ⟨p5, R.take a0 ++ (J.al.length + k0) :: R.drop (a0 + 2), _, _, _, _, _, rfl, (s2.trans s3).trans ((z123.trans z4).trans z5), ?_, ?_, ?_⟩
            · have e : nIs (R.take a0 ++ (J.al.length + k0) :: R.drop (a0 + 2)) = (nIs R).take a0 ++ [V.int (((J.al.length : Nat) : Int) + ((k0 : Nat) : Int))] ++ (nIs R).drop (a0 + 2) := by
                show List.map nI _ = (List.map nI R).take a0 ++ _ ++ (List.map nI R).drop (a0 + 2)
                rw [List.map_append, List.map_cons, ← List.map_take, ← List.map_drop, List.append_assoc]
                rfl
              rw [upd_same, e]
            · rw [← step_left hLow h1 ?_ ?_, ← hsp]
              · exact hst
              · intro j p hj hjp hadj
                rw [← hsp] at hadj
                obtain ⟨i, g1, g2⟩ := adj_ix.mp hadj
                have := (List.getElem?_eq_some_iff.mp g2).1
                have := h4 i p j (by omega) g1 g2 hjp
                omega
              · intro hadj
                obtain ⟨i, g1, g2⟩ := adj_ix.mp hadj
                have e : R.take a0 ++ [c.1] = R.take (a0 + 1) := by rw [List.take_add_one, h2]; rfl
                rw [e] at g1 g2
                have hi := (List.getElem?_eq_some_iff.mp g2).1
                rw [List.length_take] at hi
                rw [List.getElem?_take_of_lt (by omega)] at g1 g2
                exact h5 i (by omega) g1 g2
            · have : R.length = (R.take a0 ++ c.1 :: c.2 :: R.drop (a0 + 2)).length := congrArg List.length hsp
              rw [List.length_append, List.length_cons, List.length_cons] at this
              rw [List.length_append, List.length_cons]
              omega
      · rintro σ' H2 ⟨r, R, y4, y5, y6, y7, y8, rfl, s2, hR, hst, hlen⟩
        have hRe : R = [] := List.length_eq_zero_iff.mp (by omega)
        subst hRe
        rw [stg_nil] at hst
        refine ⟨_, rfl, fin _ _ s2 ?_⟩
        rw [← hst]
        exact hR
end
end J

set_option Elab.async false
set_option linter.all false
set_option maxRecDepth 100000
set_option maxHeartbeats 4000000
/-! Walks of the law: its joins. -/
namespace J
open PySem PySem.Spec PyProof.Rows L2
theorem JD.Ok.start {al : List Nat} {n : Nat} (h : Letters al n) (hn : n ≤ 30) : (JD.mk al []).Ok := by
  refine ⟨.nil, h.pos, Nat.le_trans h.le hn, Nat.zero_le _, fun p hp => ?_, h.asc, h.rng⟩
  rw [show ex (JD.mk al []).al.length (JD.mk al []).ps p = [p] from ex_letter (ps := []) (by simpa using hp)]
  show 1 ≤ 40
  decide
theorem JD.Ok.snoc {J : JD} (ok : J.Ok) {l q : Nat} (hl : l < J.al.length + J.ps.length) (hq : q < J.al.length + J.ps.length) (h60 : J.ps.length < 60) (hs : (ex J.al.length J.ps l ++ ex J.al.length J.ps q).length ≤ 40)
    (hc : stg J.al.length J.ps (ex J.al.length J.ps l ++ ex J.al.length J.ps q) = [l, q]) : (JD.mk J.al (J.ps ++ [(l, q)])).Ok := by
  refine ⟨.snoc ok.prop hl hq hc, ok.b1, ok.b30, by show (J.ps ++ [(l, q)]).length ≤ 60; rw [List.length_append, List.length_singleton]; omega, fun p hp => ?_, ok.asc, ok.rng⟩
  have hp : p < J.al.length + (J.ps ++ [(l, q)]).length := hp
  rw [List.length_append, List.length_singleton] at hp
  show (ex J.al.length (J.ps ++ [(l, q)]) p).length ≤ 40
  by_cases h : p < J.al.length + J.ps.length
  · rw [ex_old h]
    exact ok.short p h
  · have : p = J.al.length + J.ps.length := by omega
    rw [this, ex_new]
    exact hs
theorem JD.Ok.fresh {J : JD} {l q : Nat} (h : (JD.mk J.al (J.ps ++ [(l, q)])).Ok) : (l, q) ∉ J.ps := fun hm => by
  obtain ⟨r, hr⟩ := List.mem_iff_getElem?.mp hm
  have hlt := (List.getElem?_eq_some_iff.mp hr).1
  have h1 : (J.ps ++ [(l, q)])[r]? = some (l, q) := by rw [List.getElem?_append_left hlt]; exact hr
  have h2 : (J.ps ++ [(l, q)])[J.ps.length]? = some (l, q) := by rw [List.getElem?_append_right (Nat.le_refl _)]; simp
  have := h.prop.uniq _ _ _ h1 h2
  omega
theorem txs_start (al : List Nat) : (List.map (fun c => V.str ⟨#[c]⟩) (alS al).cps.toList) = txV ⟨al, []⟩ := by
  refine List.ext_getElem? fun i => ?_
  by_cases hi : i < al.length
  · rw [txV_get (J := ⟨al, []⟩) (by show i < al.length + 0; omega), List.getElem?_map]
    show Option.map _ (al.toArray.toList)[i]? = _
    rw [show al.toArray.toList = al from rfl, getD_at hi, show ex (JD.mk al []).al.length (JD.mk al []).ps i = [i] from ex_letter (ps := []) hi, show (JD.mk al []).al = al from rfl, tx_one (getD_at hi)]
    rfl
  · rw [List.getElem?_eq_none (by rw [List.length_map]; show al.toArray.toList.length ≤ i; rw [show al.toArray.toList = al from rfl]; omega), List.getElem?_eq_none (by rw [txV_len]; show al.length + 0 ≤ i; omega)]
theorem LJAt.noT {P : Program} {w : World} {H : Hp} {a t : Addr} {J : JD} {pl ra ta : Addr} {prs : List Addr} (h : LJAt P w H a J pl ra ta prs) (hne : a ≠ t) {kvs : List (Key × V)} (e : H t = some (.dK kvs)) : LJAt P w (wo t H) a J pl ra ta prs := by
  have tk : TK H (wo t H) := fun b xs q => wo_some q (ne_of q e fun z => nomatch z)
  refine ⟨wo_some h.ob hne, wo_some h.pairs (ne_of h.pairs e fun z => nomatch z), h.prs.tk tk, h.ranks.keep (wo_ne ?_) tk, wo_some h.texts (ne_of h.texts e fun z => nomatch z)⟩
  obtain ⟨F, hF⟩ := pd_some h.ranks
  exact ne_of hF e fun z => nomatch z
section
variable {P : Program} {w : World} {K : PySem.W.Frag} {mg : Str → Option Value} {base : Heap}
/-- while the law's joins are drawn -/
structure JInv (P : Program) (w : World) (K : PySem.W.Frag) (B H : Hp) (t ca : Addr) (cs : List Int) (a : Addr) (J : JD) (pl ra ta : Addr) : Prop where
  sb : Same B H
  tape : Tape K H t ca cs
  lj : ∃ prs, LJAt P w H a J pl ra ta prs
theorem JInv.ext {B H H' : Hp} {t ca : Addr} {cs : List Int} {a : Addr} {J : JD} {pl ra ta : Addr} (h : JInv P w K B H t ca cs a J pl ra ta) (s : Same H H') : JInv P w K B H' t ca cs a J pl ra ta :=
  ⟨h.sb.trans s, h.tape.same s, let ⟨prs, h⟩ := h.lj; ⟨prs, h.same s⟩⟩
theorem JInv.but {B H H' : Hp} {t ca : Addr} {cs : List Int} {a : Addr} {J : JD} {pl ra ta : Addr} (h : JInv P w K B H t ca cs a J pl ra ta) (hB : B t = none) (hne : a ≠ t) (b : But t H H') (hT : Tape K H' t ca cs) : JInv P w K B H' t ca cs a J pl ra ta := by
  obtain ⟨prs, hl⟩ := h.lj
  obtain ⟨kvs, e⟩ := h.tape.dk
  exact ⟨wo_but h.sb hB b, hT, prs, (hl.noT hne e).same b.wo⟩
theorem pick2 {N r : Nat} {v : V} (h : v ∈ [V.int (((N : Nat) : Int) - 1), V.int ((r : Nat) : Int)]) (h1 : 1 ≤ N) (hr : r < N) : ∃ x, x < N ∧ v = nI x := by
  rcases List.mem_cons.mp h with h | h
  · refine ⟨N - 1, by omega, ?_⟩
    rw [h]
    show V.int _ = V.int _
    congr 1
    omega
  · rw [List.mem_singleton] at h
    exact ⟨r, hr, h⟩
theorem pick3 {N r s : Nat} {v : V} (h : v ∈ [V.int (((N : Nat) : Int) - 1), V.int ((r : Nat) : Int), V.int ((s : Nat) : Int)]) (h1 : 1 ≤ N) (hr : r < N) (hs : s < N) : ∃ x, x < N ∧ v = nI x := by
  rcases List.mem_cons.mp h with h | h
  · refine ⟨N - 1, by omega, ?_⟩
    rw [h]
    show V.int _ = V.int _
    congr 1
    omega
  · rcases List.mem_cons.mp h with h | h
    · exact ⟨r, hr, h⟩
    · rw [List.mem_singleton] at h
      exact ⟨s, hs, h⟩
def spLJoins (P : Program) (w : World) (K : PySem.W.Frag) : Sp := fun vs H Q _ => ∃ t ca cs, vs = [.ref t, .int 3, .int 5, .int 6] ∧ Tape K H t ca cs ∧ ∀ H' a J, Same (wo t H) H' → Tape K H' t ca cs → LJ P w (wo t H') a J → J.Ok → J.ps.length ≤ 5 → Q (.ref a) H'
theorem ok_L_joins (T : Txt K mg) : DefOk P w K mg base 5 "_law_joins" ["_law_tape_here", "_law_most", "_law_tries", "_law_size"] (spLJoins P w K) := by
  have D_L_cut := ok_L_cut (P := P) (w := w) (base := base) T
  have D_L_draw := ok_L_draw (P := P) (w := w) (base := base) T
  have D_L_letters := ok_L_letters (P := P) (w := w) (base := base) T
  have D_L_pick := ok_L_pick (P := P) (w := w) (base := base) T
  refine mk_L_joins T (fun vs H Q E h => ?_) (fun f cdv A outer s H vs Q E hr h => ?_)
  · obtain ⟨t, ca, cs, rfl, _⟩ := h
    rfl
  · obtain ⟨t, ca, cs, rfl, hT, fin⟩ := h
    refine ⟨_, (pss_cons (ps_st 4 sc_L_joins.nd (pe_def D_L_letters hr (pa_cons (pv 0) (pa_cons (pe_op op_add pe_int (pe_def D_L_draw hr (pa_cons (pv 0) (pa_cons (pv 1) pa_nil)))) pa_nil))))
      (pss_cons (ps_st 5 sc_L_joins.nd (pe_disp (pps_cons pe_str (pv 4) (pps_cons pe_str (pe_lst pa_nil) (pps_cons pe_str (pdnewK (P := P) (w := w)) (pps_cons pe_str (pe_callTy (call_list_text rfl) rfl T.b_list (by decide +kernel) (pa_cons (pv 4) pa_nil)) pps_nil)))) (by rfl) (by rfl) (fun z => by cases z) (by decide)))
      (pss_cons (ps_for PassesOwn.never rfl (pi_range1 rfl T.b_range (pa_cons (pe_def D_L_draw hr (pa_cons (pv 0) (pa_cons (pe_op op_add (pv 2) pe_int) pa_nil))) pa_nil)) (pg_n 6 sc_L_joins.nd)
        (pss_cons (ps_st 7 sc_L_joins.nd (pe_op op_sub (pe_callB (lenK (K := K)) rfl T.b_len PySem.boot_len (pa_cons (pe_dget (hu_of hr) (pv 5) pe_str (fun _ _ => rfl)) pa_nil)) pe_int))
        (pss_cons (ps_st 8 sc_L_joins.nd (pe_def D_L_pick hr (pa_cons (pv 0) (pa_cons (pe_lst (pa_cons (pv 7) (pa_cons (pe_def D_L_draw hr (pa_cons (pv 0) (pa_cons (pe_op op_add (pv 7) pe_int) pa_nil))) pa_nil))) pa_nil))))
        (pss_cons (ps_st 9 sc_L_joins.nd (pe_def D_L_pick hr (pa_cons (pv 0) (pa_cons (pe_lst (pa_cons (pv 7) (pa_cons (pe_def D_L_draw hr (pa_cons (pv 0) (pa_cons (pe_op op_add (pv 7) pe_int) pa_nil))) (pa_cons (pe_def D_L_draw hr (pa_cons (pv 0) (pa_cons (pe_op op_add (pv 7) pe_int) pa_nil))) pa_nil)))) pa_nil))))
        (pss_cons (ps_st 10 sc_L_joins.nd (pe_op op_add_str (pe_ix (ix_listK (K := K)) (pe_dget (hu_of hr) (pv 5) pe_str (fun _ _ => rfl)) (pv 8) (fun _ _ => rfl)) (pe_ix (ix_listK (K := K)) (pe_dget (hu_of hr) (pv 5) pe_str (fun _ _ => rfl)) (pv 9) (fun _ _ => rfl))))
        (pss_one (ps_if (PW.pt (pw_and (pt_cmpR op_le (pe_callB call_len_str rfl T.b_len PySem.boot_len (pa_cons (pv 10) pa_nil)) (pv 3) (nomark _)) (pw_and1 (pt_cmpR (eqDK (K := K) hr.units) (pe_def D_L_cut hr (pa_cons (pv 5) (pa_cons (pv 10) pa_nil))) (pe_lst (pa_cons (pv 8) (pa_cons (pv 9) pa_nil))) (nomark _))))) (pss_cons (pdputK (P := P) (w := w) (hu_of hr) (pe_dget (hu_of hr) (pv 5) pe_str (fun _ _ => rfl)) (pe_tup (pa_cons (pv 8) (pa_cons (pv 9) pa_nil))) (pe_callB (lenK (K := K)) rfl T.b_len PySem.boot_len (pa_cons (pe_dget (hu_of hr) (pv 5) pe_str (fun _ _ => rfl)) pa_nil)))
          (pss_cons (ps_expr (bmK (K := K) PySem.F.plainAttrs_list PySem.F.slot_list_append PySem.F.type_list_append mt_append (pe_dget (hu_of hr) (pv 5) pe_str (fun _ _ => rfl)) (pa_cons (pe_tup (pa_cons (pv 8) (pa_cons (pv 9) pa_nil))) pa_nil)))
          (pss_one (ps_expr (bmK (K := K) PySem.F.plainAttrs_list PySem.F.slot_list_append PySem.F.type_list_append mt_append (pe_dget (hu_of hr) (pv 5) pe_str (fun _ _ => rfl)) (pa_cons (pv 10) pa_nil)))))) pss_nil)))))))
      (pss_one (ps_ret (pv 5)))))), ?_⟩
    have hB : wo t H t = none := wo_at
    refine ⟨_, rfl, _, rfl, _, rfl, t, ca, cs, 3, rfl, by decide, hT, fun H1 b1 hT1 r1 hr1 => ⟨_, _, rfl, rfl, ?_⟩⟩
    have sB1 : Same (wo t H) H1 := wo_but wo_le hB b1
    refine ⟨t, ca, cs, 1 + r1, by show [V.ref t, V.int (1 + ((r1 : Nat) : Int))] = [V.ref t, V.int ((1 + r1 : Nat) : Int)]; rw [Int.natCast_add]; rfl, by omega, by omega, hT1, fun H2 s2 hT2 al hal => ?_⟩
    have sB2 : Same (wo t H) H2 := fun b o e => s2 _ _ (wo_some (sB1 _ _ e) (ne_of_none e hB))
    obtain ⟨tk2, etk2⟩ := hT2.dk
    have ok0 := JD.Ok.start hal (by omega)
    -- the dict
    refine fun a ha => ?_
    have hat : t ≠ a := ne_of_none etk2 ha
    refine ⟨_, rfl, Nat.zero_le _, fun pl hpl ra H3 hra d3 => ⟨_, rfl, _, rfl, by rw [alS_len]; exact small_ok (by have := hal.le; omega), fun ta hta => ?_⟩⟩
    rw [txs_start]
    have n1 : Same H2 (upd H2 a (.dK [])) := Same.new ha
    have n2 : Same (upd H2 a (.dK [])) (upd (upd H2 a (.dK [])) pl (.lst [])) := Same.new hpl
    have n3 : Same (upd (upd H2 a (.dK [])) pl (.lst [])) H3 := PdPut.own d3 (Same.refl _) hra
    have n4 : Same H3 (upd H3 ta (.lst (txV ⟨al, []⟩))) := Same.new hta
    have ea : (upd H2 a (.dK [])) a = some (.dK []) := upd_same
    have epl : (upd (upd H2 a (.dK [])) pl (.lst [])) pl = some (.lst []) := upd_same
    refine ⟨n4 _ _ (n3 _ _ (n2 _ _ ea)), ljD al pl ra ta, rfl, by show 4 ≤ 15; decide, ?_⟩
    rw [lj_merge]
    have ba : wo t H a = none := sB2.free ha
    have bpl : wo t H pl = none := (sB2.trans n1).free hpl
    have bra : wo t H ra = none := ((sB2.trans n1).trans n2).free hra
    have bta : wo t H ta = none := (((sB2.trans n1).trans n2).trans n3).free hta
    have epl4 := n4 _ _ (n3 _ _ epl)
    have era4 : PD P w (upd H3 ta (.lst (txV ⟨al, []⟩))) ra [] := d3.1.same n4
    have eta4 : (upd H3 ta (.lst (txV ⟨al, []⟩))) ta = some (.lst (txV ⟨al, []⟩)) := upd_same
    have ea4 := n4 _ _ (n3 _ _ (n2 _ _ ea))
    have n24 := ((n1.trans n2).trans n3).trans n4
    generalize (upd H3 ta (.lst (txV ⟨al, []⟩))) = H4 at n4 epl4 era4 eta4 ea4 n24
    have hI0 : JInv P w K (wo t H) (upd H4 a (.dK (ljD al pl ra ta))) t ca cs a ⟨al, []⟩ pl ra ta := by
      have sB5 := Same.own (o := .dK (ljD al pl ra ta)) (sB2.trans n24) ba
      refine ⟨sB5, hT.mv (hT2.same n24) sB5 (upd_ne hat), [], upd_same, (upd_ne (ne_of epl4 ea4 fun z => nomatch z)).trans epl4, .nil, era4.keep (upd_ne ?_) (TK.own (TK.refl _) ea4 fun xs z => nomatch z), (upd_ne (ne_of eta4 ea4 fun z => nomatch z)).trans eta4⟩
      obtain ⟨F, hF⟩ := pd_some era4
      exact ne_of hF ea4 fun z => nomatch z
    generalize (upd H4 a (.dK (ljD al pl ra ta))) = H5 at hI0
    -- the tries
    refine ⟨_, rfl, _, rfl, _, _, rfl, rfl, t, ca, cs, 6, rfl, by decide, hI0.tape, fun H6 b6 hT6 nt hnt => ?_⟩
    have hI6 := hI0.but hB (Ne.symm hat) b6 hT6
    refine ⟨_, rfl, by omega, by omega, for_range (lo := 0) (fun i σ' H' => ∃ y6 y7 y8 y9 y10 ps, σ' = [some (.ref t), some (.int 3), some (.int 5), some (.int 6), some (.str (alS al)), some (.ref a), y6, y7, y8, y9, y10] ∧ JInv P w K (wo t H) H' t ca cs a ⟨al, ps⟩ pl ra ta ∧ (JD.mk al ps).Ok ∧ ps.length ≤ i)
      ⟨none, none, none, none, none, [], rfl, hI6, ok0, Nat.le_refl _⟩ ?_ ?_⟩
    · rintro i σ' H7 hi ⟨y6, y7, y8, y9, y10, ps, rfl, hI, ok, hps⟩
      rw [Int.toNat_natCast] at hi
      obtain ⟨prs, hL⟩ := hI.lj
      -- newest
      refine ⟨_, rfl, a, _, rfl, lj_texts hL.ob, ta, _, rfl, .inl (SqL.of hL.texts), _, _, rfl, rfl, ?_⟩
      rw [txV_len]
      have hb1 := ok.b1
      have hN : ∃ N, N = (JD.mk al ps).al.length + (JD.mk al ps).ps.length := ⟨_, rfl⟩
      obtain ⟨N, hN⟩ := hN
      rw [← hN]
      have hN1 : 1 ≤ N := by omega
      have hint : ((N : Nat) : Int) - 1 + 1 = ((N : Nat) : Int) := by omega
      have hdr : ∀ {x : Int}, x = ((N : Nat) : Int) - 1 + 1 → [V.ref t, V.int x] = [V.ref t, V.int ((N : Nat) : Int)] := fun {x} e => by rw [e, hint]
      -- left
      refine ⟨_, rfl, _, rfl, _, rfl, _, rfl, _, _, rfl, rfl, t, ca, cs, N, hdr rfl, hN1, hI.tape, fun H8 b8 hT8 r8 hr8 => ⟨two_ok, fun l8 hl8 => ?_⟩⟩
      have hI8 := (hI.but hB (Ne.symm hat) b8 hT8).ext (Same.new (o := .lst [V.int (((N : Nat) : Int) - 1), V.int ((r8 : Nat) : Int)]) hl8)
      refine ⟨t, ca, cs, l8, _, rfl, hI8.tape, upd_same, by simp, by show 2 ≤ 1000; decide, fun H9 b9 hT9 v9 hv9 => ?_⟩
      obtain ⟨l, hl, rfl⟩ := pick2 hv9 hN1 hr8
      have hI9 := hI8.but hB (Ne.symm hat) b9 hT9
      -- right
      refine ⟨_, rfl, _, rfl, _, rfl, _, rfl, _, _, rfl, rfl, t, ca, cs, N, hdr rfl, hN1, hI9.tape, fun H10 b10 hT10 r10 hr10 => ?_⟩
      have hI10 := hI9.but hB (Ne.symm hat) b10 hT10
      refine ⟨_, rfl, _, rfl, _, _, rfl, rfl, t, ca, cs, N, hdr rfl, hN1, hI10.tape, fun H11 b11 hT11 r11 hr11 => ⟨by show 3 ≤ sizeLine; decide, fun l11 hl11 => ?_⟩⟩
      have hI11 := (hI10.but hB (Ne.symm hat) b11 hT11).ext (Same.new (o := .lst [V.int (((N : Nat) : Int) - 1), V.int ((r10 : Nat) : Int), V.int ((r11 : Nat) : Int)]) hl11)
      refine ⟨t, ca, cs, l11, _, rfl, hI11.tape, upd_same, by simp, by show 3 ≤ 1000; decide, fun H12 b12 hT12 v12 hv12 => ?_⟩
      obtain ⟨q, hq, rfl⟩ := pick3 hv12 hN1 hr10 hr11
      have hI12 := hI11.but hB (Ne.symm hat) b12 hT12
      obtain ⟨prs2, hL2⟩ := hI12.lj
      rw [hN] at hl hq
      have hls := ok.short l hl
      have hqs := ok.short q hq
      -- text
      refine ⟨_, rfl, a, _, rfl, lj_texts hL2.ob, _, rfl, ta, _, _, _, rfl, rfl, SqL.of hL2.texts, atI_nat (txV_get hl), _, rfl, a, _, rfl, lj_texts hL2.ob, _, rfl, ta, _, _, _, rfl, rfl, SqL.of hL2.texts, atI_nat (txV_get hq), _, _, rfl, rfl, by rw [tx_len, tx_len]; exact small_ok (by omega), ?_⟩
      rw [← tx_app]
      have hW : ∀ x ∈ ex al.length ps l ++ ex al.length ps q, x < al.length := fun x hx => by
        rcases List.mem_append.mp hx with h | h
        · exact (ok.prop.letters l hl).2 x h
        · exact (ok.prop.letters q hq).2 x h
      refine ⟨_, rfl, _, rfl, by rw [tx_len, List.length_append]; exact small_ok (by omega), _, rfl, _, _, rfl, rfl, _, rfl, ite2 (fun h1 => ?_) fun h1 => iteF ⟨_, _, _, _, _, ps, rfl, hI12, ok, by omega⟩⟩
      have h6 : (ex al.length ps l ++ ex al.length ps q).length ≤ 6 := by
        have this : (((tx al (ex al.length ps l ++ ex al.length ps q)).length : Nat) : Int) ≤ 6 := of_decide_eq_true h1
        rw [tx_len] at this
        omega
      refine ⟨_, rfl, _, rfl, a, ⟨al, ps⟩, ex al.length ps l ++ ex al.length ps q, rfl, ⟨pl, ra, ta, prs2, hL2⟩, ok, hW, by omega, fun H13 r13 s13 e13 => ?_⟩
      have hI13 := hI12.ext s13
      refine ⟨_, rfl, _, rfl, two_ok, fun l14 hl14 => ?_⟩
      have s14 := Same.new (o := .lst [nI l, nI q]) hl14
      have hI14 := hI13.ext s14
      have e14 := s14 _ _ e13
      refine eq_lsts (ns := stg al.length ps (ex al.length ps l ++ ex al.length ps q)) (ms := [l, q]) (SqL.of e14) (SqL.of upd_same) ⟨_, rfl, ite2 (fun h2 => ?_) fun h2 => ⟨_, _, _, _, _, ps, rfl, hI14, ok, by omega⟩⟩
      have hcut := of_decide_eq_true h2
      have ok2 : (JD.mk al (ps ++ [(l, q)])).Ok := ok.snoc hl hq (by show ps.length < 60; omega) (by show (ex al.length ps l ++ ex al.length ps q).length ≤ 40; omega) hcut
      have hfr := ok2.fresh (J := ⟨al, ps⟩)
      generalize (upd H13 l14 (.lst [nI l, nI q])) = H14 at hI14
      obtain ⟨prs3, hL3⟩ := hI14.lj
      have hpl3 : prs3.length = ps.length := Paired.length hL3.prs
      refine ⟨_, rfl, a, _, rfl, lj_pairs hL3.ob, pl, _, rfl, .inl (SqL.of hL3.pairs), ?_⟩
      rw [List.length_map, hpl3]
      refine ⟨_, rfl, a, _, rfl, lj_ranks hL3.ob, _, rfl, _, rfl, two_ok, fun k1 hk1 => ?_⟩
      have sk1 := Same.new (o := .tup [nI l, nI q]) hk1
      have hI15 := hI14.ext sk1
      have hL15 := hL3.same sk1
      have ek1 : (upd H14 k1 (.tup [nI l, nI q])) k1 = some (.tup [nI l, nI q]) := upd_same
      generalize (upd H14 k1 (.tup [nI l, nI q])) = H15 at sk1 hI15 hL15 ek1
      refine ⟨ra, k1, pk (l, q), _, rfl, rfl, hL15.ranks, ek1, by rw [rkT_len]; exact small_lt (by show ps.length ≤ _; omega), fun H16 d16 => ?_⟩
      rw [rkT_put hfr] at d16
      have t16 : TK H15 H16 := PdPut.tk hL15.ranks d16
      have oth : ∀ {c : Addr} {o : HO}, H15 c = some o → (∀ F, o ≠ .ext F) → H16 c = some o := fun {c o} e h => by
        obtain ⟨F, hF⟩ := pd_some hL15.ranks
        exact (d16.2 c (ne_of e hF (h _))).trans e
      have ob16 := oth hL15.ob fun F z => nomatch z
      have pl16 := oth hL15.pairs fun F z => nomatch z
      have ta16 := oth hL15.texts fun F z => nomatch z
      have sB16 := d16.own hI15.sb bra
      obtain ⟨tkv, etk⟩ := hI15.tape.dk
      have et16 := (oth etk fun F z => nomatch z).trans etk.symm
      have hT16 := hT.mv hI15.tape sB16 et16
      -- pairs.append
      refine ⟨_, rfl, a, _, rfl, lj_pairs ob16, .inl ⟨rfl, _, SqL.of pl16⟩, _, rfl, _, rfl, two_ok, fun k2 hk2 => ?_⟩
      have sk2 := Same.new (o := .tup [nI l, nI q]) hk2
      have ek2 : (upd H16 k2 (.tup [nI l, nI q])) k2 = some (.tup [nI l, nI q]) := upd_same
      have ob17 := sk2 _ _ ob16
      have pl17 := sk2 _ _ pl16
      have ta17 := sk2 _ _ ta16
      have ra17 := d16.1.same sk2
      have sB17 := sB16.trans sk2
      have hT17 := hT16.same sk2
      have t17 := t16.trans (TK.of sk2)
      generalize (upd H16 k2 (.tup [nI l, nI q])) = H17 at sk2 ek2 ob17 pl17 ta17 ra17 sB17 hT17 t17
      refine ⟨pl, _, _, rfl, rfl, pl17, by rw [List.length_map, hpl3]; exact small_lt (by omega), ?_⟩
      have sB18 := Same.own (o := .lst (prs3.map V.ref ++ [.ref k2])) sB17 bpl
      have t18 : TK H17 (upd H17 pl (.lst (prs3.map V.ref ++ [.ref k2]))) := TK.own (TK.refl _) pl17 fun xs z => nomatch z
      obtain ⟨tkv, etk17⟩ := hT17.dk
      have hT18 := hT.mv hT17 sB18 (upd_ne (ne_of etk17 pl17 fun z => nomatch z))
      have ob18 := (upd_ne (H := H17) (a := pl) (o := .lst (prs3.map V.ref ++ [.ref k2])) (ne_of ob17 pl17 fun z => nomatch z)).trans ob17
      have plta : pl ≠ ta := fun z => by
        rw [← z, pl17] at ta17
        have h1 := congrArg (fun o : Option HO => match o with | some (.lst l) => l.length | _ => 0) ta17
        have h2 : (prs3.map V.ref).length = (txV ⟨al, ps⟩).length := h1
        rw [List.length_map, hpl3, txV_len] at h2
        have : 1 ≤ (JD.mk al ps).al.length := hb1
        have h3 : ps.length = al.length + ps.length := h2
        have h4 : 1 ≤ al.length := hb1
        omega
      have ta18 := (upd_ne (H := H17) (a := pl) (o := .lst (prs3.map V.ref ++ [.ref k2])) (Ne.symm plta)).trans ta17
      have pl18 : (upd H17 pl (.lst (prs3.map V.ref ++ [.ref k2]))) pl = some (.lst (prs3.map V.ref ++ [.ref k2])) := upd_same
      have ra18 := ra17.keep (H' := upd H17 pl (.lst (prs3.map V.ref ++ [.ref k2]))) (upd_ne (by
        obtain ⟨F, hF⟩ := pd_some ra17
        exact ne_of hF pl17 fun z => nomatch z)) t18
      have ek18 := t18 _ _ ek2
      have t18' := t17.trans t18
      generalize (upd H17 pl (.lst (prs3.map V.ref ++ [.ref k2]))) = H18 at sB18 t18 hT18 ob18 ta18 pl18 ra18 ek18 t18'
      -- texts.append
      refine ⟨_, rfl, a, _, rfl, lj_texts ob18, .inl ⟨rfl, _, SqL.of ta18⟩, _, rfl, ta, _, _, rfl, rfl, ta18, by rw [txV_len]; exact small_lt (by show al.length + ps.length ≤ _; have : al.length ≤ 30 := ok.b30; omega), ?_⟩
      have sB19 := Same.own (o := .lst (txV ⟨al, ps⟩ ++ [V.str (tx al (ex al.length ps l ++ ex al.length ps q))])) sB18 bta
      have t19 : TK H18 (upd H18 ta (.lst (txV ⟨al, ps⟩ ++ [V.str (tx al (ex al.length ps l ++ ex al.length ps q))]))) := TK.own (TK.refl _) ta18 fun xs z => nomatch z
      obtain ⟨tkv, etk18⟩ := hT18.dk
      refine ⟨_, _, _, _, _, ps ++ [(l, q)], rfl, ⟨sB19, hT.mv hT18 sB19 (upd_ne (ne_of etk18 ta18 fun z => nomatch z)), prs3 ++ [k2], (upd_ne (ne_of ob18 ta18 fun z => nomatch z)).trans ob18, ?_, ?_, ?_, ?_⟩, ok2, by rw [List.length_append, List.length_singleton]; omega⟩
      · rw [List.map_append]
        exact (upd_ne plta).trans pl18
      · exact Paired.snoc (hL15.prs.tk (t18'.trans t19)) (t19 _ _ ek18)
      · refine ra18.keep (upd_ne ?_) t19
        obtain ⟨F, hF⟩ := pd_some ra18
        exact ne_of hF ta18 fun z => nomatch z
      · show (upd H18 ta _) ta = some (.lst (txV ⟨al, ps ++ [(l, q)]⟩))
        have e : txV ⟨al, ps ++ [(l, q)]⟩ = txV ⟨al, ps⟩ ++ [V.str (tx al (ex al.length ps l ++ ex al.length ps q))] := by
          show (EX al.length (ps ++ [(l, q)])).map _ = _
          rw [EX_snoc, List.map_append]
          rfl
        rw [e]
        exact upd_same
    · rintro σ' H7 ⟨y6, y7, y8, y9, y10, ps, rfl, hI, ok, hps⟩
      obtain ⟨prs, hL⟩ := hI.lj
      obtain ⟨kvs, e⟩ := hI.tape.dk
      rw [Int.toNat_natCast] at hps
      exact ⟨_, rfl, fin H7 a ⟨al, ps⟩ hI.sb hI.tape ⟨pl, ra, ta, prs, hL.noT (Ne.symm hat) e⟩ ok (by show ps.length ≤ 5; omega)⟩
end
end J

set_option Elab.async false
set_option linter.all false
set_option maxRecDepth 100000
set_option maxHeartbeats 4000000
/-! Walks of the law: its machines. -/
namespace J
open PySem PySem.Spec PyProof.Rows L2
/-! ### the law's machine -/
def lmD (al : List Nat) (st : Nat) (ea sa : Addr) : List (Key × V) := [(Sum.inr "letters", .str (alS al)), (Sum.inr "start", .int (st : Nat)), (Sum.inr "ends", .ref ea), (Sum.inr "steps", .ref sa)]
theorem lm_merge (al : List Nat) (st : Nat) (ea sa : Addr) : mergeK [] (lmD al st ea sa) = lmD al st ea sa := by kernel_rfl
theorem lm_letters {H : Hp} {a : Addr} {al : List Nat} {st : Nat} {ea sa : Addr} (e : H a = some (.dK (lmD al st ea sa))) : DGet H a (.str "letters") (some (.str (alS al))) := dk_get (k := Sum.inr "letters") e (by kernel_rfl)
theorem lm_start {H : Hp} {a : Addr} {al : List Nat} {st : Nat} {ea sa : Addr} (e : H a = some (.dK (lmD al st ea sa))) : DGet H a (.str "start") (some (.int (st : Nat))) := dk_get (k := Sum.inr "start") e (by kernel_rfl)
theorem lm_ends {H : Hp} {a : Addr} {al : List Nat} {st : Nat} {ea sa : Addr} (e : H a = some (.dK (lmD al st ea sa))) : DGet H a (.str "ends") (some (.ref ea)) := dk_get (k := Sum.inr "ends") e (by kernel_rfl)
theorem lm_steps {H : Hp} {a : Addr} {al : List Nat} {st : Nat} {ea sa : Addr} (e : H a = some (.dK (lmD al st ea sa))) : DGet H a (.str "steps") (some (.ref sa)) := dk_get (k := Sum.inr "steps") e (by kernel_rfl)
structure LMAt (H : Hp) (a : Addr) (M : MD) (ea sa : Addr) (rs : List Addr) : Prop where
  ob : H a = some (.dK (lmD M.al M.start ea sa))
  ends : H ea = some (.lst (nIs M.ends))
  steps : H sa = some (.lst (rs.map V.ref))
  rows : RowsAt H rs M.steps
theorem LMAt.same {H H' : Hp} {a : Addr} {M : MD} {ea sa : Addr} {rs : List Addr} (h : LMAt H a M ea sa rs) (s : Same H H') : LMAt H' a M ea sa rs := ⟨s _ _ h.ob, s _ _ h.ends, s _ _ h.steps, h.rows.tk (.of s)⟩
def LM (H : Hp) (a : Addr) (M : MD) : Prop := ∃ ea sa rs, LMAt H a M ea sa rs
theorem LM.same {H H' : Hp} {a : Addr} {M : MD} (h : LM H a M) (s : Same H H') : LM H' a M := let ⟨ea, sa, rs, h⟩ := h; ⟨ea, sa, rs, h.same s⟩
theorem LM.noT {H : Hp} {a t : Addr} {M : MD} (h : LM H a M) (hne : a ≠ t) {kvs : List (Key × V)} (e : H t = some (.dK kvs)) : LM (wo t H) a M := by
  obtain ⟨ea, sa, rs, h⟩ := h
  have tk : TK H (wo t H) := fun b xs q => wo_some q (ne_of q e fun z => nomatch z)
  exact ⟨ea, sa, rs, wo_some h.ob hne, wo_some h.ends (ne_of h.ends e fun z => nomatch z), wo_some h.steps (ne_of h.steps e fun z => nomatch z), h.rows.tk tk⟩
theorem oVs_get {r : List (Option Nat)} {i : Nat} {o : Option Nat} (h : r[i]? = some o) : (oVs r)[i]? = some (nV o) := by rw [List.getElem?_map, h]; rfl
theorem oVs_snoc (r : List (Option Nat)) (o : Option Nat) : oVs (r ++ [o]) = oVs r ++ [nV o] := by simp
/-- a target, if it is one -/
def cvt (n e : Nat) : Option Nat := if e < n then some e else none
section
variable {P : Program} {w : World} {K : PySem.W.Frag} {mg : Str → Option Value} {base : Heap}
/-- letters that a machine can be of -/
structure AlM (al : List Nat) : Prop where
  b30 : al.length ≤ 30
  asc : al.Pairwise (· < ·)
def spLMach (K : PySem.W.Frag) : Sp := fun vs H Q _ => ∃ t ca cs al, vs = [.ref t, .str (alS al), .int 4] ∧ AlM al ∧ Tape K H t ca cs ∧ ∀ H' a M, Same (wo t H) H' → Tape K H' t ca cs → LM (wo t H') a M → M.Ok → M.al = al → Q (.ref a) H'
theorem ok_L_machine (T : Txt K mg) : DefOk P w K mg base 4 "_law_machine" ["_law_tape_here", "_law_letters_here", "_law_most"] (spLMach K) := by
  have D_L_draw := ok_L_draw (P := P) (w := w) (base := base) T
  refine mk_L_machine T (fun vs H Q E h => ?_) (fun f cdv A outer s H vs Q E hr h => ?_)
  · obtain ⟨t, ca, cs, al, rfl, _⟩ := h
    rfl
  · obtain ⟨t, ca, cs, al, rfl, hal, hT, fin⟩ := h
    refine ⟨_, (pss_cons (ps_st 3 sc_L_machine.nd (pe_op op_add pe_int (pe_def D_L_draw hr (pa_cons (pv 0) (pa_cons (pv 2) pa_nil)))))
      (pss_cons (ps_st 4 sc_L_machine.nd (pe_lst pa_nil))
      (pss_cons (ps_for PassesOwn.never rfl (pi_range1 rfl T.b_range (pa_cons (pv 3) pa_nil)) (pg_n 5 sc_L_machine.nd)
        (pss_cons (ps_setLc (i := 6) (own := [("_law_sign", 8)]) (g := (gName 8)) (tt := tYes) rfl sc_L_machine.nd rfl rfl (sw_true rfl rfl rfl (by decide +kernel)) (pi_str (pv 1)) (blkOk_by (N := N_L_machine) (sc := defScope s_L_machine) (by decide +kernel)) (fun _ _ _ _ _ => (pg_n 8 sc_L_machine.nd)) (fun _ _ _ _ _ => pts_nil) (fun _ _ _ _ _ => (pe_def D_L_draw hr (pa_cons (pv 0) (pa_cons (pe_op op_add (pe_op op_add (pv 3) pe_int) (pe_op op_fdiv (pv 3) pe_int)) pa_nil)))))
        (pss_one (ps_expr (bmK (K := K) PySem.F.plainAttrs_list PySem.F.slot_list_append PySem.F.type_list_append mt_append (pv 4) (pa_cons (pe_callTy (tupK (K := K)) rfl T.b_tuple (by decide +kernel) (pa_cons (pe_lc (own := [("_law_to", 9)]) (g := (gName 9)) (tt := tYes) rfl sc_L_machine.nd (pi_list (pv 6)) (blkOk_by (N := N_L_machine) (sc := defScope s_L_machine) (by decide +kernel)) (fun _ _ _ _ _ => (pg_n 9 sc_L_machine.nd)) (fun _ _ _ _ _ => pts_nil) (fun _ _ _ _ _ => (pe_ix (ix_listK (K := K)) (pe_lst (pa_cons (pv 9) (pa_cons pe_non pa_nil))) (pe_callTy call_int1 rfl T.b_int (by decide +kernel) (pa_cons (pe_cmpR op_ge (pv 9) (pv 3) (nomark _)) pa_nil)) (fun _ _ => rfl)))) pa_nil)) pa_nil))))))
      (pss_cons (ps_st 7 sc_L_machine.nd (pe_lst pa_nil))
      (pss_cons (ps_for PassesOwn.never rfl (pi_range1 rfl T.b_range (pa_cons (pv 3) pa_nil)) (pg_n 5 sc_L_machine.nd)
        (pss_one (ps_if (pt_cmpR op_eq (pe_def D_L_draw hr (pa_cons (pv 0) (pa_cons pe_int pa_nil))) pe_int (nomark _)) (pss_one (ps_expr (bmK (K := K) PySem.F.plainAttrs_list PySem.F.slot_list_insert PySem.F.type_list_insert mt_insert (pv 7) (pa_cons (pe_def D_L_draw hr (pa_cons (pv 0) (pa_cons (pe_op op_add (pe_callB (lenK (K := K)) rfl T.b_len PySem.boot_len (pa_cons (pv 7) pa_nil)) pe_int) pa_nil))) (pa_cons (pv 5) pa_nil))))) pss_nil)))
      (pss_one (ps_ret (pe_disp (pps_cons pe_str (pv 1) (pps_cons pe_str (pe_def D_L_draw hr (pa_cons (pv 0) (pa_cons (pv 3) pa_nil))) (pps_cons pe_str (pv 7) (pps_cons pe_str (pv 4) pps_nil)))) (by rfl) (by rfl) (fun z => by cases z) (by decide))))))))), ?_⟩
    have hB : wo t H t = none := wo_at
    refine ⟨_, rfl, _, rfl, t, ca, cs, 4, rfl, by decide, hT, fun H1 b1 hT1 r1 hr1 => ⟨_, _, rfl, rfl, ?_⟩⟩
    have hn : ∃ n : Nat, n = 1 + r1 ∧ 1 ≤ n ∧ n ≤ 4 := ⟨_, rfl, by omega, by omega⟩
    obtain ⟨n, hne, hn1, hn4⟩ := hn
    have hni : (1 : Int) + ((r1 : Nat) : Int) = ((n : Nat) : Int) := by omega
    have sB1 : Same (wo t H) H1 := wo_but wo_le hB b1
    refine ⟨Nat.zero_le _, fun sl hsl => ?_⟩
    have bsl : wo t H sl = none := sB1.free hsl
    obtain ⟨tk1, etk1⟩ := hT1.dk
    have ns : Same H1 (upd H1 sl (.lst [])) := Same.new hsl
    have hst : sl ≠ t := (ne_of_none etk1 hsl).symm
    show tSeq _ _ _ [some (.ref t), some (.str (alS al)), some (.int 4), some (.int (1 + ((r1 : Nat) : Int))), some (.ref sl), none, none, none, none, none] _
    rw [hni]
    refine ⟨_, rfl, _, rfl, by omega, by omega, ?_⟩
    rw [Int.toNat_natCast]
    refine for_range (lo := 0) (fun i σ' H' => ∃ y5 y6 y7 y8 y9 rows rs, σ' = [some (.ref t), some (.str (alS al)), some (.int 4), some (.int (n : Nat)), some (.ref sl), y5, y6, y7, y8, y9] ∧ Same (wo t H) H' ∧ Tape K H' t ca cs ∧ H' sl = some (.lst (rs.map V.ref)) ∧ RowsAt H' rs rows ∧
        rows.length = i ∧ ∀ r ∈ rows, r.length = al.length ∧ ∀ s, some s ∈ r → s < n)
      ⟨none, none, none, none, none, [], [], rfl, sB1.trans ns, hT1.same ns, upd_same, .nil, rfl, fun r hr => nomatch hr⟩ ?_ ?_
    · rintro i σ' H3 hi ⟨y5, y6, y7, y8, y9, rows, rs, rfl, sB3, hT3, esl3, hrs3, hrl, hrow⟩
      have hrsl : rs.length = rows.length := Paired.length hrs3
      -- entry
      refine ⟨_, rfl, _, rfl, fun D hD => lc_str (fun j H' => Same (wo t H3) H' ∧ Tape K H' t ca cs ∧ ∃ es : List Nat, H' D = some (.lst (nIs es)) ∧ es.length = j) ⟨wo_le.trans (Same.new hD), hT3.same (Same.new hD), [], upd_same, rfl⟩ ?_ ?_⟩
      · rintro j c H4 hj ⟨s4, hT4, es, e4, hel⟩
        have hjl : j < al.length := by
          have := (Array.getElem?_eq_some_iff.mp hj).1
          simpa [alS] using this
        refine ⟨rfl, yes (iteT ?_)⟩
        refine ⟨_, rfl, _, rfl, _, _, rfl, rfl, _, rfl, _, _, rfl, rfl, ⟨by decide, by decide⟩, _, _, rfl, rfl, t, ca, cs, n + 1 + n / 4, ?_, by omega, hT4, fun H5 b5 hT5 r hr => ?_⟩
        · show [V.ref t, V.int (((n : Nat) : Int) + 1 + ((n : Nat) : Int) / 4)] = [V.ref t, V.int ((n + 1 + n / 4 : Nat) : Int)]
          have : ((n : Nat) : Int) + 1 + ((n : Nat) : Int) / 4 = ((n + 1 + n / 4 : Nat) : Int) := by omega
          rw [this]
        · obtain ⟨tk4, etk4⟩ := hT4.dk
          have hDt : D ≠ t := ne_of e4 etk4 fun z => nomatch z
          have e5 := (b5 D hDt).trans e4
          have wD : wo t H3 D = none := wo_le.free hD
          have s5 : Same (wo t H3) H5 := wo_but s4 wo_at b5
          have s6 := Same.own (o := .lst (nIs es ++ [V.int ((r : Nat) : Int)])) s5 wD
          refine ⟨_, e5, by rw [nIs_len]; exact small_lt (by have := hal.b30; omega), s6, hT3.mv hT5 s6 (upd_ne (Ne.symm hDt)), es ++ [r], ?_, by rw [List.length_append, hel]; rfl⟩
          rw [upd_same]
          exact congrArg (fun z => some (HO.lst z)) (nIs_snoc _ r)
      · rintro H4 ⟨s4, hT4, es, e4, hel⟩
        have hel2 : es.length = al.length := by rw [hel]; simp [alS]
        obtain ⟨tk3, etk3⟩ := hT3.dk
        have esl4 : H4 sl = _ := s4 _ _ (wo_some esl3 hst)
        have tk34 : TK H3 H4 := wo_tk s4 fun xs z => by rw [etk3] at z; cases z
        have sB4 : Same (wo t H) H4 := fun b o e => s4 _ _ (wo_some (sB3 _ _ e) (ne_of_none e hB))
        -- the row
        refine ⟨_, rfl, .inl ⟨rfl, _, SqL.of esl4⟩, _, rfl, D, rfl, ⟨_, SqL.of e4⟩, fun D2 hD2 => lc_list (K := K) (xs := nIs es) (fun j H' => Same H4 H' ∧ H' D2 = some (.lst (oVs ((es.take j).map (cvt n))))) ⟨Same.new hD2, upd_same⟩ (fun j H' _ h => SqL.of (h.1 _ _ e4)) ?_ ?_⟩
        · rintro j v H5 hj ⟨s5, e5⟩
          obtain ⟨e, he, rfl⟩ := nIs_get' hj
          have hjl : j < es.length := (List.getElem?_eq_some_iff.mp he).1
          refine ⟨rfl, yes (iteT ?_)⟩
          refine ⟨_, rfl, two_ok, fun l hl => ⟨_, rfl, _, rfl, _, _, rfl, rfl, .inr ⟨_, rfl, ?_⟩⟩⟩
          have s6 := s5.trans (Same.new (o := .lst [nI e, V.non]) hl)
          have e6 := (Same.new (o := .lst [nI e, V.non]) hl) _ _ e5
          have el6 : (upd H5 l (.lst [nI e, V.non])) l = some (.lst [nI e, V.non]) := upd_same
          generalize (upd H5 l (.lst [nI e, V.non])) = H6 at s6 e6 el6
          have fin5 : ∃ acc, H6 D2 = some (.lst acc) ∧ acc.length < sizeLine ∧ Same H4 (upd H6 D2 (.lst (acc ++ [nV (cvt n e)]))) ∧ (upd H6 D2 (.lst (acc ++ [nV (cvt n e)]))) D2 = some (.lst (oVs ((es.take (j + 1)).map (cvt n)))) := by
            refine ⟨_, e6, by rw [List.length_map, List.length_map, List.length_take]; exact small_lt (by have := hal.b30; omega), Same.own s6 hD2, ?_⟩
            rw [upd_same, List.take_add_one, he]
            show some (HO.lst _) = some (HO.lst (List.map nV (List.map (cvt n) (es.take j ++ [e]))))
            rw [List.map_append, List.map_append]
            rfl
          by_cases hlt : e < n
          · have hd : decide (((n : Nat) : Int) ≤ ((e : Nat) : Int)) = false := decide_eq_false (by omega)
            have hc : cvt n e = some e := by unfold cvt; rw [if_pos hlt]
            rw [hc] at fin5
            refine ⟨l, _, (0 : Nat), nI e, rfl, ?_, SqL.of el6, atI_nat (j := 0) rfl, fin5⟩
            show V.int (if decide (((n : Nat) : Int) ≤ ((e : Nat) : Int)) = true then 1 else 0) = _
            rw [hd]
            rfl
          · have hd : decide (((n : Nat) : Int) ≤ ((e : Nat) : Int)) = true := decide_eq_true (by omega)
            have hc : cvt n e = none := by unfold cvt; rw [if_neg hlt]
            rw [hc] at fin5
            refine ⟨l, _, (1 : Nat), V.non, rfl, ?_, SqL.of el6, atI_nat (j := 1) rfl, fin5⟩
            show V.int (if decide (((n : Nat) : Int) ≤ ((e : Nat) : Int)) = true then 1 else 0) = _
            rw [hd]
            rfl
        · rintro H5 ⟨s5, e5⟩
          rw [nIs_len, List.take_length] at e5
          refine ⟨D2, _, rfl, .inl ⟨SqL.of e5, fun z hz => ?_⟩⟩
          have s6 := s5.trans (Same.new (o := .tup (oVs (es.map (cvt n)))) hz)
          have esl6 := s6 _ _ esl4
          have ez : (upd H5 z (.tup (oVs (es.map (cvt n))))) z = _ := upd_same
          generalize (upd H5 z (.tup (oVs (es.map (cvt n))))) = H6 at s6 esl6 ez
          refine ⟨sl, _, _, rfl, rfl, esl6, by rw [List.length_map, hrsl]; exact small_lt (by omega), ?_⟩
          have sB6 := Same.own (o := .lst (rs.map V.ref ++ [.ref z])) (sB4.trans s6) bsl
          have t7 : TK H6 (upd H6 sl (.lst (rs.map V.ref ++ [.ref z]))) := TK.own (TK.refl _) esl6 fun xs z => nomatch z
          refine ⟨_, _, y7, y8, y9, rows ++ [es.map (cvt n)], rs ++ [z], rfl, sB6, hT.mv (hT4.same s6) sB6 (upd_ne (Ne.symm hst)), by rw [upd_same, List.map_append]; rfl, Paired.snoc (hrs3.tk ((tk34.trans (TK.of s6)).trans t7)) (t7 _ _ ez), by rw [List.length_append, hrl]; rfl, fun r hr => ?_⟩
          rcases List.mem_append.mp hr with hr | hr
          · exact hrow r hr
          · rw [List.mem_singleton.mp hr]
            refine ⟨by rw [List.length_map, hel2], fun s hs => ?_⟩
            obtain ⟨e, _, he⟩ := List.mem_map.mp hs
            unfold cvt at he
            by_cases h : e < n
            · rw [if_pos h] at he
              cases he
              exact h
            · rw [if_neg h] at he
              cases he
    · rintro σ' H3 ⟨y5, y6, y7, y8, y9, rows, rs, rfl, sB3, hT3, esl3, hrs3, hrl, hrow⟩
      -- ends
      refine ⟨Nat.zero_le _, fun el hel => ?_⟩
      obtain ⟨tk3, etk3⟩ := hT3.dk
      have het : el ≠ t := (ne_of_none etk3 hel).symm
      have wel : wo t H3 el = none := wo_le.free hel
      refine ⟨_, rfl, _, rfl, by omega, by omega, ?_⟩
      rw [Int.toNat_natCast]
      refine for_range (lo := 0) (fun i σ' H' => ∃ (y5 y6 y8 y9 : Option V) (es : List Nat), σ' = [some (.ref t), some (.str (alS al)), some (.int 4), some (.int (n : Nat)), some (.ref sl), y5, y6, some (.ref el), y8, y9] ∧ Same (wo t H3) H' ∧ Tape K H' t ca cs ∧ H' el = some (.lst (nIs es)) ∧ es.length ≤ i ∧ ∀ s ∈ es, s < n)
        ⟨y5, y6, y8, y9, [], rfl, wo_le.trans (Same.new hel), hT3.same (Same.new hel), upd_same, Nat.le_refl _, fun s hs => nomatch hs⟩ ?_ ?_
      · rintro i σ' H4 hi ⟨y5, y6, y8, y9, es, rfl, s4, hT4, e4, hle, hlt⟩
        refine ⟨_, rfl, t, ca, cs, 3, rfl, by decide, hT4, fun H5 b5 hT5 r5 hr5 => ⟨rfl, _, rfl, ite2 (fun h => ?_) fun h => ⟨_, y6, y8, y9, es, rfl, wo_but s4 wo_at b5, hT5, (b5 el het).trans e4, by omega, hlt⟩⟩⟩
        have e5 := (b5 el het).trans e4
        refine ⟨_, rfl, .inl ⟨rfl, _, SqL.of e5⟩, _, rfl, _, rfl, el, _, rfl, .inl (SqL.of e5), _, _, rfl, rfl, t, ca, cs, es.length + 1, ?_, by omega, hT5, fun H6 b6 hT6 q hq => ?_⟩
        · rw [nIs_len]
          show [V.ref t, V.int (((es.length : Nat) : Int) + 1)] = _
          rw [Int.natCast_add]
          rfl
        have e6 := (b6 el het).trans e5
        have s6 : Same (wo t H3) H6 := wo_but (wo_but s4 wo_at b5) wo_at b6
        refine ⟨_, rfl, el, _, _, _, rfl, rfl, e6, by rw [nIs_len]; exact small_lt (by omega), by omega, by omega, ?_⟩
        have s7 := Same.own (o := .lst ((nIs es).take ((q : Nat) : Int).toNat ++ [V.int (0 + ((i : Nat) : Int))] ++ (nIs es).drop ((q : Nat) : Int).toNat)) s6 wel
        refine ⟨_, y6, y8, y9, es.take q ++ [i] ++ es.drop q, rfl, s7, hT3.mv hT6 s7 (upd_ne (Ne.symm het)), ?_, ?_, fun s hs => ?_⟩
        · have e : nIs (es.take q ++ [i] ++ es.drop q) = (nIs es).take ((q : Nat) : Int).toNat ++ [V.int (0 + ((i : Nat) : Int))] ++ (nIs es).drop ((q : Nat) : Int).toNat := by
            rw [Int.toNat_natCast, show (0 + ((i : Nat) : Int)) = ((i : Nat) : Int) by omega]
            show List.map nI _ = (List.map nI es).take q ++ _ ++ (List.map nI es).drop q
            rw [List.map_append, List.map_append, ← List.map_take, ← List.map_drop]
            rfl
          rw [upd_same, e]
        · rw [List.length_append, List.length_append, List.length_take, List.length_drop, List.length_singleton]
          omega
        · rcases List.mem_append.mp hs with hs | hs
          · rcases List.mem_append.mp hs with hs | hs
            · exact hlt s (List.mem_of_mem_take hs)
            · rw [List.mem_singleton.mp hs]
              exact hi
          · exact hlt s (List.mem_of_mem_drop hs)
      · rintro σ' H4 ⟨y5, y6, y8, y9, es, rfl, s4, hT4, e4, hle, hlt⟩
        refine fun a ha => ?_
        obtain ⟨tk4, etk4⟩ := hT4.dk
        have hat : a ≠ t := (ne_of_none etk4 ha).symm
        have na := Same.new (o := .dK []) ha
        refine ⟨_, rfl, _, rfl, _, rfl, t, ca, cs, n, rfl, by omega, hT4.same na, fun H5 b5 hT5 st hst2 => ⟨_, rfl, _, rfl, (b5 a hat).trans upd_same, lmD al st el sl, rfl, by show 4 ≤ 15; decide, ?_⟩⟩
        rw [lm_merge]
        have s5 : Same (wo t H3) H5 := wo_but (s4.trans na) wo_at b5
        have wa : wo t H3 a = none := s4.free ha
        have s6 := Same.own (o := .dK (lmD al st el sl)) s5 wa
        have sB6 : Same (wo t H) (upd H5 a (.dK (lmD al st el sl))) := fun b o e => s6 _ _ (wo_some (sB3 _ _ e) (ne_of_none e hB))
        have hT6 := hT.mv hT5 sB6 (upd_ne (Ne.symm hat))
        obtain ⟨tk6, etk6⟩ := hT6.dk
        have ea5 := (b5 a hat).trans upd_same
        have eel5 := (b5 el het).trans (na _ _ e4)
        have eel6 : (upd H5 a (.dK (lmD al st el sl))) el = _ := (upd_ne (ne_of eel5 ea5 fun z => nomatch z)).trans eel5
        have esl6 := s6 _ _ (wo_some esl3 hst)
        have tk36 : TK H3 (upd H5 a (.dK (lmD al st el sl))) := wo_tk s6 fun xs z => by rw [etk3] at z; cases z
        refine fin _ a ⟨al, st, es, rows⟩ sB6 hT6 (LM.noT ⟨el, sl, rs, upd_same, eel6, esl6, hrs3.tk tk36⟩ hat etk6) ⟨hal.b30, hal.asc, by show rows.length ≤ 12; omega, by show st < rows.length; omega, fun s hs => by show s < rows.length; rw [hrl]; exact hlt s hs, by show es.length ≤ 12; omega, fun r hr => (hrow r hr).1, fun r hr s hs => by show s < rows.length; rw [hrl]; exact (hrow r hr).2 s hs⟩ rfl
def spLChain (K : PySem.W.Frag) : Sp := fun vs H Q _ => ∃ t ca cs al, vs = [.ref t, .str (alS al)] ∧ AlM al ∧ Tape K H t ca cs ∧ ∀ H' a M, Same (wo t H) H' → Tape K H' t ca cs → LM (wo t H') a M → M.Ok → M.al = al → Q (.ref a) H'
theorem ok_L_chain (T : Txt K mg) : DefOk P w K mg base 4 "_law_chain" ["_law_tape_here", "_law_letters_here"] (spLChain K) := by
  have D_L_draw := ok_L_draw (P := P) (w := w) (base := base) T
  have D_L_pick := ok_L_pick (P := P) (w := w) (base := base) T
  refine mk_L_chain T (fun vs H Q E h => ?_) (fun f cdv A outer s H vs Q E hr h => ?_)
  · obtain ⟨t, ca, cs, al, rfl, _⟩ := h
    rfl
  · obtain ⟨t, ca, cs, al, rfl, hal, hT, fin⟩ := h
    refine ⟨_, (pss_cons (ps_st 2 sc_L_chain.nd (pe_op op_add pe_int (pe_def D_L_draw hr (pa_cons (pv 0) (pa_cons pe_int pa_nil)))))
      (pss_cons (ps_st 3 sc_L_chain.nd (pe_lst pa_nil))
      (pss_cons (ps_for PassesOwn.never rfl (pi_range1 rfl T.b_range (pa_cons (pe_op op_sub (pv 2) pe_int) pa_nil)) (pg_n 4 sc_L_chain.nd)
        (pss_one (ps_expr (bmK (K := K) PySem.F.plainAttrs_list PySem.F.slot_list_append PySem.F.type_list_append mt_append (pv 3) (pa_cons (pe_callTy (tupK (K := K)) rfl T.b_tuple (by decide +kernel) (pa_cons (pe_lc (own := [("_law_sign", 5)]) (g := (gName 5)) (tt := tYes) rfl sc_L_chain.nd (pi_str (pv 1)) (blkOk_by (N := N_L_chain) (sc := defScope s_L_chain) (by decide +kernel)) (fun _ _ _ _ _ => (pg_n 5 sc_L_chain.nd)) (fun _ _ _ _ _ => pts_nil) (fun _ _ _ _ _ => (pe_def D_L_pick hr (pa_cons (pv 0) (pa_cons (pe_lst (pa_cons (pe_op op_add (pv 4) pe_int) (pa_cons (pe_op op_add (pv 4) pe_int) (pa_cons (pe_op op_add (pv 4) pe_int) (pa_cons pe_non pa_nil))))) pa_nil))))) pa_nil)) pa_nil)))))
      (pss_cons (ps_expr (bmK (K := K) PySem.F.plainAttrs_list PySem.F.slot_list_append PySem.F.type_list_append mt_append (pv 3) (pa_cons (pe_callTy (tupK (K := K)) rfl T.b_tuple (by decide +kernel) (pa_cons (pe_lc (own := [("_law_sign", 5)]) (g := (gName 5)) (tt := tYes) rfl sc_L_chain.nd (pi_str (pv 1)) (blkOk_by (N := N_L_chain) (sc := defScope s_L_chain) (by decide +kernel)) (fun _ _ _ _ _ => (pg_n 5 sc_L_chain.nd)) (fun _ _ _ _ _ => pts_nil) (fun _ _ _ _ _ => pe_non)) pa_nil)) pa_nil)))
      (pss_one (ps_ret (pe_disp (pps_cons pe_str (pv 1) (pps_cons pe_str pe_int (pps_cons pe_str (pe_lst (pa_cons (pe_op op_sub (pv 2) pe_int) pa_nil)) (pps_cons pe_str (pv 3) pps_nil)))) (by rfl) (by rfl) (fun z => by cases z) (by decide)))))))), ?_⟩
    have hB : wo t H t = none := wo_at
    refine ⟨_, rfl, t, ca, cs, 11, rfl, by decide, hT, fun H1 b1 hT1 r1 hr1 => ⟨_, _, rfl, rfl, ?_⟩⟩
    have hn : ∃ n : Nat, n = 2 + r1 ∧ 2 ≤ n ∧ n ≤ 12 := ⟨_, rfl, by omega, by omega⟩
    obtain ⟨n, hne, hn1, hn4⟩ := hn
    have hni : (2 : Int) + ((r1 : Nat) : Int) = ((n : Nat) : Int) := by omega
    have sB1 : Same (wo t H) H1 := wo_but wo_le hB b1
    refine ⟨Nat.zero_le _, fun sl hsl => ?_⟩
    have bsl : wo t H sl = none := sB1.free hsl
    obtain ⟨tk1, etk1⟩ := hT1.dk
    have ns : Same H1 (upd H1 sl (.lst [])) := Same.new hsl
    have hst : sl ≠ t := (ne_of_none etk1 hsl).symm
    show tSeq _ _ _ [some (.ref t), some (.str (alS al)), some (.int (2 + ((r1 : Nat) : Int))), some (.ref sl), none, none] _
    rw [hni]
    have add : ∀ {Hx Hy : Hp} {rows : List (List (Option Nat))} {rs : List Addr} {row : List (Option Nat)} {z : Addr}, Same (wo t H) Hx → Tape K Hx t ca cs → Hx sl = some (.lst (rs.map V.ref)) → RowsAt Hx rs rows → Hx z = some (.tup (oVs row)) → Hy = upd Hx sl (.lst (rs.map V.ref ++ [.ref z])) →
        Same (wo t H) Hy ∧ Tape K Hy t ca cs ∧ Hy sl = some (.lst ((rs ++ [z]).map V.ref)) ∧ RowsAt Hy (rs ++ [z]) (rows ++ [row]) := by
      intro Hx Hy rows rs row z sx hTx ex hrx ez e
      subst e
      have sy := Same.own (o := .lst (rs.map V.ref ++ [.ref z])) sx bsl
      have t7 : TK Hx (upd Hx sl (.lst (rs.map V.ref ++ [.ref z]))) := TK.own (TK.refl _) ex fun xs z => nomatch z
      exact ⟨sy, hT.mv hTx sy (upd_ne (Ne.symm hst)), by rw [upd_same, List.map_append]; rfl, Paired.snoc (hrx.tk t7) (t7 _ _ ez)⟩
    refine ⟨_, rfl, _, _, rfl, rfl, _, rfl, by omega, by omega, ?_⟩
    rw [show (((n : Nat) : Int) - 1).toNat = n - 1 by omega]
    refine for_range (lo := 0) (fun i σ' H' => ∃ y4 y5 rows rs, σ' = [some (.ref t), some (.str (alS al)), some (.int (n : Nat)), some (.ref sl), y4, y5] ∧ Same (wo t H) H' ∧ Tape K H' t ca cs ∧ H' sl = some (.lst (rs.map V.ref)) ∧ RowsAt H' rs rows ∧
        rows.length = i ∧ ∀ r ∈ rows, r.length = al.length ∧ ∀ s, some s ∈ r → s < n)
      ⟨none, none, [], [], rfl, sB1.trans ns, hT1.same ns, upd_same, .nil, rfl, fun r hr => nomatch hr⟩ ?_ ?_
    · rintro i σ' H3 hi ⟨y4, y5, rows, rs, rfl, sB3, hT3, esl3, hrs3, hrl, hrow⟩
      have hrsl : rs.length = rows.length := Paired.length hrs3
      refine ⟨_, rfl, .inl ⟨rfl, _, SqL.of esl3⟩, _, rfl, _, rfl, fun D hD => lc_str (fun j H' => Same (wo t H3) H' ∧ Tape K H' t ca cs ∧ ∃ es : List (Option Nat), H' D = some (.lst (oVs es)) ∧ es.length = j ∧ ∀ s, some s ∈ es → s < n) ⟨wo_le.trans (Same.new hD), hT3.same (Same.new hD), [], upd_same, rfl, fun s hs => nomatch hs⟩ ?_ ?_⟩
      · rintro j c H4 hj ⟨s4, hT4, es, e4, hel, hes⟩
        have hjl : j < al.length := by
          have := (Array.getElem?_eq_some_iff.mp hj).1
          simpa [alS] using this
        have wD : wo t H3 D = none := wo_le.free hD
        obtain ⟨tk4, etk4⟩ := hT4.dk
        have hDt : D ≠ t := ne_of e4 etk4 fun z => nomatch z
        refine ⟨rfl, yes (iteT ?_)⟩
        refine ⟨_, rfl, _, rfl, _, _, rfl, rfl, _, rfl, _, _, rfl, rfl, _, rfl, _, _, rfl, rfl, by show 4 ≤ sizeLine; decide, fun l hl => ?_⟩
        have nl := Same.new (o := .lst [V.int (0 + ((i : Nat) : Int) + 1), V.int (0 + ((i : Nat) : Int) + 1), V.int (0 + ((i : Nat) : Int) + 1), V.non]) hl
        refine ⟨t, ca, cs, l, _, rfl, hT4.same nl, upd_same, by simp, by show 4 ≤ 1000; decide, fun H5 b5 hT5 v hv => ?_⟩
        have hv2 : ∃ o : Option Nat, v = nV o ∧ ∀ s, o = some s → s < n := by
          have hi1 : V.int (0 + ((i : Nat) : Int) + 1) = nV (some (i + 1)) := by
            show V.int _ = V.int _
            congr 1
            omega
          rcases List.mem_cons.mp hv with h | h
          · exact ⟨some (i + 1), h.trans hi1, fun s hs => by cases hs; omega⟩
          · rcases List.mem_cons.mp h with h | h
            · exact ⟨some (i + 1), h.trans hi1, fun s hs => by cases hs; omega⟩
            · rcases List.mem_cons.mp h with h | h
              · exact ⟨some (i + 1), h.trans hi1, fun s hs => by cases hs; omega⟩
              · rw [List.mem_singleton] at h
                exact ⟨none, h, fun s hs => nomatch hs⟩
        obtain ⟨o, rfl, ho⟩ := hv2
        have e5 := (b5 D hDt).trans (nl _ _ e4)
        have s5 : Same (wo t H3) H5 := wo_but (s4.trans nl) wo_at b5
        have s6 := Same.own (o := .lst (oVs es ++ [nV o])) s5 wD
        refine ⟨_, e5, by rw [List.length_map]; exact small_lt (by have := hal.b30; omega), s6, hT3.mv hT5 s6 (upd_ne (Ne.symm hDt)), es ++ [o], by rw [upd_same, oVs_snoc], by rw [List.length_append, hel]; rfl, fun s hs => ?_⟩
        rcases List.mem_append.mp hs with hs | hs
        · exact hes s hs
        · exact ho s (List.mem_singleton.mp hs).symm
      · rintro H4 ⟨s4, hT4, es, e4, hel, hes⟩
        have hel2 : es.length = al.length := by rw [hel]; simp [alS]
        obtain ⟨tk3, etk3⟩ := hT3.dk
        have esl4 : H4 sl = _ := s4 _ _ (wo_some esl3 hst)
        have tk34 : TK H3 H4 := wo_tk s4 fun xs z => by rw [etk3] at z; cases z
        have sB4 : Same (wo t H) H4 := fun b o e => s4 _ _ (wo_some (sB3 _ _ e) (ne_of_none e hB))
        refine ⟨D, _, rfl, .inl ⟨SqL.of e4, fun z hz => ?_⟩⟩
        have nz := Same.new (o := .tup (oVs es)) hz
        refine ⟨sl, _, _, rfl, rfl, nz _ _ esl4, by rw [List.length_map, hrsl]; exact small_lt (by omega), ?_⟩
        obtain ⟨q1, q2, q3, q4⟩ := add (rows := rows) (row := es) (z := z) (sB4.trans nz) (hT4.same nz) (nz _ _ esl4) (hrs3.tk (tk34.trans (TK.of nz))) upd_same rfl
        refine ⟨_, y5, rows ++ [es], rs ++ [z], rfl, q1, q2, q3, q4, by rw [List.length_append, hrl]; rfl, fun r hr => ?_⟩
        rcases List.mem_append.mp hr with hr | hr
        · exact hrow r hr
        · rw [List.mem_singleton.mp hr]
          exact ⟨hel2, hes⟩
    · rintro σ' H3 ⟨y4, y5, rows, rs, rfl, sB3, hT3, esl3, hrs3, hrl, hrow⟩
      have hrsl : rs.length = rows.length := Paired.length hrs3
      refine ⟨_, rfl, .inl ⟨rfl, _, SqL.of esl3⟩, _, rfl, _, rfl, fun D hD => lc_str (fun j H' => Same H3 H' ∧ H' D = some (.lst (oVs (List.replicate j none)))) ⟨Same.new hD, upd_same⟩ ?_ ?_⟩
      · rintro j c H4 hj ⟨s4, e4⟩
        have hjl : j < al.length := by
          have := (Array.getElem?_eq_some_iff.mp hj).1
          simpa [alS] using this
        refine ⟨rfl, yes (iteT ⟨_, e4, by rw [List.length_map, List.length_replicate]; exact small_lt (by have := hal.b30; omega), Same.own s4 hD, ?_⟩)⟩
        rw [upd_same, List.replicate_succ', oVs_snoc]
        rfl
      · rintro H4 ⟨s4, e4⟩
        have hsz : (alS al).cps.size = al.length := by simp [alS]
        rw [hsz] at e4
        refine ⟨D, _, rfl, .inl ⟨SqL.of e4, fun z hz => ?_⟩⟩
        have nz := s4.trans (Same.new (o := .tup (oVs (List.replicate al.length none))) hz)
        refine ⟨sl, _, _, rfl, rfl, nz _ _ esl3, by rw [List.length_map, hrsl]; exact small_lt (by omega), ?_⟩
        obtain ⟨q1, q2, q3, q4⟩ := add (rows := rows) (row := List.replicate al.length none) (z := z) (sB3.trans nz) (hT3.same nz) (nz _ _ esl3) (hrs3.tk (TK.of nz)) upd_same rfl
        generalize (upd (upd H4 z (.tup (oVs (List.replicate al.length none)))) sl (.lst (rs.map V.ref ++ [.ref z]))) = H5 at q1 q2 q3 q4
        -- the dict
        refine fun a ha => ?_
        obtain ⟨tk5, etk5⟩ := q2.dk
        have hat : a ≠ t := (ne_of_none etk5 ha).symm
        have na := Same.new (o := .dK []) ha
        refine ⟨_, rfl, _, rfl, _, _, rfl, rfl, one_ok, fun el hel => ⟨_, rfl, ?_⟩⟩
        have nel := Same.new (o := .lst [V.int (((n : Nat) : Int) - 1)]) hel
        have ea6 := nel _ _ (show (upd H5 a (.dK [])) a = some (.dK []) from upd_same)
        refine ⟨ea6, lmD al 0 el sl, rfl, by show 4 ≤ 15; decide, ?_⟩
        rw [lm_merge]
        have eel6 : (upd (upd H5 a (.dK [])) el (.lst [V.int (((n : Nat) : Int) - 1)])) el = _ := upd_same
        have n6 := na.trans nel
        have ba : wo t H a = none := q1.free ha
        generalize (upd (upd H5 a (.dK [])) el (.lst [V.int (((n : Nat) : Int) - 1)])) = H6 at nel ea6 eel6 n6
        have s7 := Same.own (o := .dK (lmD al 0 el sl)) (q1.trans n6) ba
        have hT7 := hT.mv (q2.same n6) s7 (upd_ne (Ne.symm hat))
        obtain ⟨tk7, etk7⟩ := hT7.dk
        have tk57 : TK H6 (upd H6 a (.dK (lmD al 0 el sl))) := TK.own (TK.refl _) ea6 fun xs z => nomatch z
        have hin : V.int (((n : Nat) : Int) - 1) = nI (n - 1) := by
          show V.int _ = V.int _
          congr 1
          omega
        rw [hin] at eel6
        have hal2 := hal.b30
        have hlen : (rows ++ [List.replicate al.length none]).length = n := by rw [List.length_append, hrl, List.length_singleton]; omega
        refine fin _ a ⟨al, 0, [n - 1], rows ++ [List.replicate al.length none]⟩ s7 hT7 (LM.noT ⟨el, sl, rs ++ [z], upd_same, (upd_ne (ne_of eel6 ea6 fun z => nomatch z)).trans eel6, (upd_ne (ne_of (n6 _ _ q3) ea6 fun z => nomatch z)).trans (n6 _ _ q3), q4.tk ((TK.of n6).trans tk57)⟩ hat etk7) ?_ rfl
        refine ⟨hal.b30, hal.asc, by rw [hlen]; omega, by rw [hlen]; show 0 < n; omega, fun s hs => by rw [hlen, List.mem_singleton.mp hs]; omega, by show 1 ≤ 12; decide, fun r hr => ?_, fun r hr s hs => ?_⟩
        · rcases List.mem_append.mp hr with hr | hr
          · exact (hrow r hr).1
          · rw [List.mem_singleton.mp hr, List.length_replicate]
        · rw [hlen]
          rcases List.mem_append.mp hr with hr | hr
          · exact (hrow r hr).2 s hs
          · rw [List.mem_singleton.mp hr] at hs
            exact nomatch (List.eq_of_mem_replicate hs)
end
end J

set_option Elab.async false
set_option linter.all false
set_option maxRecDepth 100000
set_option maxHeartbeats 4000000
/-! Walks of the law: its steps, its followers. -/
namespace J
open PySem PySem.Spec PyProof.Rows L2
/-- rows of states, as lists -/
def RowsL (H : Hp) : List Addr → List (List (Option Nat)) → Prop := Paired fun a r => H a = some (.lst (oVs r))
theorem RowsL.same {H H' : Hp} {as : List Addr} {l : List (List (Option Nat))} (h : RowsL H as l) (s : Same H H') : RowsL H' as l := L2.Paired.mapP h fun _ _ e => s _ _ e
def RowsN (H : Hp) : List Addr → List (List Nat) → Prop := Paired fun a r => H a = some (.lst (nIs r))
theorem RowsN.same {H H' : Hp} {as : List Addr} {l : List (List Nat)} (h : RowsN H as l) (s : Same H H') : RowsN H' as l := L2.Paired.mapP h fun _ _ e => s _ _ e
def stepsR (J : JD) (M : MD) (p : Nat) : List (Option Nat) := (List.range M.steps.length).map fun s => M.run (some s) (ex J.al.length J.ps p)
def stepsT (J : JD) (M : MD) : List (List (Option Nat)) := (List.range J.n).map (stepsR J M)
noncomputable def followR (J : JD) (l : Nat) : List Nat := (List.range J.n).filter fun r => sideB J.al.length J.ps l r
noncomputable def followT (J : JD) : List (List Nat) := (List.range J.n).map (followR J)
theorem range_snoc_map {α : Type} (f : Nat → α) (i : Nat) : (List.range (i + 1)).map f = (List.range i).map f ++ [f i] := by rw [List.range_succ, List.map_append]; rfl
section
variable {P : Program} {w : World} {K : PySem.W.Frag} {mg : Str → Option Value} {base : Heap}
def spLAfter : Sp := fun vs H Q _ => ∃ a M o W, vs = [.ref a, nV o, .str (tx M.al W)] ∧ LM H a M ∧ M.Ok ∧ M.In o ∧ (∀ x ∈ W, x < M.al.length) ∧ Q (nV (M.run o W)) H
theorem ok_L_after (T : Txt K mg) : DefOk P w K mg base 1 "_law_after" ["_law_machine_here", "_law_state", "_law_text"] spLAfter := by
  refine mk_L_after T (fun vs H Q E h => ?_) (fun f cdv A outer s H vs Q E hr h => ?_)
  · obtain ⟨a, M, o, W, rfl, _⟩ := h
    rfl
  · obtain ⟨a, M, o, W, rfl, ⟨ea, sa, rs, hA⟩, ok, ho, hW, fin⟩ := h
    refine ⟨_, (pss_cons (ps_for PassesOwn.never rfl (pi_str (pv 2)) (pg_n 3 sc_L_after.nd)
        (pss_one (ps_if (pt_cmpR op_notN (pv 1) pe_non (nomark _)) (pss_one (ps_st 1 sc_L_after.nd (pe_ix (ix_tupK (K := K)) (pe_ix (ix_listK (K := K)) (pe_dget (hu_of hr) (pv 0) pe_str (fun _ _ => rfl)) (pv 1) (fun _ _ => rfl)) (bmK (K := K) PySem.F.plainAttrs_str PySem.F.slot_str_index PySem.F.type_str_index mt_sindex (pe_dget (hu_of hr) (pv 0) pe_str (fun _ _ => rfl)) (pa_cons (pv 3) pa_nil)) (fun _ _ => rfl)))) pss_nil)))
      (pss_one (ps_ret (pv 1)))), ?_⟩
    refine ⟨_, rfl, _, rfl, for_str (fun i σ' H' => ∃ y3, σ' = [some (.ref a), some (nV (M.run o (W.take i))), some (.str (tx M.al W)), y3] ∧ H = H') ⟨none, rfl, rfl⟩ ?_ ?_⟩
    · rintro i c σ' H' hc ⟨y3, rfl, rfl⟩
      rw [tx_get] at hc
      obtain ⟨x, hx, hcx⟩ := Option.map_eq_some_iff.mp hc
      have hxb := hW x (List.mem_of_getElem? hx)
      have hac : M.al[x]? = some c := by rw [← hcx]; exact getD_at hxb
      have hin := MD.run_in ok (W.take i) o ho
      have hstep : M.run o (W.take (i + 1)) = (M.run o (W.take i)).bind fun s => M.step s x := by
        rw [List.take_add_one, hx, MD.run_app]
        rfl
      cases hr : M.run o (W.take i) with
      | none =>
        rw [hr] at hstep
        exact ⟨_, rfl, rfl, _, rfl, iteF ⟨some (.str ⟨#[c]⟩), by rw [hstep]; rfl, rfl⟩⟩
      | some s =>
        rw [hr] at hstep
        have hs := hin s hr
        refine ⟨_, rfl, rfl, _, rfl, iteT ?_⟩
        obtain ⟨b, hb, hbr⟩ := paired_get hA.rows (List.getElem?_eq_getElem hs)
        have hxr : x < (M.steps[s]).length := by rw [ok.rows _ (List.getElem_mem hs)]; exact hxb
        obtain ⟨rest, ho⟩ := occ_letter (ok.asc.imp fun h => Nat.ne_of_lt h) hac
        have e : M.step s x = M.steps[s][x] := by
          unfold MD.step
          rw [List.getD_eq_getElem?_getD, List.getD_eq_getElem?_getD, List.getElem?_eq_getElem hs]
          simp only [Option.getD_some]
          rw [List.getElem?_eq_getElem hxr]
          rfl
        have e2 : M.run o (W.take (i + 1)) = M.steps[s][x] := hstep.trans e
        refine ⟨_, rfl, a, _, rfl, lm_steps hA.ob, _, rfl, sa, _, _, .ref b, rfl, rfl, SqL.of hA.steps, atI_nat (j := s) (by rw [List.getElem?_map, hb]; rfl), _, rfl, a, _, rfl, lm_letters hA.ob, rfl, _, rfl, _, _, x, rest, rfl, rfl, ho, b, _, _, nV (M.steps[s][x]), rfl, rfl, SqT.of hbr, atI_nat (by rw [List.getElem?_map, List.getElem?_eq_getElem hxr]; rfl), ?_⟩
        exact ⟨some (.str ⟨#[c]⟩), by rw [e2]; rfl, rfl⟩
    · rintro σ' H' ⟨y3, rfl, rfl⟩
      rw [tx_size, List.take_length]
      exact ⟨_, rfl, fin⟩
def spLSteps (P : Program) (w : World) : Sp := fun vs H Q _ => ∃ a b J M, vs = [.ref a, .ref b] ∧ LJ P w H a J ∧ LM H b M ∧ JM J M ∧ ∀ H' l rs, Same H H' → H' l = some (.lst (rs.map V.ref)) → RowsL H' rs (stepsT J M) → Q (.ref l) H'
theorem ok_L_steps (T : Txt K mg) : DefOk P w K mg base 2 "_law_steps" ["_law_joins_here", "_law_machine_here"] (spLSteps P w) := by
  have D_L_after := ok_L_after (P := P) (w := w) (base := base) T
  refine mk_L_steps T (fun vs H Q E h => ?_) (fun f cdv A outer s H vs Q E hr h => ?_)
  · obtain ⟨a, b, J, M, rfl, _⟩ := h
    rfl
  · obtain ⟨a, b, J, M, rfl, ⟨pl, ra, ta, prs, hL⟩, hM, ok, fin⟩ := h
    refine ⟨_, (pss_cons (ps_st 2 sc_L_steps.nd (pe_lst pa_nil))
      (pss_cons (ps_for PassesOwn.never rfl (pi_list (pe_dget (hu_of hr) (pv 0) pe_str (fun _ _ => rfl))) (pg_n 3 sc_L_steps.nd)
        (pss_one (ps_expr (bmK (K := K) PySem.F.plainAttrs_list PySem.F.slot_list_append PySem.F.type_list_append mt_append (pv 2) (pa_cons (pe_lc (own := [("_law_state", 4)]) (g := (gName 4)) (tt := tYes) rfl sc_L_steps.nd (pi_range1 rfl T.b_range (pa_cons (pe_callB (lenK (K := K)) rfl T.b_len PySem.boot_len (pa_cons (pe_dget (hu_of hr) (pv 1) pe_str (fun _ _ => rfl)) pa_nil)) pa_nil)) (blkOk_by (N := N_L_steps) (sc := defScope s_L_steps) (by decide +kernel)) (fun _ _ _ _ _ => (pg_n 4 sc_L_steps.nd)) (fun _ _ _ _ _ => pts_nil) (fun _ _ _ _ _ => (pe_def D_L_after hr (pa_cons (pv 1) (pa_cons (pv 4) (pa_cons (pv 3) pa_nil)))))) pa_nil)))))
      (pss_one (ps_ret (pv 2))))), ?_⟩
    have hLm := hM
    obtain ⟨ea, sa, mrs, hMA⟩ := hM
    have hml : mrs.length = M.steps.length := Paired.length hMA.rows
    have hn90 : J.n ≤ 90 := by
      have h1 := ok.j.b30
      have h2 := ok.j.p60
      show J.al.length + J.ps.length ≤ 90
      omega
    have htl : (txV J).length = J.n := txV_len J
    refine ⟨Nat.zero_le _, fun l hl => ?_⟩
    have nl := Same.new (o := .lst []) hl
    refine ⟨_, rfl, a, _, rfl, lj_texts (nl _ _ hL.ob), ta, rfl, ⟨_, SqL.of (nl _ _ hL.texts)⟩, for_list (K := K) (xs := txV J) (fun i σ' H' => ∃ y3 y4 rs, σ' = [some (.ref a), some (.ref b), some (.ref l), y3, y4] ∧ Same H H' ∧ H' l = some (.lst (rs.map V.ref)) ∧ RowsL H' rs ((List.range i).map (stepsR J M)) ∧ ∀ r ∈ rs, r ≠ l)
      ⟨none, none, [], rfl, nl, upd_same, .nil, fun r hr => nomatch hr⟩ (fun i σ' H' _ ⟨_, _, _, _, s, _⟩ => SqL.of (s _ _ hL.texts)) ?_ ?_⟩
    · rintro i v σ' H1 hv ⟨y3, y4, rs, rfl, s1, e1, hrs, hne⟩
      have hi : i < J.n := by
        have := (List.getElem?_eq_some_iff.mp hv).1
        omega
      have hi' : i < J.al.length + J.ps.length := hi
      rw [txV_get hi'] at hv
      obtain rfl := Option.some.inj hv
      have hlt := ok.j.prop.letters i hi'
      have hrl : rs.length = i := by
        have := Paired.length hrs
        rw [List.length_map, List.length_range] at this
        exact this
      refine ⟨_, rfl, .inl ⟨rfl, _, SqL.of e1⟩, _, rfl, b, _, rfl, lm_steps (s1 _ _ hMA.ob), sa, _, rfl, .inl (SqL.of (s1 _ _ hMA.steps)), _, rfl, ?_, ?_, fun D hD => ?_⟩
      · rw [List.length_map, hml]; have := ok.m.n12; omega
      · rw [List.length_map, hml]; have := ok.m.n12; omega
      rw [List.length_map, hml, Int.toNat_natCast]
      refine lc_range (fun j H' => Same H1 H' ∧ H' D = some (.lst (oVs ((List.range j).map fun s => M.run (some s) (ex J.al.length J.ps i))))) ⟨Same.new hD, upd_same⟩ ?_ ?_
      · rintro j H2 hj ⟨s2, e2⟩
        refine ⟨rfl, yes (iteT ?_)⟩
        refine ⟨_, rfl, _, rfl, _, rfl, b, M, some j, ex J.al.length J.ps i, ?_, hLm.same (s1.trans s2), ok.m, fun s hs => by cases hs; exact hj, fun x hx => by rw [ok.al]; exact hlt.2 x hx, ?_⟩
        · rw [ok.al, show (0 + ((j : Nat) : Int)) = ((j : Nat) : Int) by omega]
          rfl
        · refine ⟨_, e2, by rw [List.length_map, List.length_map, List.length_range]; exact small_lt (by have := ok.m.n12; omega), Same.own s2 hD, ?_⟩
          rw [upd_same, range_snoc_map, oVs_snoc]
      · rintro H2 ⟨s2, e2⟩
        have e1' := s2 _ _ e1
        have hDl : D ≠ l := (ne_of_none e1 hD).symm
        refine ⟨l, _, _, rfl, rfl, e1', by rw [List.length_map, hrl]; exact small_lt (by omega), ?_⟩
        refine ⟨_, _, rs ++ [D], rfl, Same.own (s1.trans s2) hl, by rw [upd_same, List.map_append]; rfl, ?_, fun r hr => ?_⟩
        · rw [range_snoc_map]
          have keep : RowsL (upd H2 l (.lst (rs.map V.ref ++ [.ref D]))) rs ((List.range i).map (stepsR J M)) := by
            have gen : ∀ {as : List Addr} {L : List (List (Option Nat))}, RowsL H2 as L → (∀ r ∈ as, r ≠ l) → RowsL (upd H2 l (.lst (rs.map V.ref ++ [.ref D]))) as L := by
              intro as L h
              induction h with
              | nil => exact fun _ => .nil
              | cons h t ih => exact fun hn => .cons ((upd_ne (hn _ (List.mem_cons_self ..))).trans h) (ih fun r hr => hn r (List.mem_cons_of_mem _ hr))
            exact gen (hrs.same s2) hne
          exact Paired.snoc keep ((upd_ne hDl).trans e2)
        · rcases List.mem_append.mp hr with hr | hr
          · exact hne r hr
          · rw [List.mem_singleton.mp hr]
            exact hDl
    · rintro σ' H1 ⟨y3, y4, rs, rfl, s1, e1, hrs, hne⟩
      rw [htl] at hrs
      exact ⟨_, rfl, fin H1 l rs s1 e1 hrs⟩
def spLFollow (P : Program) (w : World) : Sp := fun vs H Q _ => ∃ a J, vs = [.ref a] ∧ LJ P w H a J ∧ J.Ok ∧ ∀ H' l rs, Same H H' → H' l = some (.lst (rs.map V.ref)) → RowsN H' rs (followT J) → Q (.ref l) H'
theorem ok_L_follow (T : Txt K mg) : DefOk P w K mg base 2 "_law_follow" ["_law_joins_here"] (spLFollow P w) := by
  have D_L_cut := ok_L_cut (P := P) (w := w) (base := base) T
  refine mk_L_follow T (fun vs H Q E h => ?_) (fun f cdv A outer s H vs Q E hr h => ?_)
  · obtain ⟨a, J, rfl, _⟩ := h
    rfl
  · obtain ⟨a, J, rfl, hLJ, ok, fin⟩ := h
    refine ⟨_, (pss_cons (ps_st 1 sc_L_follow.nd (pe_dget (hu_of hr) (pv 0) pe_str (fun _ _ => rfl)))
      (pss_cons (ps_st 2 sc_L_follow.nd (pe_lst pa_nil))
      (pss_cons (ps_for PassesOwn.never rfl (pi_range1 rfl T.b_range (pa_cons (pe_callB (lenK (K := K)) rfl T.b_len PySem.boot_len (pa_cons (pv 1) pa_nil)) pa_nil)) (pg_n 3 sc_L_follow.nd)
        (pss_one (ps_expr (bmK (K := K) PySem.F.plainAttrs_list PySem.F.slot_list_append PySem.F.type_list_append mt_append (pv 2) (pa_cons (pe_lc (own := [("_law_right", 4)]) (g := (gName 4)) rfl sc_L_follow.nd (pi_range1 rfl T.b_range (pa_cons (pe_callB (lenK (K := K)) rfl T.b_len PySem.boot_len (pa_cons (pv 1) pa_nil)) pa_nil)) (blkOk_by (N := N_L_follow) (sc := defScope s_L_follow) (by decide +kernel)) (fun _ _ _ _ _ => (pg_n 4 sc_L_follow.nd)) (fun _ _ _ _ _ => (pts_one (pt_cmpR (eqDK (K := K) hr.units) (pe_def D_L_cut hr (pa_cons (pv 0) (pa_cons (pe_op op_add_str (pe_ix (ix_listK (K := K)) (pv 1) (pv 3) (fun _ _ => rfl)) (pe_ix (ix_listK (K := K)) (pv 1) (pv 4) (fun _ _ => rfl))) pa_nil))) (pe_lst (pa_cons (pv 3) (pa_cons (pv 4) pa_nil))) (nomark _)))) (fun _ _ _ _ _ => (pv 4))) pa_nil)))))
      (pss_one (ps_ret (pv 2)))))), ?_⟩
    obtain ⟨pl, ra, ta, prs, hL⟩ := id hLJ
    have hn90 : J.n ≤ 90 := by
      have h1 := ok.b30
      have h2 := ok.p60
      show J.al.length + J.ps.length ≤ 90
      omega
    have htl : (txV J).length = J.n := txV_len J
    refine ⟨_, rfl, a, _, rfl, lj_texts hL.ob, ?_⟩
    refine ⟨Nat.zero_le _, fun l hl => ?_⟩
    have nl := Same.new (o := .lst []) hl
    refine ⟨_, rfl, ta, _, rfl, .inl (SqL.of (nl _ _ hL.texts)), _, rfl, ?_, ?_, ?_⟩
    · rw [htl]; omega
    · rw [htl]; omega
    rw [htl, Int.toNat_natCast]
    refine for_range (lo := 0) (fun i σ' H' => ∃ y3 y4 rs, σ' = [some (.ref a), some (.ref ta), some (.ref l), y3, y4] ∧ Same H H' ∧ H' l = some (.lst (rs.map V.ref)) ∧ RowsN H' rs ((List.range i).map (followR J)) ∧ ∀ r ∈ rs, r ≠ l)
      ⟨none, none, [], rfl, nl, upd_same, .nil, fun r hr => nomatch hr⟩ ?_ ?_
    · rintro i σ' H1 hi ⟨y3, y4, rs, rfl, s1, e1, hrs, hne⟩
      have hi' : i < J.al.length + J.ps.length := hi
      have hlt := ok.prop.letters i hi'
      have hsi := ok.short i hi'
      have hrl : rs.length = i := by
        have := Paired.length hrs
        rw [List.length_map, List.length_range] at this
        exact this
      refine ⟨_, rfl, .inl ⟨rfl, _, SqL.of e1⟩, _, rfl, ta, _, rfl, .inl (SqL.of (s1 _ _ hL.texts)), _, rfl, ?_, ?_, fun D hD => ?_⟩
      · rw [htl]; omega
      · rw [htl]; omega
      rw [htl, Int.toNat_natCast]
      refine lc_range (fun j H' => Same H1 H' ∧ H' D = some (.lst (nIs ((List.range j).filter fun r => sideB J.al.length J.ps i r)))) ⟨Same.new hD, upd_same⟩ ?_ ?_
      · rintro j H2 hj ⟨s2, e2⟩
        have hj' : j < J.al.length + J.ps.length := hj
        have hsj := ok.short j hj'
        have hltj := ok.prop.letters j hj'
        have eT := s2 _ _ (s1 _ _ hL.texts)
        rw [show (0 + ((j : Nat) : Int)) = ((j : Nat) : Int) by omega, show (0 + ((i : Nat) : Int)) = ((i : Nat) : Int) by omega]
        refine ⟨rfl, ?_⟩
        refine ⟨_, rfl, _, rfl, _, rfl, ta, _, _, _, rfl, rfl, SqL.of eT, atI_nat (txV_get hi'), _, rfl, _, rfl, ta, _, _, _, rfl, rfl, SqL.of eT, atI_nat (txV_get hj'), _, _, rfl, rfl, by rw [tx_len, tx_len]; exact small_ok (by omega), ?_⟩
        rw [← tx_app]
        refine ⟨a, J, _, rfl, (hLJ.same s1).same s2, ok, fun x hx => ?_, by rw [List.length_append]; omega, fun H3 r3 s3 e3 => ⟨_, rfl, _, rfl, two_ok, fun l4 hl4 => ?_⟩⟩
        · rcases List.mem_append.mp hx with h | h
          · exact hlt.2 x h
          · exact hltj.2 x h
        have s4 := Same.new (o := .lst [V.int ((i : Nat) : Int), V.int ((j : Nat) : Int)]) hl4
        refine eq_lsts (ms := [i, j]) (SqL.of (s4 _ _ e3)) (SqL.of upd_same) ⟨_, rfl, ?_⟩
        have hcut := ok.prop.side_cut hi' hj'
        have s24 := (s2.trans s3).trans s4
        have e4 := s4 _ _ (s3 _ _ e2)
        have hsn : ((List.range (j + 1)).filter fun r => sideB J.al.length J.ps i r) = ((List.range j).filter fun r => sideB J.al.length J.ps i r) ++ (if sideB J.al.length J.ps i j = true then [j] else []) := by
          rw [List.range_succ, List.filter_append, List.filter_cons, List.filter_nil]
        have hlen : (nIs ((List.range j).filter fun r => sideB J.al.length J.ps i r)).length ≤ 90 := by
          rw [nIs_len]
          have := List.length_filter_le (fun r => sideB J.al.length J.ps i r) (List.range j)
          rw [List.length_range] at this
          omega
        by_cases hc : stg J.al.length J.ps (ex J.al.length J.ps i ++ ex J.al.length J.ps j) = [i, j]
        · have hsb : sideB J.al.length J.ps i j = true := sideB_iff.mpr (hcut.mpr hc)
          rw [hsb, if_pos rfl] at hsn
          rw [decide_eq_true hc]
          refine iteT ⟨_, rfl, _, e4, small_lt (by omega), Same.own s24 hD, ?_⟩
          rw [upd_same, hsn]
          exact congrArg (fun z => some (HO.lst z)) (nIs_snoc _ j)
        · have hsb : sideB J.al.length J.ps i j = false := by
            cases h : sideB J.al.length J.ps i j with
            | false => rfl
            | true => exact absurd (hcut.mp (sideB_iff.mp h)) hc
          rw [hsb, if_neg (by decide), List.append_nil] at hsn
          rw [decide_eq_false hc]
          refine iteF ⟨s24, ?_⟩
          rw [hsn]
          exact e4
      · rintro H2 ⟨s2, e2⟩
        have e1' := s2 _ _ e1
        have hDl : D ≠ l := (ne_of_none e1 hD).symm
        refine ⟨l, _, _, rfl, rfl, e1', by rw [List.length_map, hrl]; exact small_lt (by omega), ?_⟩
        refine ⟨_, _, rs ++ [D], rfl, Same.own (s1.trans s2) hl, by rw [upd_same, List.map_append]; rfl, ?_, fun r hr => ?_⟩
        · rw [range_snoc_map]
          have keep : RowsN (upd H2 l (.lst (rs.map V.ref ++ [.ref D]))) rs ((List.range i).map (followR J)) := by
            have gen : ∀ {as : List Addr} {L : List (List Nat)}, RowsN H2 as L → (∀ r ∈ as, r ≠ l) → RowsN (upd H2 l (.lst (rs.map V.ref ++ [.ref D]))) as L := by
              intro as L h
              induction h with
              | nil => exact fun _ => .nil
              | cons h t ih => exact fun hn => .cons ((upd_ne (hn _ (List.mem_cons_self ..))).trans h) (ih fun r hr => hn r (List.mem_cons_of_mem _ hr))
            exact gen (hrs.same s2) hne
          exact Paired.snoc keep ((upd_ne hDl).trans e2)
        · rcases List.mem_append.mp hr with hr | hr
          · exact hne r hr
          · rw [List.mem_singleton.mp hr]
            exact hDl
    · rintro σ' H1 ⟨y3, y4, rs, rfl, s1, e1, hrs, hne⟩
      exact ⟨_, rfl, fin H1 l rs s1 e1 hrs⟩
end
end J

set_option Elab.async false
set_option linter.all false
set_option maxRecDepth 100000
set_option maxHeartbeats 4000000
/-! Walk of the law: the distances. -/
namespace J
open PySem PySem.Spec PyProof.Rows L2
/-! ### a list of pairs against the empty one -/
def pD (q : Nat × Nat) : PyData := .tuple [nD q.1, nD q.2]
theorem dp_pairs {K : PySem.W.Frag} {H : Hp} : ∀ {as : List Addr} {L : List (Nat × Nat)}, PairsAt H as L → DpAll K H (as.map V.ref) (L.map pD)
  | _, _, .nil => .nil
  | _, _, .cons h t => .cons (.tup (SqT.of h) (dp_ints K H [_, _])) (dp_pairs t)
theorem lay_pairs : ∀ L : List (Nat × Nat), PyData.canLayAll0 (L.map pD) = true ∧ PyData.depthAll (L.map pD) ≤ 1
  | [] => by simp [PyData.canLayAll0, PyData.depthAll]
  | q :: L => by
    obtain ⟨h1, h2⟩ := lay_pairs L
    obtain ⟨h3, h4⟩ := lay_ints [q.1, q.2]
    rw [List.map_cons]
    unfold PyData.canLayAll0 PyData.depthAll
    rw [h1]
    have e : [q.1, q.2].map nD = [nD q.1, nD q.2] := rfl
    rw [e] at h3 h4
    constructor
    · simp [pD, PyData.canLay0, h3]
    · simp [pD, PyData.depth, h4, h2]
theorem shaped_pairs (L : List (Nat × Nat)) : SeqAt.shaped (.list (L.map pD)) = true := by
  obtain ⟨h1, h2⟩ := lay_pairs L
  simp [SeqAt.shaped, PyData.canLay0, PyData.depth, h1]
  omega
theorem eq_pairs_nil {K : PySem.W.Frag} {H : Hp} {a b : Addr} {as : List Addr} {L : List (Nat × Nat)} {Q : V → Hp → Prop} (ha : H a = some (.lst (as.map V.ref))) (hp : PairsAt H as L) (hb : H b = some (.lst [])) (q : Q (.bl (decide (L = []))) H) : rEqD K (.ref a) (.ref b) H Q := by
  refine ⟨_, _, .lst (SqL.of ha) (dp_pairs hp), .lst (SqL.of hb) .nil, shaped_pairs L, shaped_ints_l [], ?_⟩
  have e : PyData.eqv (.list (L.map pD)) (.list []) = decide (L = []) := by
    unfold PyData.eqv
    cases L with
    | nil => simp [PyData.eqvAll]
    | cons q L => simp [PyData.eqvAll]
  rw [e]
  exact q
theorem sd_none_key {α : Type} {g : α → V} (l : List (Stn × α)) (x : Option Int) : valV (sd g l) (x, none) = none := by
  induction l with
  | nil => rfl
  | cons e l ih =>
    unfold sd
    rw [List.map_cons, valV_neg]
    · exact ih
    · intro z
      have := congrArg Prod.snd z
      exact nomatch this
theorem full_of {α : Type} [DecidableEq α] {l m : List α} (hn : l.Nodup) (hs : ∀ x ∈ l, x ∈ m) (hl : m.length ≤ l.length) : ∀ x ∈ m, x ∈ l := fun x hx => by
  refine Classical.byContradiction fun hx2 => ?_
  have := nodup_len (l := x :: l) (m := m) (List.nodup_cons.mpr ⟨hx2, hn⟩) fun y hy => by
    rcases List.mem_cons.mp hy with h | h
    · rw [h]; exact hx
    · exact hs y h
  rw [List.length_cons] at this
  omega
def allS (n S : Nat) : List Stn := (List.range n).flatMap fun p => (List.range S).map fun s => (some p, s)
theorem allS_mem {n S : Nat} {x : Stn} : x ∈ allS n S ↔ ∃ p s, x = (some p, s) ∧ p < n ∧ s < S := by
  unfold allS
  rw [List.mem_flatMap]
  constructor
  · rintro ⟨p, hp, h⟩
    obtain ⟨s, hs, rfl⟩ := List.mem_map.mp h
    exact ⟨p, s, rfl, List.mem_range.mp hp, List.mem_range.mp hs⟩
  · rintro ⟨p, s, rfl, hp, hs⟩
    exact ⟨p, List.mem_range.mpr hp, List.mem_map.mpr ⟨s, List.mem_range.mpr hs, rfl⟩⟩
theorem allS_len (n S : Nat) : (allS n S).length = n * S := by
  unfold allS
  have : ∀ L : List Nat, (L.flatMap fun p => (List.range S).map fun s => (some p, s)).length = L.length * S := by
    intro L
    induction L with
    | nil => simp
    | cons a L ih =>
      rw [List.flatMap_cons, List.length_append, ih, List.length_map, List.length_range, List.length_cons, Nat.add_mul]
      omega
  rw [this, List.length_range]
section
variable {P : Program} {w : World} {K : PySem.W.Frag} {mg : Str → Option Value} {base : Heap}
def Far (J : JD) (M : MD) (x : Stn) : Prop := ∃ p s, x = (some p, s) ∧ p < J.n ∧ s < M.steps.length ∧ Live J M (some p, s)
/-- the gathering of the ends -/
structure P1 (M : MD) (dn : Nat → Nat → Prop) (FL : List (Stn × Int)) (LN : List (Nat × Nat)) (c : Nat) : Prop where
  nd : (FL.map (·.1)).Nodup
  key : ∀ x, x ∈ FL.map (·.1) ↔ ∃ p s, x = (some p, s) ∧ dn p s ∧ s ∈ M.ends
  lnd : LN.Nodup
  ln : ∀ q, q ∈ LN ↔ dn q.1 q.2 ∧ ¬ q.2 ∈ M.ends
  val : ∀ e ∈ FL, e.2 = 0
  len : LN.length ≤ c
theorem P1.imp {M : MD} {dn dn' : Nat → Nat → Prop} {FL : List (Stn × Int)} {LN : List (Nat × Nat)} {c c' : Nat} (h : P1 M dn FL LN c) (e : ∀ p s, dn p s ↔ dn' p s) (hc : c ≤ c') : P1 M dn' FL LN c' :=
  ⟨h.nd, fun x => (h.key x).trans ⟨fun ⟨p, s, a, b, d⟩ => ⟨p, s, a, (e p s).mp b, d⟩, fun ⟨p, s, a, b, d⟩ => ⟨p, s, a, (e p s).mpr b, d⟩⟩, h.lnd, fun q => (h.ln q).trans (and_congr_left fun _ => e q.1 q.2), h.val, Nat.le_trans h.len hc⟩
theorem P1.far {M : MD} {dn : Nat → Nat → Prop} {FL : List (Stn × Int)} {LN : List (Nat × Nat)} {c : Nat} (h : P1 M dn FL LN c) {p s : Nat} (hn : ¬ dn p s) (he : s ∈ M.ends) : P1 M (fun p' s' => dn p' s' ∨ (p' = p ∧ s' = s)) (FL ++ [((some p, s), 0)]) LN c := by
  refine ⟨?_, fun x => ?_, h.lnd, fun q => ?_, fun e he' => ?_, h.len⟩
  · rw [List.map_append, List.nodup_append]
    refine ⟨h.nd, by simp, fun a ha b hb q => ?_⟩
    rw [List.map_singleton, List.mem_singleton] at hb
    rw [q, hb] at ha
    obtain ⟨p', s', e, d, _⟩ := (h.key _).mp ha
    have e1 : some p = some p' := congrArg Prod.fst e
    have e2 : s = s' := congrArg Prod.snd e
    cases e1
    rw [← e2] at d
    exact hn d
  · rw [List.map_append, List.mem_append, h.key x, List.map_singleton, List.mem_singleton]
    constructor
    · rintro (⟨p', s', e, d, g⟩ | e)
      · exact ⟨p', s', e, .inl d, g⟩
      · exact ⟨p, s, e, .inr ⟨rfl, rfl⟩, he⟩
    · rintro ⟨p', s', e, d | ⟨rfl, rfl⟩, g⟩
      · exact .inl ⟨p', s', e, d, g⟩
      · exact .inr e
  · rw [h.ln q]
    constructor
    · rintro ⟨d, g⟩
      exact ⟨.inl d, g⟩
    · rintro ⟨d | ⟨d1, d2⟩, g⟩
      · exact ⟨d, g⟩
      · rw [d2] at g
        exact absurd he g
  · rcases List.mem_append.mp he' with h' | h'
    · exact h.val e h'
    · rw [List.mem_singleton.mp h']
theorem P1.left {M : MD} {dn : Nat → Nat → Prop} {FL : List (Stn × Int)} {LN : List (Nat × Nat)} {c : Nat} (h : P1 M dn FL LN c) {p s : Nat} (hn : ¬ dn p s) (he : ¬ s ∈ M.ends) : P1 M (fun p' s' => dn p' s' ∨ (p' = p ∧ s' = s)) FL (LN ++ [(p, s)]) (c + 1) := by
  refine ⟨h.nd, fun x => ?_, ?_, fun q => ?_, h.val, by rw [List.length_append, List.length_singleton]; have := h.len; omega⟩
  · rw [h.key x]
    constructor
    · rintro ⟨p', s', e, d, g⟩
      exact ⟨p', s', e, .inl d, g⟩
    · rintro ⟨p', s', e, d | ⟨rfl, rfl⟩, g⟩
      · exact ⟨p', s', e, d, g⟩
      · exact absurd g he
  · rw [List.nodup_append]
    refine ⟨h.lnd, by simp, fun a ha b hb q => ?_⟩
    rw [List.mem_singleton] at hb
    rw [q, hb] at ha
    exact hn ((h.ln _).mp ha).1
  · rw [List.mem_append, h.ln q, List.mem_singleton]
    constructor
    · rintro (⟨d, g⟩ | e)
      · exact ⟨.inl d, g⟩
      · rw [e]
        exact ⟨.inr ⟨rfl, rfl⟩, he⟩
    · rintro ⟨d | ⟨d1, d2⟩, g⟩
      · exact .inl ⟨d, g⟩
      · exact .inr (Prod.ext d1 d2)
/-- the rounds -/
structure P2 (J : JD) (M : MD) (FL : List (Stn × Int)) (LN : List (Nat × Nat)) (i : Nat) : Prop where
  nd : (FL.map (·.1)).Nodup
  far : ∀ x ∈ FL.map (·.1), Far J M x
  ends : ∀ p s, p < J.n → s < M.steps.length → s ∈ M.ends → (some p, s) ∈ FL.map (·.1)
  lnd : LN.Nodup
  ln : ∀ q, q ∈ LN ↔ q.1 < J.n ∧ q.2 < M.steps.length ∧ (some q.1, q.2) ∉ FL.map (·.1)
  val : ∀ e ∈ FL, e.2 ≤ i
  cnt : i ≤ FL.length
theorem P1.go {J : JD} {M : MD} {FL : List (Stn × Int)} {LN : List (Nat × Nat)} {c : Nat} (h : P1 M (fun p s => p < J.n ∧ s < M.steps.length) FL LN c) : P2 J M FL LN 0 := by
  refine ⟨h.nd, fun x hx => ?_, fun p s hp hs he => (h.key _).mpr ⟨p, s, rfl, ⟨hp, hs⟩, he⟩, h.lnd, fun q => ?_, fun e he => ?_, Nat.zero_le _⟩
  · obtain ⟨p, s, rfl, ⟨hp, hs⟩, he⟩ := (h.key x).mp hx
    exact ⟨p, s, rfl, hp, hs, .fin he⟩
  · rw [h.ln q]
    constructor
    · rintro ⟨⟨d1, d2⟩, g⟩
      refine ⟨d1, d2, fun hm => ?_⟩
      obtain ⟨p, s, e, _, he⟩ := (h.key _).mp hm
      have e2 : q.2 = s := congrArg Prod.snd e
      rw [← e2] at he
      exact g he
    · rintro ⟨d1, d2, g⟩
      exact ⟨⟨d1, d2⟩, fun he => g ((h.key _).mpr ⟨q.1, q.2, rfl, ⟨d1, d2⟩, he⟩)⟩
  · rw [h.val e he]
    exact Int.le_refl 0
/-- whether a follower of q leads to what is found -/
def nb (J : JD) (M : MD) (ks : List Stn) (q : Nat × Nat) (o : Nat) : Bool := match M.run (some q.2) (ex J.al.length J.ps o) with
  | none => false
  | some t => decide ((some o, t) ∈ ks)
noncomputable def hs (J : JD) (M : MD) (ks : List Stn) (q : Nat × Nat) : Bool := !decide ((followR J q.1).filter (nb J M ks q) = [])
theorem hs_iff {J : JD} {M : MD} {ks : List Stn} {q : Nat × Nat} : hs J M ks q = true ↔ ∃ e, e ∈ nexts J M (some q.1, q.2) ∧ tgt e ∈ ks := by
  unfold hs
  rw [Bool.not_eq_true', decide_eq_false_iff_not]
  constructor
  · intro h
    obtain ⟨o, ho⟩ := List.exists_mem_of_ne_nil _ h
    obtain ⟨h1, h2⟩ := List.mem_filter.mp ho
    obtain ⟨h3, h4⟩ := List.mem_filter.mp h1
    unfold nb at h2
    cases hr : M.run (some q.2) (ex J.al.length J.ps o) with
    | none =>
      rw [hr] at h2
      cases h2
    | some t =>
      rw [hr] at h2
      exact ⟨(o, t), nexts_mem.mpr ⟨List.mem_range.mp h3, h4, hr⟩, of_decide_eq_true h2⟩
  · rintro ⟨e, he, hk⟩ hn
    obtain ⟨h1, h2, h3⟩ := nexts_mem.mp he
    have : e.1 ∈ (followR J q.1).filter (nb J M ks q) := by
      refine List.mem_filter.mpr ⟨List.mem_filter.mpr ⟨List.mem_range.mpr h1, h2⟩, ?_⟩
      unfold nb
      rw [h3]
      exact decide_eq_true hk
    rw [hn] at this
    exact nomatch this
/-- nothing more is found: all is found -/
theorem P2.full {J : JD} {M : MD} (ok : JM J M) {FL : List (Stn × Int)} {LN : List (Nat × Nat)} {i : Nat} (h : P2 J M FL LN i) (hf : LN.filter (hs J M (FL.map (·.1))) = []) : ∀ x, x ∈ FL.map (·.1) ↔ Far J M x := fun x => by
  refine ⟨h.far x, fun ⟨p, s, e, hp, hs', hl⟩ => ?_⟩
  rw [e]
  refine live_in (R := allS J.n M.steps.length) (fun y hy c hc => ?_) (fun y hy he => ?_) (fun y hy c hc hm => ?_) hl (allS_mem.mpr ⟨p, s, rfl, hp, hs'⟩)
  · obtain ⟨p', s', rfl, hp', hs''⟩ := allS_mem.mp hy
    have hv := nexts_vd ok.m (x := (some p', s')) ⟨fun l hl => by cases hl; exact hp', hs''⟩ hc
    exact allS_mem.mpr ⟨c.1, c.2, rfl, hv.1 c.1 rfl, hv.2⟩
  · obtain ⟨p', s', rfl, hp', hs''⟩ := allS_mem.mp hy
    exact h.ends p' s' hp' hs'' he
  · obtain ⟨p', s', rfl, hp', hs''⟩ := allS_mem.mp hy
    refine Classical.byContradiction fun hnot => ?_
    have h1 : (p', s') ∈ LN := (h.ln _).mpr ⟨hp', hs'', hnot⟩
    have h2 : (p', s') ∈ LN.filter (hs J M (FL.map (·.1))) := List.mem_filter.mpr ⟨h1, hs_iff.mpr ⟨c, hc, hm⟩⟩
    rw [hf] at h2
    exact nomatch h2
theorem P2.done {J : JD} {M : MD} {FL : List (Stn × Int)} {LN : List (Nat × Nat)} (h : P2 J M FL LN (J.n * M.steps.length)) : ∀ x, x ∈ FL.map (·.1) ↔ Far J M x := fun x => by
  refine ⟨h.far x, fun ⟨p, s, e, hp, hs', hl⟩ => ?_⟩
  refine full_of (m := allS J.n M.steps.length) h.nd (fun y hy => ?_) ?_ x (allS_mem.mpr ⟨p, s, e, hp, hs'⟩)
  · obtain ⟨p, s, e, hp, hs', _⟩ := h.far y hy
    exact allS_mem.mpr ⟨p, s, e, hp, hs'⟩
  · rw [allS_len, List.length_map]
    exact h.cnt
def mk1 (k : Int) (q : Nat × Nat) : Stn × Int := ((some q.1, q.2), k)
theorem mk1_keys (k : Int) (FN : List (Nat × Nat)) : (FN.map (mk1 k)).map (·.1) = FN.map fun q => ((some q.1, q.2) : Stn) := by
  rw [List.map_map]
  rfl
theorem P2.next {J : JD} {M : MD} {FL : List (Stn × Int)} {LN : List (Nat × Nat)} {i : Nat} (h : P2 J M FL LN i) (hne : LN.filter (hs J M (FL.map (·.1))) ≠ []) :
    P2 J M (FL ++ (LN.filter (hs J M (FL.map (·.1)))).map (mk1 (1 + i))) (LN.filter fun q => !decide ((some q.1, q.2) ∈ (FL ++ (LN.filter (hs J M (FL.map (·.1)))).map (mk1 (1 + i))).map (·.1))) (i + 1) := by
  have inj : ∀ {q r : Nat × Nat}, ((some q.1, q.2) : Stn) = (some r.1, r.2) → q = r := fun {q r} e => by
    have e1 : some q.1 = some r.1 := congrArg (fun x : Stn => x.1) e
    have e2 : q.2 = r.2 := congrArg (fun x : Stn => x.2) e
    exact Prod.ext (Option.some.inj e1) e2
  have hFN : (LN.filter (hs J M (FL.map (·.1)))).Nodup := List.Pairwise.filter _ h.lnd
  refine ⟨?_, fun x hx => ?_, fun p s hp hs' he => ?_, List.Pairwise.filter _ h.lnd, fun q => ?_, fun e he => ?_, ?_⟩
  · rw [List.map_append, mk1_keys, List.nodup_append]
    refine ⟨h.nd, ?_, fun a ha b hb e => ?_⟩
    · rw [List.Nodup, List.pairwise_map]
      exact hFN.imp fun hab e => hab (inj e)
    · obtain ⟨q, hq, rfl⟩ := List.mem_map.mp hb
      rw [e] at ha
      exact ((h.ln q).mp (List.mem_filter.mp hq).1).2.2 ha
  · rw [List.map_append, mk1_keys] at hx
    rcases List.mem_append.mp hx with hx | hx
    · exact h.far x hx
    · obtain ⟨q, hq, rfl⟩ := List.mem_map.mp hx
      obtain ⟨h1, h2⟩ := List.mem_filter.mp hq
      obtain ⟨e, he, hk⟩ := hs_iff.mp h2
      obtain ⟨d1, d2, _⟩ := (h.ln q).mp h1
      obtain ⟨p', s', e3, _, _, hl⟩ := h.far _ hk
      exact ⟨q.1, q.2, rfl, d1, d2, .step he (by rw [e3]; exact hl)⟩
  · rw [List.map_append]
    exact List.mem_append_left _ (h.ends p s hp hs' he)
  · rw [List.mem_filter, h.ln q]
    constructor
    · rintro ⟨⟨d1, d2, _⟩, g⟩
      rw [Bool.not_eq_true', decide_eq_false_iff_not] at g
      exact ⟨d1, d2, g⟩
    · rintro ⟨d1, d2, g⟩
      refine ⟨⟨d1, d2, fun hm => g ?_⟩, ?_⟩
      · rw [List.map_append]
        exact List.mem_append_left _ hm
      · rw [Bool.not_eq_true', decide_eq_false_iff_not]
        exact g
  · rcases List.mem_append.mp he with he | he
    · have := h.val e he
      omega
    · obtain ⟨q, _, rfl⟩ := List.mem_map.mp he
      show (1 : Int) + i ≤ ((i + 1 : Nat) : Int)
      omega
  · rw [List.length_append, List.length_map]
    have := List.length_pos_iff.mpr hne
    have := h.cnt
    omega
def spDist (P : Program) (w : World) : Sp := fun vs H Q _ => ∃ m f st J M frs srs, vs = [.ref m, .ref f, .ref st] ∧ LM H m M ∧ JM J M ∧ H f = some (.lst (frs.map V.ref)) ∧ RowsN H frs (followT J) ∧ H st = some (.lst (srs.map V.ref)) ∧ RowsL H srs (stepsT J M) ∧
  ∀ H' a FL, Same H H' → PD P w H' a (sd V.int FL) → (FL.map (·.1)).Nodup → (∀ x, x ∈ FL.map (·.1) ↔ Far J M x) → Q (.ref a) H'
theorem ok_L_distances (T : Txt K mg) : DefOk P w K mg base 1 "_law_distances" ["_law_machine_here", "_law_follow_here", "_law_steps_here"] (spDist P w) := by
  refine mk_L_distances T (fun vs H Q E h => ?_) (fun f cdv A outer s H vs Q E hr h => ?_)
  · obtain ⟨m, f, st, J, M, frs, srs, rfl, _⟩ := h
    rfl
  · obtain ⟨m, fo, st, J, M, frs, srs, rfl, hLM, ok, hF, hFr, hS, hSr, fin⟩ := h
    refine ⟨_, (pss_cons (ps_st 3 sc_L_distances.nd (pdnewK (P := P) (w := w)))
      (pss_cons (ps_st 4 sc_L_distances.nd (pe_lst pa_nil))
      (pss_cons (ps_for PassesOwn.never rfl (pi_range1 rfl T.b_range (pa_cons (pe_callB (lenK (K := K)) rfl T.b_len PySem.boot_len (pa_cons (pv 1) pa_nil)) pa_nil)) (pg_n 5 sc_L_distances.nd)
        (pss_one (ps_for PassesOwn.never rfl (pi_range1 rfl T.b_range (pa_cons (pe_callB (lenK (K := K)) rfl T.b_len PySem.boot_len (pa_cons (pe_dget (hu_of hr) (pv 0) pe_str (fun _ _ => rfl)) pa_nil)) pa_nil)) (pg_n 6 sc_L_distances.nd)
          (pss_one (ps_if (pt_cmpR (inK (K := K)) (pv 6) (pe_dget (hu_of hr) (pv 0) pe_str (fun _ _ => rfl)) rfl) (pss_one (pdputK (P := P) (w := w) (hu_of hr) (pv 3) (pe_tup (pa_cons (pv 5) (pa_cons (pv 6) pa_nil))) pe_int)) (pss_one (ps_expr (bmK (K := K) PySem.F.plainAttrs_list PySem.F.slot_list_append PySem.F.type_list_append mt_append (pv 4) (pa_cons (pe_tup (pa_cons (pv 5) (pa_cons (pv 6) pa_nil))) pa_nil)))))))))
      (pss_cons (ps_for PassesOwn.never rfl (pi_range2 rfl T.b_range (pa_cons pe_int (pa_cons (pe_op op_add (pe_op op_mul (pe_callB (lenK (K := K)) rfl T.b_len PySem.boot_len (pa_cons (pv 1) pa_nil)) (pe_callB (lenK (K := K)) rfl T.b_len PySem.boot_len (pa_cons (pe_dget (hu_of hr) (pv 0) pe_str (fun _ _ => rfl)) pa_nil))) pe_int) pa_nil))) (pg_n 7 sc_L_distances.nd)
        (pss_cons (ps_st 8 sc_L_distances.nd (pe_lst pa_nil))
        (pss_cons (ps_for PassesOwn.never rfl (pi_list (pv 4)) (pg_n 9 sc_L_distances.nd)
          (pss_cons (ps_setLc (i := 10) (own := [("_law_other", 11)]) (g := (gName 11)) rfl sc_L_distances.nd rfl rfl (sw_true rfl rfl rfl (by decide +kernel)) (pi_list (pe_ix (ix_listK (K := K)) (pv 1) (pe_ix (ix_tupK (K := K)) (pv 9) pe_int (fun _ _ => rfl)) (fun _ _ => rfl))) (blkOk_by (N := N_L_distances) (sc := defScope s_L_distances) (by decide +kernel)) (fun _ _ _ _ _ => (pg_n 11 sc_L_distances.nd)) (fun _ _ _ _ _ => (pts_one (pt_cmpR op_lt (pdget2K (P := P) (w := w) (hu_of hr) (pv 3) (pe_tup (pa_cons (pv 11) (pa_cons (pe_ix (ix_listK (K := K)) (pe_ix (ix_listK (K := K)) (pv 2) (pv 11) (fun _ _ => rfl)) (pe_ix (ix_tupK (K := K)) (pv 9) pe_int (fun _ _ => rfl)) (fun _ _ => rfl)) pa_nil))) (pv 7)) (pv 7) (nomark _)))) (fun _ _ _ _ _ => (pv 11)))
          (pss_one (ps_if (pt_cmpR (neDK (K := K) hr.units) (pv 10) (pe_lst pa_nil) (nomark _)) (pss_one (ps_expr (bmK (K := K) PySem.F.plainAttrs_list PySem.F.slot_list_append PySem.F.type_list_append mt_append (pv 8) (pa_cons (pv 9) pa_nil)))) pss_nil))))
        (pss_cons (ps_if (pt_cmpR (eqDK (K := K) hr.units) (pv 8) (pe_lst pa_nil) (nomark _)) (pss_one ps_break) pss_nil)
        (pss_cons (ps_for PassesOwn.never rfl (pi_list (pv 8)) (pg_n 9 sc_L_distances.nd)
          (pss_one (pdputK (P := P) (w := w) (hu_of hr) (pv 3) (pv 9) (pv 7))))
        (pss_one (ps_setLc (i := 4) (own := [("_law_pair", 9)]) (g := (gName 9)) rfl sc_L_distances.nd rfl rfl (sw_true rfl rfl rfl (by decide +kernel)) (pi_list (pv 4)) (blkOk_by (N := N_L_distances) (sc := defScope s_L_distances) (by decide +kernel)) (fun _ _ _ _ _ => (pg_n 9 sc_L_distances.nd)) (fun _ _ _ _ _ => (pts_one (pt_cmp (pdnotinK (P := P) (w := w) (hu_of hr) (pv 9) (pv 3))))) (fun _ _ _ _ _ => (pv 9)))))))))
      (pss_one (ps_ret (pv 3))))))), ?_⟩
    obtain ⟨mea, msa, mrs, hA⟩ := hLM
    have hml : mrs.length = M.steps.length := Paired.length hA.rows
    have hfl : frs.length = J.n := by
      have := Paired.length hFr
      rw [this]
      show ((List.range J.n).map _).length = _
      rw [List.length_map, List.length_range]
    have hn90 : J.n ≤ 90 := by
      have h1 := ok.j.b30
      have h2 := ok.j.p60
      show J.al.length + J.ps.length ≤ 90
      omega
    have hS12 := ok.m.n12
    have hNS : J.n * M.steps.length ≤ 1080 := Nat.mul_le_mul hn90 hS12
    -- far, left
    refine fun fa H1 hfa d1 => ?_
    have s1 : Same H H1 := PdPut.own d1 (Same.refl _) hfa
    refine ⟨Nat.zero_le _, fun ll hll => ?_⟩
    have nl := Same.new (o := .lst []) hll
    have hll0 : H ll = none := s1.free hll
    refine ⟨_, rfl, fo, _, rfl, .inl (SqL.of ((s1.trans nl) _ _ hF)), _, rfl, ?_, ?_, ?_⟩
    · rw [List.length_map, hfl]; omega
    · rw [List.length_map, hfl]; omega
    rw [List.length_map, hfl, Int.toNat_natCast]
    have key_bound : ∀ {FL : List (Stn × Int)} {dn : Nat → Nat → Prop} {LN c}, P1 M dn FL LN c → (∀ p s, dn p s → p < J.n ∧ s < M.steps.length) → FL.length ≤ 1092 := fun {FL dn LN c} h1 h2 => by
      have := Nat.le_trans (stn_le (J := J) (M := M) h1.nd fun x hx => by
        obtain ⟨p, s, rfl, d, _⟩ := (h1.key x).mp hx
        obtain ⟨hp, hs⟩ := h2 p s d
        exact ⟨fun l hl => by cases hl; exact hp, hs⟩) (univ_le ok.j ok.m)
      rw [List.length_map] at this
      exact this
    refine for_range (lo := 0) (fun i σ' H' => ∃ y5 y6 y7 y8 y9 y10 y11 FL LN as, σ' = [some (.ref m), some (.ref fo), some (.ref st), some (.ref fa), some (.ref ll), y5, y6, y7, y8, y9, y10, y11] ∧ Same H H' ∧ PD P w H' fa (sd V.int FL) ∧ H' ll = some (.lst (as.map V.ref)) ∧ PairsAt H' as LN ∧ P1 M (fun p s => p < i ∧ s < M.steps.length) FL LN (i * 12))
      ⟨none, none, none, none, none, none, none, [], [], [], rfl, s1.trans nl, d1.1.same nl, upd_same, .nil, ⟨.nil, fun x => ⟨(fun h => nomatch h), fun ⟨_, _, _, ⟨h, _⟩, _⟩ => absurd h (Nat.not_lt_zero _)⟩, .nil, fun q => ⟨(fun h => nomatch h), fun ⟨⟨h, _⟩, _⟩ => absurd h (Nat.not_lt_zero _)⟩, (fun e he => nomatch he), Nat.zero_le _⟩⟩ ?_ ?_
    · rintro i σ' H2 hi ⟨y5, y6, y7, y8, y9, y10, y11, FL, LN, as, rfl, s2, hPD, hL, hLN, hP⟩
      refine ⟨_, rfl, m, _, rfl, lm_steps (s2 _ _ hA.ob), msa, _, rfl, .inl (SqL.of (s2 _ _ hA.steps)), _, rfl, ?_, ?_, ?_⟩
      · rw [List.length_map, hml]; omega
      · rw [List.length_map, hml]; omega
      rw [List.length_map, hml, Int.toNat_natCast]
      refine for_range (lo := 0) (fun j σ' H' => ∃ y6 y7 y8 y9 y10 y11 FL LN as, σ' = [some (.ref m), some (.ref fo), some (.ref st), some (.ref fa), some (.ref ll), some (.int (0 + (i : Int))), y6, y7, y8, y9, y10, y11] ∧ Same H H' ∧ PD P w H' fa (sd V.int FL) ∧ H' ll = some (.lst (as.map V.ref)) ∧ PairsAt H' as LN ∧ P1 M (fun p s => (p < i ∧ s < M.steps.length) ∨ (p = i ∧ s < j)) FL LN (i * 12 + j))
        ⟨y6, y7, y8, y9, y10, y11, FL, LN, as, rfl, s2, hPD, hL, hLN, hP.imp (fun p s => ⟨fun h => .inl h, fun h => h.elim id fun h => absurd h.2 (Nat.not_lt_zero _)⟩) (Nat.le_refl _)⟩ ?_ ?_
      · rintro j σ' H3 hj ⟨y6, y7, y8, y9, y10, y11, FL, LN, as, rfl, s3, hPD, hL, hLN, hP⟩
        have hnd : ¬ ((i < i ∧ j < M.steps.length) ∨ (i = i ∧ j < j)) := by omega
        have hal : as.length = LN.length := Paired.length hLN
        have hb := key_bound hP (fun p s h => by omega)
        have hll2 := hP.len
        have cvt2 : ∀ p s, ((p < i ∧ s < M.steps.length) ∨ (p = i ∧ s < j)) ∨ (p = i ∧ s = j) ↔ (p < i ∧ s < M.steps.length) ∨ (p = i ∧ s < j + 1) := fun p s => by omega
        obtain ⟨Ff, eFf⟩ := pd_some hPD
        rw [show (0 + ((j : Nat) : Int)) = ((j : Nat) : Int) by omega]
        refine ⟨_, rfl, _, rfl, m, _, rfl, lm_ends (s3 _ _ hA.ob), in_ints (.inl (SqL.of (s3 _ _ hA.ends))) ⟨_, rfl, ite2 (fun h => ?_) fun h => ?_⟩⟩
        · have h := of_decide_eq_true h
          refine ⟨_, rfl, _, rfl, _, rfl, two_ok, fun k1 hk1 => ?_⟩
          have n1 := Same.new (o := .tup [V.int (0 + ((i : Nat) : Int)), V.int ((j : Nat) : Int)]) hk1
          refine ⟨fa, k1, stK (some i, j), _, rfl, rfl, hPD.same n1, ?_, by rw [sd_len]; exact small_lt (by omega), fun H4 d4 => ?_⟩
          · rw [upd_same, pkV_st, show (0 + ((i : Nat) : Int)) = ((i : Nat) : Int) by omega]
            rfl
          have hnk : gt FL (some i, j) = none := gt_none.mpr fun hm => by
            obtain ⟨p, s, e, d, _⟩ := (hP.key _).mp hm
            have e1 : some i = some p := congrArg (fun x : Stn => x.1) e
            have e2 : j = s := congrArg (fun x : Stn => x.2) e
            have e3 := Option.some.inj e1
            omega
          rw [sd_put _ hnk] at d4
          refine ⟨_, y7, y8, y9, y10, y11, FL ++ [((some i, j), 0)], LN, as, rfl, d4.own (s3.trans n1) hfa, d4.1, ?_, ?_, (hP.far hnd h).imp cvt2 (by omega)⟩
          · have e := n1 _ _ hL
            rw [d4.2 ll (fun z => by rw [z, eFf] at hL; cases hL)]
            exact e
          · exact hLN.tk ((TK.of n1).trans (PdPut.tk (hPD.same n1) d4))
        · have h : ¬ j ∈ M.ends := fun z => h (decide_eq_true z)
          refine ⟨_, rfl, .inl ⟨rfl, _, SqL.of hL⟩, _, rfl, _, rfl, two_ok, fun k1 hk1 => ?_⟩
          have n1 := Same.new (o := .tup [V.int (0 + ((i : Nat) : Int)), V.int ((j : Nat) : Int)]) hk1
          have ek1 : (upd H3 k1 (.tup [V.int (0 + ((i : Nat) : Int)), V.int ((j : Nat) : Int)])) k1 = some (.tup [.int ((i : Nat) : Int), .int ((j : Nat) : Int)]) := by
            rw [upd_same, show (0 + ((i : Nat) : Int)) = ((i : Nat) : Int) by omega]
          generalize (upd H3 k1 (.tup [V.int (0 + ((i : Nat) : Int)), V.int ((j : Nat) : Int)])) = H4 at n1 ek1
          refine ⟨ll, _, _, rfl, rfl, n1 _ _ hL, by rw [List.length_map, hal]; exact small_lt (by omega), ?_⟩
          have t5 : TK H4 (upd H4 ll (.lst (as.map V.ref ++ [.ref k1]))) := TK.own (TK.refl _) (n1 _ _ hL) fun xs z => nomatch z
          refine ⟨_, y7, y8, y9, y10, y11, FL, LN ++ [(i, j)], as ++ [k1], rfl, Same.own (s3.trans n1) hll0, (hPD.same n1).keep (upd_ne (ne_of (n1 _ _ eFf) (n1 _ _ hL) fun z => nomatch z)) t5, by rw [upd_same, List.map_append]; rfl, Paired.snoc (hLN.tk ((TK.of n1).trans t5)) (t5 _ _ ek1), (hP.left hnd h).imp cvt2 (by omega)⟩
      · rintro σ' H3 ⟨y6, y7, y8, y9, y10, y11, FL, LN, as, rfl, s3, hPD, hL, hLN, hP⟩
        exact ⟨_, y6, y7, y8, y9, y10, y11, FL, LN, as, rfl, s3, hPD, hL, hLN, hP.imp (fun p s => by omega) (by omega)⟩
    · rintro σ' H2 ⟨y5, y6, y7, y8, y9, y10, y11, FL, LN, as, rfl, s2, hPD, hL, hLN, hP⟩
      have hP2 : P2 J M FL LN 0 := P1.go hP
      have hLl : LN.length ≤ 1080 := by have := hP.len; omega
      refine ⟨_, rfl, fo, _, rfl, .inl (SqL.of (s2 _ _ hF)), _, rfl, m, _, rfl, lm_steps (s2 _ _ hA.ob), msa, _, rfl, .inl (SqL.of (s2 _ _ hA.steps)), _, _, rfl, rfl, ?_, _, _, rfl, rfl, _, _, rfl, ?_, ?_⟩
      · rw [List.length_map, hfl]
        exact .inl ⟨by omega, by omega⟩
      · rw [List.length_map, hfl, List.length_map, hml]
        have : ((J.n : Nat) : Int) * ((M.steps.length : Nat) : Int) = ((J.n * M.steps.length : Nat) : Int) := (Int.natCast_mul _ _).symm
        rw [this]
        omega
      rw [List.length_map, hfl, List.length_map, hml]
      have hnn : (((J.n : Nat) : Int) * ((M.steps.length : Nat) : Int) + 1 - 1).toNat = J.n * M.steps.length := by
        have : ((J.n : Nat) : Int) * ((M.steps.length : Nat) : Int) = ((J.n * M.steps.length : Nat) : Int) := (Int.natCast_mul _ _).symm
        rw [this]
        omega
      rw [hnn]
      refine for_range (lo := 1) (fun i σ' H' => ∃ ll y5 y6 y7 y8 y9 y10 y11 FL LN as, σ' = [some (.ref m), some (.ref fo), some (.ref st), some (.ref fa), some (.ref ll), y5, y6, y7, y8, y9, y10, y11] ∧ Same H H' ∧ PD P w H' fa (sd V.int FL) ∧ H' ll = some (.lst (as.map V.ref)) ∧ PairsAt H' as LN ∧ P2 J M FL LN i ∧ LN.length ≤ 1080)
        ⟨ll, y5, y6, y7, y8, y9, y10, y11, FL, LN, as, rfl, s2, hPD, hL, hLN, hP2, hLl⟩ ?_ ?_
      · rintro i σ' H3 hi ⟨ll, y5, y6, y7, y8, y9, y10, y11, FL, LN, as, rfl, s3, hPD, hL, hLN, hP, hLl⟩
        have hal : as.length = LN.length := Paired.length hLN
        have hFl : FL.length ≤ 1092 := by
          have := Nat.le_trans (stn_le (J := J) (M := M) hP.nd fun x hx => by
            obtain ⟨p, s, rfl, hp, hs, _⟩ := hP.far x hx
            exact ⟨fun l hl => by cases hl; exact hp, hs⟩) (univ_le ok.j ok.m)
          rw [List.length_map] at this
          exact this
        -- found
        refine ⟨Nat.zero_le _, fun fl hfl3 => ?_⟩
        have nfl := Same.new (o := .lst []) hfl3
        refine ⟨_, rfl, ll, rfl, ⟨_, SqL.of (nfl _ _ hL)⟩, for_list (K := K) (xs := as.map V.ref) (fun j σ' H' => ∃ y9 y10 y11 bs, σ' = [some (.ref m), some (.ref fo), some (.ref st), some (.ref fa), some (.ref ll), y5, y6, some (.int (1 + (i : Int))), some (.ref fl), y9, y10, y11] ∧ Same H3 H' ∧ H' fl = some (.lst (bs.map V.ref)) ∧ PairsAt H' bs ((LN.take j).filter (hs J M (FL.map (·.1)))))
          ⟨y9, y10, y11, [], rfl, nfl, upd_same, .nil⟩ (fun j σ' H' _ ⟨_, _, _, _, _, s4, _⟩ => SqL.of (s4 _ _ hL)) ?_ ?_⟩
        · rintro j v σ' H4 hv ⟨y9, y10, y11, bs, rfl, s4, hfl4, hbs⟩
          rw [List.getElem?_map] at hv
          obtain ⟨pa, hpa, rfl⟩ := Option.map_eq_some_iff.mp hv
          obtain ⟨q, hq, hpq⟩ := paired_get' hLN hpa
          have hqm : q ∈ LN := List.mem_of_getElem? hq
          obtain ⟨hq1, hq2, hq3⟩ := (hP.ln q).mp hqm
          have hpq4 := s4 _ _ hpq
          have s34 := s3.trans s4
          obtain ⟨fr, hfr, hfrr⟩ := paired_get hFr (i := q.1) (b := followR J q.1) (by
            show ((List.range J.n).map (followR J))[q.1]? = _
            rw [List.getElem?_map, List.getElem?_range hq1]
            rfl)
          have hfr4 := s34 _ _ hfrr
          have hbl : bs.length ≤ 1080 := by
            rw [Paired.length hbs]
            refine Nat.le_trans (List.length_filter_le _ _) ?_
            rw [List.length_take]
            omega
          -- nearer
          refine ⟨_, rfl, _, rfl, pa, _, _, _, rfl, rfl, SqT.of hpq4, atI_nat (j := 0) rfl, fo, _, _, .ref fr, rfl, rfl, SqL.of (s34 _ _ hF), atI_nat (by rw [List.getElem?_map, hfr]; rfl), fr, rfl, ⟨_, SqL.of hfr4⟩, fun D hD => lc_list (K := K) (xs := nIs (followR J q.1)) (fun k H' => Same H4 H' ∧ H' D = some (.lst (nIs (((followR J q.1).take k).filter (nb J M (FL.map (·.1)) q))))) ⟨Same.new hD, upd_same⟩ (fun k H' _ h => SqL.of (h.1 _ _ hfr4)) ?_ ?_⟩
          · rintro k v H5 hv ⟨s5, e5⟩
            obtain ⟨o, ho, rfl⟩ := nIs_get' hv
            have hom := List.mem_of_getElem? ho
            have hon : o < J.n := List.mem_range.mp (List.mem_filter.mp hom).1
            have s345 := s34.trans s5
            obtain ⟨sr, hsr, hsrr⟩ := paired_get hSr (i := o) (b := stepsR J M o) (by
              show ((List.range J.n).map (stepsR J M))[o]? = _
              rw [List.getElem?_map, List.getElem?_range hon]
              rfl)
            have hsr5 := s345 _ _ hsrr
            have hst2 : (oVs (stepsR J M o))[q.2]? = some (nV (M.run (some q.2) (ex J.al.length J.ps o))) := by
              refine oVs_get ?_
              show ((List.range M.steps.length).map _)[q.2]? = _
              rw [List.getElem?_map, List.getElem?_range hq2]
              rfl
            have hlen : (nIs (((followR J q.1).take k).filter (nb J M (FL.map (·.1)) q))).length ≤ 90 := by
              rw [nIs_len]
              refine Nat.le_trans (List.length_filter_le _ _) ?_
              rw [List.length_take]
              have h1 : (followR J q.1).length ≤ J.n := by
                have := List.length_filter_le (fun r => sideB J.al.length J.ps q.1 r) (List.range J.n)
                rw [List.length_range] at this
                exact this
              omega
            have hsn : (((followR J q.1).take (k + 1)).filter (nb J M (FL.map (·.1)) q)) = (((followR J q.1).take k).filter (nb J M (FL.map (·.1)) q)) ++ (if nb J M (FL.map (·.1)) q o = true then [o] else []) := by
              rw [List.take_add_one, ho, List.filter_append, show (some o).toList = [o] from rfl, List.filter_cons, List.filter_nil]
            refine ⟨rfl, ?_⟩
            refine ⟨_, rfl, fa, _, rfl, hPD.same (s4.trans s5), _, rfl, _, rfl, _, rfl, st, _, _, .ref sr, rfl, rfl, SqL.of (s345 _ _ hS), atI_nat (by rw [List.getElem?_map, hsr]; rfl), _, rfl, pa, _, _, _, rfl, rfl, SqT.of (s5 _ _ hpq4), atI_nat (j := 1) rfl, sr, _, _, _, rfl, rfl, SqL.of hsr5, atI_nat hst2, two_ok, fun kt hkt => ?_⟩
            have n6 := Same.new (o := .tup [nI o, nV (M.run (some q.2) (ex J.al.length J.ps o))]) hkt
            have ekt : (upd H5 kt (.tup [nI o, nV (M.run (some q.2) (ex J.al.length J.ps o))])) kt = some (.tup [nI o, nV (M.run (some q.2) (ex J.al.length J.ps o))]) := upd_same
            have s46 := s5.trans n6
            have e6 := n6 _ _ e5
            generalize (upd H5 kt (.tup [nI o, nV (M.run (some q.2) (ex J.al.length J.ps o))])) = H6 at n6 ekt s46 e6
            refine ⟨_, rfl, kt, ((some ((o : Nat) : Int)), (M.run (some q.2) (ex J.al.length J.ps o)).map fun t => ((t : Nat) : Int)), _, rfl, hPD.same (s4.trans s46), ?_, ?_⟩
            · rw [ekt]
              cases M.run (some q.2) (ex J.al.length J.ps o) <;> rfl
            have yesB : nb J M (FL.map (·.1)) q o = true → ∃ acc, H6 D = some (.lst acc) ∧ acc.length < sizeLine ∧ Same H4 (upd H6 D (.lst (acc ++ [nI o]))) ∧ (upd H6 D (.lst (acc ++ [nI o]))) D = some (.lst (nIs (((followR J q.1).take (k + 1)).filter (nb J M (FL.map (·.1)) q)))) := fun hb => by
              rw [hb, if_pos rfl] at hsn
              refine ⟨_, e6, small_lt (by omega), Same.own s46 hD, ?_⟩
              rw [upd_same, hsn]
              exact congrArg (fun z => some (HO.lst z)) (nIs_snoc _ o)
            have noB : nb J M (FL.map (·.1)) q o = false → Same H4 H6 ∧ H6 D = some (.lst (nIs (((followR J q.1).take (k + 1)).filter (nb J M (FL.map (·.1)) q)))) := fun hb => by
              rw [hb, if_neg (by decide), List.append_nil] at hsn
              refine ⟨s46, ?_⟩
              rw [hsn]
              exact e6
            cases hrun : M.run (some q.2) (ex J.al.length J.ps o) with
            | none =>
              have hb : nb J M (FL.map (·.1)) q o = false := by
                unfold nb
                rw [hrun]
              rw [show (Option.map (fun t => ((t : Nat) : Int)) (none : Option Nat)) = none from rfl, sd_none_key]
              refine ⟨_, rfl, _, _, rfl, rfl, _, rfl, ?_⟩
              rw [decide_eq_false (by omega)]
              exact iteF (noB hb)
            | some t =>
              have hb : nb J M (FL.map (·.1)) q o = decide ((some o, t) ∈ FL.map (·.1)) := by
                unfold nb
                rw [hrun]
              rw [show ((some ((o : Nat) : Int), Option.map (fun t => ((t : Nat) : Int)) (some t)) : PKey) = stK (some o, t) from rfl, sd_val]
              by_cases hin : (some o, t) ∈ FL.map (·.1)
              · obtain ⟨v, hv⟩ := gt_some hin
                rw [hv]
                have hle := hP.val _ (gt_mem hv)
                refine ⟨_, rfl, _, _, rfl, rfl, _, rfl, ?_⟩
                rw [decide_eq_true (show v < 1 + (i : Int) by have : v ≤ (i : Int) := hle; omega)]
                exact iteT ⟨_, rfl, yesB (by rw [hb]; exact decide_eq_true hin)⟩
              · rw [gt_none.mpr hin]
                refine ⟨_, rfl, _, _, rfl, rfl, _, rfl, ?_⟩
                rw [decide_eq_false (by omega)]
                exact iteF (noB (by rw [hb]; exact decide_eq_false hin))
          · rintro H5 ⟨s5, e5⟩
            rw [nIs_len, List.take_length] at e5
            -- if nearer != []
            refine ⟨_, rfl, Nat.zero_le _, fun l6 hl6 => ?_⟩
            have n6 := Same.new (o := .lst []) hl6
            refine ne_lsts (ns := (followR J q.1).filter (nb J M (FL.map (·.1)) q)) (ms := []) (SqL.of (n6 _ _ e5)) (SqL.of upd_same) ⟨_, rfl, ?_⟩
            have s46 := s5.trans n6
            have efl6 := s46 _ _ hfl4
            have hbs6 := hbs.tk (TK.of s46)
            have hsn : ((LN.take (j + 1)).filter (hs J M (FL.map (·.1)))) = ((LN.take j).filter (hs J M (FL.map (·.1)))) ++ (if hs J M (FL.map (·.1)) q = true then [q] else []) := by
              rw [List.take_add_one, hq, List.filter_append, show (some q).toList = [q] from rfl, List.filter_cons, List.filter_nil]
            have hhs : (!decide ((followR J q.1).filter (nb J M (FL.map (·.1)) q) = [])) = hs J M (FL.map (·.1)) q := rfl
            rw [hhs]
            generalize (upd H5 l6 (.lst [])) = H6 at n6 s46 efl6 hbs6
            cases hb : hs J M (FL.map (·.1)) q with
            | true =>
              rw [hb, if_pos rfl] at hsn
              refine iteT ⟨_, rfl, .inl ⟨rfl, _, SqL.of efl6⟩, _, rfl, fl, _, _, rfl, rfl, efl6, by rw [List.length_map]; exact small_lt (by omega), ?_⟩
              have t7 : TK H6 (upd H6 fl (.lst (bs.map V.ref ++ [.ref pa]))) := TK.own (TK.refl _) efl6 fun xs z => nomatch z
              refine ⟨_, _, _, bs ++ [pa], rfl, Same.own (s4.trans s46) hfl3, by rw [upd_same, List.map_append]; rfl, ?_⟩
              rw [hsn]
              exact Paired.snoc (hbs6.tk t7) (t7 _ _ (s46 _ _ hpq4))
            | false =>
              rw [hb, if_neg (by decide), List.append_nil] at hsn
              refine iteF ⟨_, _, _, bs, rfl, s4.trans s46, efl6, ?_⟩
              rw [hsn]
              exact hbs6
        · rintro σ' H4 ⟨y9, y10, y11, bs, rfl, s4, hfl4, hbs⟩
          rw [List.length_map, hal, List.take_length] at hbs
          -- if found == []
          refine ⟨_, rfl, Nat.zero_le _, fun l5 hl5 => ?_⟩
          have n5 := Same.new (o := .lst []) hl5
          have s45 := s4.trans n5
          have efl5 := n5 _ _ hfl4
          have hbs5 := hbs.tk (TK.of n5)
          refine eq_pairs_nil efl5 hbs5 upd_same ⟨_, rfl, ?_⟩
          generalize (upd H4 l5 (.lst [])) = H5 at n5 s45 efl5 hbs5
          by_cases hemp : LN.filter (hs J M (FL.map (·.1))) = []
          · rw [decide_eq_true hemp]
            refine iteT ⟨_, rfl, fin _ fa FL (s3.trans s45) (hPD.same s45) hP.nd (hP.full ok hemp)⟩
          · rw [decide_eq_false hemp]
            refine iteF ?_
            have hP' := hP.next hemp
            have hFNl : (LN.filter (hs J M (FL.map (·.1)))).length ≤ 1080 := Nat.le_trans (List.length_filter_le _ _) hLl
            have hbl : bs.length = (LN.filter (hs J M (FL.map (·.1)))).length := Paired.length hbs
            have hFNn : (LN.filter (hs J M (FL.map (·.1)))).Nodup := List.Pairwise.filter _ hP.lnd
            have hFNo : ∀ q ∈ LN.filter (hs J M (FL.map (·.1))), (some q.1, q.2) ∉ FL.map (·.1) := fun q hq => ((hP.ln q).mp (List.mem_filter.mp hq).1).2.2
            generalize LN.filter (hs J M (FL.map (·.1))) = FN at hbs5 hP' hFNl hbl hFNn hFNo
            have hPD5 := hPD.same s45
            obtain ⟨F5, eF5⟩ := pd_some hPD5
            have n_ff : fl ≠ fa := ne_of efl5 eF5 fun z => nomatch z
            -- far[pair] = k
            refine ⟨_, rfl, fl, rfl, ⟨_, SqL.of efl5⟩, for_list (K := K) (xs := bs.map V.ref) (fun j σ' H' => ∃ y9, σ' = [some (.ref m), some (.ref fo), some (.ref st), some (.ref fa), some (.ref ll), y5, y6, some (.int (1 + (i : Int))), some (.ref fl), y9, y10, y11] ∧ But fa H5 H' ∧ PD P w H' fa (sd V.int (FL ++ (FN.take j).map (mk1 (1 + i)))))
              ⟨y9, rfl, But.refl _ _, by simpa using hPD5⟩ (fun j σ' H' _ ⟨_, _, b, _⟩ => SqL.of ((b _ n_ff).trans efl5)) ?_ ?_⟩
            · rintro j v σ' H6 hv ⟨y9, rfl, b6, hPD6⟩
              rw [List.getElem?_map] at hv
              obtain ⟨pa, hpa, rfl⟩ := Option.map_eq_some_iff.mp hv
              obtain ⟨q, hq, hpq⟩ := paired_get' hbs5 hpa
              have hpq6 : H6 pa = some (.tup [.int (q.1 : Nat), .int (q.2 : Nat)]) := (b6 pa (ne_of hpq eF5 fun z => nomatch z)).trans hpq
              have hnk : gt (FL ++ (FN.take j).map (mk1 (1 + i))) (some q.1, q.2) = none := gt_none.mpr fun hm => by
                rw [List.map_append, mk1_keys] at hm
                rcases List.mem_append.mp hm with hm | hm
                · exact hFNo q (List.mem_of_getElem? hq) hm
                · obtain ⟨r, hr, e⟩ := List.mem_map.mp hm
                  have e1 : some r.1 = some q.1 := congrArg (fun x : Stn => x.1) e
                  have e2 : r.2 = q.2 := congrArg (fun x : Stn => x.2) e
                  have e3 : r = q := Prod.ext (Option.some.inj e1) e2
                  rw [e3] at hr
                  obtain ⟨k, hk⟩ := List.mem_iff_getElem?.mp hr
                  have hkj : k < j := by
                    have := (List.getElem?_eq_some_iff.mp hk).1
                    rw [List.length_take] at this
                    omega
                  rw [List.getElem?_take_of_lt hkj] at hk
                  have := nd_ix hFNn hk hq
                  omega
              have hjl : j < FN.length := (List.getElem?_eq_some_iff.mp hq).1
              refine ⟨_, rfl, _, rfl, _, rfl, fa, pa, stK (some q.1, q.2), _, rfl, rfl, hPD6, by rw [hpq6, pkV_st]; rfl, by rw [sd_len, List.length_append, List.length_map, List.length_take]; exact small_lt (by omega), fun H7 d7 => ?_⟩
              rw [sd_put _ hnk] at d7
              refine ⟨_, rfl, fun c hc => (d7.2 c hc).trans (b6 c hc), ?_⟩
              have e : FL ++ (FN.take (j + 1)).map (mk1 (1 + i)) = FL ++ (FN.take j).map (mk1 (1 + i)) ++ [((some q.1, q.2), 1 + (i : Int))] := by
                rw [List.take_add_one, hq, List.map_append, List.append_assoc]
                rfl
              rw [e]
              exact d7.1
            · rintro σ' H6 ⟨y9, rfl, b6, hPD6⟩
              rw [List.length_map, hbl, List.take_length] at hPD6
              have s06 : Same H H6 := fun b o e => by
                rw [b6 b (ne_of_none e hfa)]
                exact s45 _ _ (s3 _ _ e)
              have hll5 := s45 _ _ hL
              have hll6 : H6 ll = some (.lst (as.map V.ref)) := (b6 ll (ne_of hll5 eF5 fun z => nomatch z)).trans hll5
              have t56 : TK H5 H6 := fun b xs e => by
                rw [b6 b (ne_of e eF5 fun z => nomatch z)]
                exact e
              have hLN6 := hLN.tk ((TK.of s45).trans t56)
              -- left
              refine ⟨_, rfl, ll, rfl, ⟨_, SqL.of hll6⟩, fun D hD => lc_list (K := K) (xs := as.map V.ref) (fun j H' => Same H6 H' ∧ ∃ cs, H' D = some (.lst (cs.map V.ref)) ∧ PairsAt H' cs ((LN.take j).filter fun q => !decide ((some q.1, q.2) ∈ (FL ++ FN.map (mk1 (1 + i))).map (·.1)))) ⟨Same.new hD, [], upd_same, .nil⟩ (fun j H' _ h => SqL.of (h.1 _ _ hll6)) ?_ ?_⟩
              · rintro j v H7 hv ⟨s7, cs, e7, hcs⟩
                rw [List.getElem?_map] at hv
                obtain ⟨pa, hpa, rfl⟩ := Option.map_eq_some_iff.mp hv
                obtain ⟨q, hq, hpq⟩ := paired_get' hLN6 hpa
                have hpq7 := s7 _ _ hpq
                have hsn : ((LN.take (j + 1)).filter fun q => !decide ((some q.1, q.2) ∈ (FL ++ FN.map (mk1 (1 + i))).map (·.1))) = ((LN.take j).filter fun q => !decide ((some q.1, q.2) ∈ (FL ++ FN.map (mk1 (1 + i))).map (·.1))) ++ (if (!decide ((some q.1, q.2) ∈ (FL ++ FN.map (mk1 (1 + i))).map (·.1))) = true then [q] else []) := by
                  rw [List.take_add_one, hq, List.filter_append, show (some q).toList = [q] from rfl, List.filter_cons, List.filter_nil]
                have hcl : cs.length ≤ 1080 := by
                  rw [Paired.length hcs]
                  refine Nat.le_trans (List.length_filter_le _ _) ?_
                  rw [List.length_take]
                  omega
                refine ⟨rfl, ?_⟩
                refine ⟨_, rfl, _, rfl, fa, pa, stK (some q.1, q.2), _, rfl, rfl, hPD6.same s7, by rw [hpq7, pkV_st]; rfl, _, rfl, ?_⟩
                rw [sd_isSome]
                cases hb : (!decide ((some q.1, q.2) ∈ (FL ++ FN.map (mk1 (1 + i))).map (·.1))) with
                | true =>
                  rw [hb, if_pos rfl] at hsn
                  refine iteT ⟨_, rfl, _, e7, by rw [List.length_map]; exact small_lt (by omega), Same.own s7 hD, cs ++ [pa], by rw [upd_same, List.map_append]; rfl, ?_⟩
                  have t8 : TK H7 (upd H7 D (.lst (cs.map V.ref ++ [.ref pa]))) := TK.own (TK.refl _) e7 fun xs z => nomatch z
                  rw [hsn]
                  exact Paired.snoc (hcs.tk t8) (t8 _ _ hpq7)
                | false =>
                  rw [hb, if_neg (by decide), List.append_nil] at hsn
                  refine iteF ⟨s7, cs, e7, ?_⟩
                  rw [hsn]
                  exact hcs
              · rintro H7 ⟨s7, cs, e7, hcs⟩
                rw [List.length_map, hal, List.take_length] at hcs
                exact ⟨D, y5, y6, _, _, _, y10, y11, _, _, cs, rfl, s06.trans s7, hPD6.same s7, e7, hcs, hP', Nat.le_trans (List.length_filter_le _ _) hLl⟩
      · rintro σ' H3 ⟨ll, y5, y6, y7, y8, y9, y10, y11, FL, LN, as, rfl, s3, hPD, hL, hLN, hP, hLl⟩
        exact ⟨_, rfl, fin _ fa FL s3 hPD hP.nd hP.done⟩
end
end J

set_option Elab.async false
set_option linter.all false
set_option maxRecDepth 100000
set_option maxHeartbeats 4000000
/-! Walks of the law: choices, what may stand next. -/
namespace J
open PySem PySem.Spec PyProof.Rows L2
/-! ### worlds -/
def w4D (ja ma sa fa : Addr) : List (Key × V) := [(Sum.inr "joins", .ref ja), (Sum.inr "machine", .ref ma), (Sum.inr "steps", .ref sa), (Sum.inr "follow", .ref fa)]
def w5D (ja ma sa fa da : Addr) : List (Key × V) := [(Sum.inr "joins", .ref ja), (Sum.inr "machine", .ref ma), (Sum.inr "steps", .ref sa), (Sum.inr "follow", .ref fa), (Sum.inr "far", .ref da)]
def w6D (ja ma sa fa da la : Addr) : List (Key × V) := [(Sum.inr "joins", .ref ja), (Sum.inr "machine", .ref ma), (Sum.inr "steps", .ref sa), (Sum.inr "follow", .ref fa), (Sum.inr "far", .ref da), (Sum.inr "list", .ref la)]
def lwD (ja ma sa fa da la qa : Addr) : List (Key × V) := [(Sum.inr "joins", .ref ja), (Sum.inr "machine", .ref ma), (Sum.inr "steps", .ref sa), (Sum.inr "follow", .ref fa), (Sum.inr "far", .ref da), (Sum.inr "list", .ref la), (Sum.inr "made", .ref qa)]
theorem w4_merge (ja ma sa fa : Addr) : mergeK [] (w4D ja ma sa fa) = w4D ja ma sa fa := by kernel_rfl
theorem w5_put (ja ma sa fa da : Addr) : putK (w4D ja ma sa fa) (Sum.inr "far") (.ref da) = w5D ja ma sa fa da := by kernel_rfl
theorem w6_put (ja ma sa fa da la : Addr) : putK (w5D ja ma sa fa da) (Sum.inr "list") (.ref la) = w6D ja ma sa fa da la := by kernel_rfl
theorem w7_put (ja ma sa fa da la qa : Addr) : putK (w6D ja ma sa fa da la) (Sum.inr "made") (.ref qa) = lwD ja ma sa fa da la qa := by kernel_rfl
theorem w4_steps {H : Hp} {a ja ma sa fa : Addr} (e : H a = some (.dK (w4D ja ma sa fa))) : DGet H a (.str "steps") (some (.ref sa)) := dk_get (k := Sum.inr "steps") e (by kernel_rfl)
section
variable {H : Hp} {a ja ma sa fa da la qa : Addr} (e : H a = some (.dK (lwD ja ma sa fa da la qa)))
include e
theorem lw_joins : DGet H a (.str "joins") (some (.ref ja)) := dk_get (k := Sum.inr "joins") e (by kernel_rfl)
theorem lw_machine : DGet H a (.str "machine") (some (.ref ma)) := dk_get (k := Sum.inr "machine") e (by kernel_rfl)
theorem lw_steps : DGet H a (.str "steps") (some (.ref sa)) := dk_get (k := Sum.inr "steps") e (by kernel_rfl)
theorem lw_follow : DGet H a (.str "follow") (some (.ref fa)) := dk_get (k := Sum.inr "follow") e (by kernel_rfl)
theorem lw_far : DGet H a (.str "far") (some (.ref da)) := dk_get (k := Sum.inr "far") e (by kernel_rfl)
theorem lw_list : DGet H a (.str "list") (some (.ref la)) := dk_get (k := Sum.inr "list") e (by kernel_rfl)
theorem lw_made : DGet H a (.str "made") (some (.ref qa)) := dk_get (k := Sum.inr "made") e (by kernel_rfl)
end
structure WAt (P : Program) (w : World) (K : PySem.W.Frag) (H : Hp) (a : Addr) (J : JD) (M : MD) (ja ma sa fa da la qa : Addr) (frs srs : List Addr) (FL : List (Stn × Int)) : Prop where
  ob : H a = some (.dK (lwD ja ma sa fa da la qa))
  joins : LJ P w H ja J
  machine : LM H ma M
  steps : H sa = some (.lst (srs.map V.ref))
  srows : RowsL H srs (stepsT J M)
  follow : H fa = some (.lst (frs.map V.ref))
  frows : RowsN H frs (followT J)
  far : PD P w H da (sd V.int FL)
  fnd : (FL.map (·.1)).Nodup
  fin : ∀ x, x ∈ FL.map (·.1) ↔ Far J M x
  list : JIs P w K H la J
  made : MIs K H qa M
theorem WAt.same {P : Program} {w : World} {K : PySem.W.Frag} {H H' : Hp} {a : Addr} {J : JD} {M : MD} {ja ma sa fa da la qa : Addr} {frs srs : List Addr} {FL : List (Stn × Int)} (h : WAt P w K H a J M ja ma sa fa da la qa frs srs FL) (s : Same H H') : WAt P w K H' a J M ja ma sa fa da la qa frs srs FL :=
  ⟨s _ _ h.ob, h.joins.same s, h.machine.same s, s _ _ h.steps, h.srows.same s, s _ _ h.follow, h.frows.same s, h.far.same s, h.fnd, h.fin, h.list.same s, h.made.same s⟩
def WIs (P : Program) (w : World) (K : PySem.W.Frag) (H : Hp) (a : Addr) (J : JD) (M : MD) : Prop := ∃ ja ma sa fa da la qa frs srs FL, WAt P w K H a J M ja ma sa fa da la qa frs srs FL
theorem WIs.same {P : Program} {w : World} {K : PySem.W.Frag} {H H' : Hp} {a : Addr} {J : JD} {M : MD} (h : WIs P w K H a J M) (s : Same H H') : WIs P w K H' a J M := let ⟨ja, ma, sa, fa, da, la, qa, frs, srs, FL, h⟩ := h; ⟨ja, ma, sa, fa, da, la, qa, frs, srs, FL, h.same s⟩
/-- the pieces that may stand behind a row -/
noncomputable def chR (J : JD) (R : List Nat) : List Nat := (List.range J.n).filter (foB J R.getLast?)
theorem rg_nats (n : Nat) : rgV 0 (n : Int) = nIs (List.range n) := by
  unfold rgV
  rw [show ((n : Int) - 0).toNat = n by omega]
  refine List.map_congr_left fun i _ => ?_
  show V.int (0 + (i : Int)) = V.int (i : Int)
  rw [Int.zero_add]
theorem steps_at {H : Hp} {srs : List Addr} {J : JD} {M : MD} {p s : Nat} (h : RowsL H srs (stepsT J M)) (hp : p < J.n) (hs : s < M.steps.length) : ∃ c, srs[p]? = some c ∧ H c = some (.lst (oVs (stepsR J M p))) ∧ (oVs (stepsR J M p))[s]? = some (nV (M.run (some s) (ex J.al.length J.ps p))) := by
  obtain ⟨c, h1, h2⟩ := paired_get h (i := p) (b := stepsR J M p) (by
    show ((List.range J.n).map (stepsR J M))[p]? = _
    rw [List.getElem?_map, List.getElem?_range hp]
    rfl)
  refine ⟨c, h1, h2, oVs_get ?_⟩
  show ((List.range M.steps.length).map _)[s]? = _
  rw [List.getElem?_map, List.getElem?_range hs]
  rfl
/-- leads on, by the pieces -/
noncomputable def lvB (J : JD) (M : MD) (s : Nat) (p : Nat) : Bool := match M.run (some s) (ex J.al.length J.ps p) with
  | none => false
  | some t => liveB J M (some p, t)
theorem lets_eq {J : JD} {M : MD} {R : List Nat} {s : Nat} (h : M.run (some M.start) (flat J.al.length J.ps R) = some s) : letsOf J M R = (chR J R).filter (lvB J M s) := by
  unfold letsOf sOf
  rw [h]
  show ((nexts J M (R.getLast?, s)).filter fun e => liveB J M (tgt e)).map (·.1) = _
  unfold nexts chR
  generalize List.range J.n = L
  induction L with
  | nil => rfl
  | cons p L ih =>
    rw [List.filterMap_cons, List.filter_cons]
    have e : nxt J M (R.getLast?, s) p = if foB J R.getLast? p = true then (M.run (some s) (ex J.al.length J.ps p)).map fun t => (p, t) else none := rfl
    rw [e]
    by_cases hf : foB J R.getLast? p = true
    · rw [if_pos hf, if_pos hf, List.filter_cons]
      cases hr : M.run (some s) (ex J.al.length J.ps p) with
      | none =>
        have hl : lvB J M s p = false := by
          unfold lvB
          rw [hr]
        rw [hl, if_neg (by decide)]
        exact ih
      | some t =>
        have hl : lvB J M s p = liveB J M (some p, t) := by
          unfold lvB
          rw [hr]
        rw [hl]
        show (List.filter _ ((p, t) :: _)).map _ = _
        rw [List.filter_cons]
        show (if liveB J M (some p, t) = true then _ else _ : List (Nat × Nat)).map _ = _
        by_cases hv : liveB J M (some p, t) = true
        · rw [if_pos hv, if_pos hv, List.map_cons, ih]
        · rw [if_neg hv, if_neg hv]
          exact ih
    · rw [if_neg hf, if_neg hf]
      exact ih
theorem lets_none {J : JD} {M : MD} {R : List Nat} (h : M.run (some M.start) (flat J.al.length J.ps R) = none) : letsOf J M R = [] := by
  unfold letsOf sOf
  rw [h]
  rfl
section
variable {P : Program} {w : World} {K : PySem.W.Frag} {mg : Str → Option Value} {base : Heap}
def spChoices (P : Program) (w : World) (K : PySem.W.Frag) : Sp := fun vs H Q _ => ∃ a r J M R, vs = [.ref a, .ref r] ∧ WIs P w K H a J M ∧ JM J M ∧ H r = some (.lst (nIs R)) ∧ (∀ x ∈ R, x < J.n) ∧
  ∀ H' t l, Same H H' → H' t = some (.tup [.ref l, nV (M.run (some M.start) (flat J.al.length J.ps R))]) → H' l = some (.lst (nIs (chR J R))) → Q (.ref t) H'
theorem ok_L_choices (T : Txt K mg) : DefOk P w K mg base 1 "_law_choices" ["_law_world_here", "_law_row"] (spChoices P w K) := by
  refine mk_L_choices T (fun vs H Q E h => ?_) (fun f cdv A outer s H vs Q E hr h => ?_)
  · obtain ⟨a, r, J, M, R, rfl, _⟩ := h
    rfl
  · obtain ⟨a, r, J, M, R, rfl, ⟨ja, ma, sa, fa, da, la, qa, frs, srs, FL, hA⟩, ok, hr', hR, fin⟩ := h
    refine ⟨_, (pss_cons (ps_st 2 sc_L_choices.nd (pe_dget (hu_of hr) (pe_dget (hu_of hr) (pv 0) pe_str (fun _ _ => rfl)) pe_str (fun _ _ => rfl)))
      (pss_cons (ps_for PassesOwn.never rfl (pi_list (pv 1)) (pg_n 3 sc_L_choices.nd)
        (pss_one (ps_if (pt_cmpR op_notN (pv 2) pe_non (nomark _)) (pss_one (ps_st 2 sc_L_choices.nd (pe_ix (ix_listK (K := K)) (pe_ix (ix_listK (K := K)) (pe_dget (hu_of hr) (pv 0) pe_str (fun _ _ => rfl)) (pv 3) (fun _ _ => rfl)) (pv 2) (fun _ _ => rfl)))) pss_nil)))
      (pss_cons (ps_if (pt_cmpR (eqDK (K := K) hr.units) (pv 1) (pe_lst pa_nil) (nomark _)) (pss_one (ps_ret (pe_tup (pa_cons (pe_listRg rfl rfl T.b_list (prg_1 rfl T.b_range (pe_callB (lenK (K := K)) rfl T.b_len PySem.boot_len (pa_cons (pe_dget (hu_of hr) (pv 0) pe_str (fun _ _ => rfl)) pa_nil)))) (pa_cons (pv 2) pa_nil))))) pss_nil)
      (pss_one (ps_ret (pe_tup (pa_cons (pe_ix (ix_listK (K := K)) (pe_dget (hu_of hr) (pv 0) pe_str (fun _ _ => rfl)) (pe_ix (ix_listK (K := K)) (pv 1) (pe_un un_neg pe_int) (fun _ _ => rfl)) (fun _ _ => rfl)) (pa_cons (pv 2) pa_nil)))))))), ?_⟩
    obtain ⟨mea, msa, mrs, hM⟩ := id hA.machine
    have hfl : frs.length = J.n := by
      rw [Paired.length hA.frows]
      show ((List.range J.n).map _).length = _
      rw [List.length_map, List.length_range]
    have hn90 : J.n ≤ 90 := by
      have h1 := ok.j.b30
      have h2 := ok.j.p60
      show J.al.length + J.ps.length ≤ 90
      omega
    refine ⟨_, rfl, a, _, rfl, lw_machine hA.ob, ma, _, rfl, lm_start hM.ob, ?_⟩
    refine ⟨_, rfl, r, rfl, ⟨_, SqL.of hr'⟩, for_list (K := K) (xs := nIs R) (fun i σ' H' => ∃ y3, σ' = [some (.ref a), some (.ref r), some (nV (M.run (some M.start) (flat J.al.length J.ps (R.take i)))), y3] ∧ H = H') ⟨none, rfl, rfl⟩ (fun i σ' H' _ ⟨_, _, e⟩ => by rw [← e]; exact SqL.of hr') ?_ ?_⟩
    · rintro i v σ' H' hv ⟨y3, rfl, rfl⟩
      obtain ⟨x, hx, rfl⟩ := nIs_get' hv
      have hxn := hR x (List.mem_of_getElem? hx)
      have hin := MD.run_in ok.m (flat J.al.length J.ps (R.take i)) (some M.start) (fun s hs => by cases hs; exact ok.m.start)
      have hstep : M.run (some M.start) (flat J.al.length J.ps (R.take (i + 1))) = M.run (M.run (some M.start) (flat J.al.length J.ps (R.take i))) (ex J.al.length J.ps x) := by
        rw [List.take_add_one, hx, flat_app, MD.run_app]
        show M.run _ (ex _ _ x ++ []) = _
        rw [List.append_nil]
      cases hrun : M.run (some M.start) (flat J.al.length J.ps (R.take i)) with
      | none =>
        rw [hrun, MD.run_none] at hstep
        exact ⟨_, rfl, rfl, _, rfl, iteF ⟨_, by rw [hstep]; rfl, rfl⟩⟩
      | some s =>
        rw [hrun] at hstep
        have hs := hin s hrun
        obtain ⟨c, h1, h2, h3⟩ := steps_at hA.srows hxn hs
        refine ⟨_, rfl, rfl, _, rfl, iteT ⟨_, rfl, a, _, rfl, lw_steps hA.ob, _, rfl, sa, _, _, .ref c, rfl, rfl, SqL.of hA.steps, atI_nat (by rw [List.getElem?_map, h1]; rfl), _, rfl, c, _, _, _, rfl, rfl, SqL.of h2, atI_nat h3, ?_⟩⟩
        exact ⟨some (nI x), by rw [hstep]; rfl, rfl⟩
    · rintro σ' H' ⟨y3, rfl, rfl⟩
      rw [nIs_len, List.take_length]
      refine ⟨_, rfl, Nat.zero_le _, fun l1 hl1 => ?_⟩
      have n1 := Same.new (o := .lst []) hl1
      have e1 : (upd H l1 (.lst [])) l1 = some (.lst []) := upd_same
      have er1 := n1 _ _ hr'
      have hA1 := hA.same n1
      generalize (upd H l1 (.lst [])) = H1 at n1 e1 er1 hA1
      refine eq_lsts (ns := R) (ms := []) (SqL.of er1) (SqL.of e1) ⟨_, rfl, ?_⟩
      by_cases hRe : R = []
      · rw [decide_eq_true hRe]
        refine iteT ⟨_, rfl, a, _, rfl, lw_follow hA1.ob, fa, _, rfl, .inl (SqL.of hA1.follow), _, rfl, ?_⟩
        rw [List.length_map, hfl]
        refine ⟨RgOk.of_le (Int.le_refl 0) (by omega) (by decide) (by omega), fun l2 hl2 => ⟨_, rfl, two_ok, fun t ht => ?_⟩⟩
        rw [rg_nats] at ht ⊢
        have n2 := Same.new (o := .lst (nIs (List.range J.n))) hl2
        have n3 := Same.new (o := .tup [V.ref l2, nV (M.run (some M.start) (flat J.al.length J.ps R))]) ht
        refine fin _ t l2 ((n1.trans n2).trans n3) upd_same ?_
        have hch : chR J R = List.range J.n := by
          unfold chR
          rw [hRe]
          exact List.filter_eq_self.mpr fun _ _ => rfl
        rw [hch]
        exact n3 _ _ upd_same
      · rw [decide_eq_false hRe]
        refine iteF ?_
        have hlast : nIs R = nIs R.dropLast ++ [nI (R.getLast hRe)] := by rw [nIs_snoc, List.dropLast_concat_getLast]
        have hpn := hR _ (List.getLast_mem hRe)
        obtain ⟨c, hc1, hc2⟩ := paired_get hA1.frows (i := R.getLast hRe) (b := followR J (R.getLast hRe)) (by
          show ((List.range J.n).map (followR J))[R.getLast hRe]? = _
          rw [List.getElem?_map, List.getElem?_range hpn]
          rfl)
        refine ⟨_, rfl, a, _, rfl, lw_follow hA1.ob, _, rfl, _, rfl, r, _, _, nI (R.getLast hRe), rfl, rfl, SqL.of er1, by rw [hlast]; exact atI_last _ _, fa, _, _, .ref c, rfl, rfl, SqL.of hA1.follow, atI_nat (by rw [List.getElem?_map, hc1]; rfl), _, rfl, two_ok, fun t ht => ?_⟩
        have n2 := Same.new (o := .tup [V.ref c, nV (M.run (some M.start) (flat J.al.length J.ps R))]) ht
        refine fin _ t c (n1.trans n2) upd_same ?_
        have hch : chR J R = followR J (R.getLast hRe) := by
          unfold chR followR
          rw [List.getLast?_eq_some_getLast hRe]
          rfl
        rw [hch]
        exact n2 _ _ hc2
def spLLets (P : Program) (w : World) (K : PySem.W.Frag) : Sp := fun vs H Q _ => ∃ a r J M R, vs = [.ref a, .ref r] ∧ WIs P w K H a J M ∧ JM J M ∧ H r = some (.lst (nIs R)) ∧ (∀ x ∈ R, x < J.n) ∧ ∀ H' l, Same H H' → H' l = some (.lst (nIs (letsOf J M R))) → Q (.ref l) H'
theorem ok_L_lets (T : Txt K mg) : DefOk P w K mg base 2 "_law_lets" ["_law_world_here", "_law_row"] (spLLets P w K) := by
  have D_L_choices := ok_L_choices (P := P) (w := w) (base := base) T
  refine mk_L_lets T (fun vs H Q E h => ?_) (fun f cdv A outer s H vs Q E hr h => ?_)
  · obtain ⟨a, r, J, M, R, rfl, _⟩ := h
    rfl
  · obtain ⟨a, r, J, M, R, rfl, hW, ok, hr', hR, fin⟩ := h
    refine ⟨_, (pss_cons (ps_asg (pe_def D_L_choices hr (pa_cons (pv 0) (pa_cons (pv 1) pa_nil))) (ptupK (K := K) (n := 2) rfl (pgs_cons (pg_n 2 sc_L_lets.nd) (pgs_cons (pg_n 3 sc_L_lets.nd) pgs_nil))))
      (pss_cons (ps_if (pt_cmpR op_isN (pv 3) pe_non (nomark _)) (pss_one (ps_ret (pe_lst pa_nil))) pss_nil)
      (pss_one (ps_ret (pe_lc (own := [("_law_piece", 4)]) (g := (gName 4)) rfl sc_L_lets.nd (pi_list (pv 2)) (blkOk_by (N := N_L_lets) (sc := defScope s_L_lets) (by decide +kernel)) (fun _ _ _ _ _ => (pg_n 4 sc_L_lets.nd)) (fun _ _ _ _ _ => (pts_one (pt_cmp (pdinK (P := P) (w := w) (hu_of hr) (pe_tup (pa_cons (pv 4) (pa_cons (pe_ix (ix_listK (K := K)) (pe_ix (ix_listK (K := K)) (pe_dget (hu_of hr) (pv 0) pe_str (fun _ _ => rfl)) (pv 4) (fun _ _ => rfl)) (pv 3) (fun _ _ => rfl)) pa_nil))) (pe_dget (hu_of hr) (pv 0) pe_str (fun _ _ => rfl)))))) (fun _ _ _ _ _ => (pv 4))))))), ?_⟩
    refine ⟨_, rfl, _, rfl, a, r, J, M, R, rfl, hW, ok, hr', hR, fun H1 t l s1 ht hl => ?_⟩
    refine ⟨t, _, rfl, SqT.of ht, rfl, _, _, rfl, _, _, rfl, rfl, ?_⟩
    obtain ⟨ja, ma, sa, fa, da, la, qa, frs, srs, FL, hA⟩ := hW.same s1
    have hin := MD.run_in ok.m (flat J.al.length J.ps R) (some M.start) (fun s hs => by cases hs; exact ok.m.start)
    cases hrun : M.run (some M.start) (flat J.al.length J.ps R) with
    | none =>
      refine ⟨_, rfl, rfl, _, rfl, iteT ⟨Nat.zero_le _, fun l2 hl2 => fin _ l2 (s1.trans (Same.new hl2)) ?_⟩⟩
      rw [lets_none hrun]
      exact upd_same
    | some s =>
      have hs := hin s hrun
      have hchn : (chR J R).length ≤ 90 := by
        have h1 := List.length_filter_le (foB J R.getLast?) (List.range J.n)
        rw [List.length_range] at h1
        have h2 := ok.j.b30
        have h3 := ok.j.p60
        have h4 : J.n ≤ 90 := by show J.al.length + J.ps.length ≤ 90; omega
        exact Nat.le_trans h1 h4
      refine ⟨_, rfl, rfl, _, rfl, iteF ⟨_, rfl, l, rfl, ⟨_, SqL.of hl⟩, fun D hD => lc_list (K := K) (xs := nIs (chR J R)) (fun i H' => Same H1 H' ∧ H' D = some (.lst (nIs (((chR J R).take i).filter (lvB J M s))))) ⟨Same.new hD, upd_same⟩ (fun i H' _ h => SqL.of (h.1 _ _ hl)) ?_ ?_⟩⟩
      · rintro i v H2 hv ⟨s2, e2⟩
        obtain ⟨p, hp, rfl⟩ := nIs_get' hv
        have hpm := List.mem_of_getElem? hp
        have hpn : p < J.n := List.mem_range.mp (List.mem_filter.mp hpm).1
        have hA2 := hA.same s2
        obtain ⟨c, h1, h2, h3⟩ := steps_at hA2.srows hpn hs
        have hsn : ((chR J R).take (i + 1)).filter (lvB J M s) = ((chR J R).take i).filter (lvB J M s) ++ (if lvB J M s p = true then [p] else []) := by
          rw [List.take_add_one, hp, List.filter_append, show (some p).toList = [p] from rfl, List.filter_cons, List.filter_nil]
        have hlen : (nIs (((chR J R).take i).filter (lvB J M s))).length ≤ 90 := by
          rw [nIs_len]
          refine Nat.le_trans (List.length_filter_le _ _) ?_
          rw [List.length_take]
          omega
        refine ⟨rfl, ?_⟩
        refine ⟨_, rfl, _, rfl, a, _, rfl, lw_steps hA2.ob, _, rfl, sa, _, _, .ref c, rfl, rfl, SqL.of hA2.steps, atI_nat (by rw [List.getElem?_map, h1]; rfl), _, rfl, c, _, _, _, rfl, rfl, SqL.of h2, atI_nat h3, two_ok, fun kt hkt => ?_⟩
        have n3 := Same.new (o := .tup [nI p, nV (M.run (some s) (ex J.al.length J.ps p))]) hkt
        have ekt : (upd H2 kt (.tup [nI p, nV (M.run (some s) (ex J.al.length J.ps p))])) kt = some (.tup [nI p, nV (M.run (some s) (ex J.al.length J.ps p))]) := upd_same
        have s3 := s2.trans n3
        have e3 := n3 _ _ e2
        generalize (upd H2 kt (.tup [nI p, nV (M.run (some s) (ex J.al.length J.ps p))])) = H3 at n3 ekt s3 e3
        have hA3 := hA2.same n3
        refine ⟨_, rfl, a, _, rfl, lw_far hA3.ob, da, kt, ((some ((p : Nat) : Int)), (M.run (some s) (ex J.al.length J.ps p)).map fun t => ((t : Nat) : Int)), _, rfl, rfl, hA3.far, ?_, _, rfl, ?_⟩
        · rw [ekt]
          cases M.run (some s) (ex J.al.length J.ps p) <;> rfl
        have hval : (valV (sd V.int FL) ((some ((p : Nat) : Int)), (M.run (some s) (ex J.al.length J.ps p)).map fun t => ((t : Nat) : Int))).isSome = lvB J M s p := by
          unfold lvB
          cases hr2 : M.run (some s) (ex J.al.length J.ps p) with
          | none =>
            rw [show (Option.map (fun t => ((t : Nat) : Int)) (none : Option Nat)) = none from rfl, sd_none_key]
            rfl
          | some t =>
            rw [show ((some ((p : Nat) : Int), Option.map (fun t => ((t : Nat) : Int)) (some t)) : PKey) = stK (some p, t) from rfl, sd_isSome]
            show decide ((some p, t) ∈ FL.map (·.1)) = liveB J M (some p, t)
            have htv := MD.run_in ok.m (ex J.al.length J.ps p) (some s) (fun s' h => by cases h; exact hs) t hr2
            by_cases hl2 : Live J M (some p, t)
            · rw [decide_eq_true ((hA3.fin _).mpr ⟨p, t, rfl, hpn, htv, hl2⟩), liveB_iff.mpr hl2]
            · rw [decide_eq_false fun h => hl2 ?_]
              · cases h : liveB J M (some p, t) with
                | false => rfl
                | true => exact absurd (liveB_iff.mp h) hl2
              · obtain ⟨p', t', e, _, _, hl3⟩ := (hA3.fin _).mp h
                rw [e]
                exact hl3
        rw [hval]
        cases hb : lvB J M s p with
        | true =>
          rw [hb, if_pos rfl] at hsn
          refine iteT ⟨_, rfl, _, e3, small_lt (by omega), Same.own s3 hD, ?_⟩
          rw [upd_same, hsn]
          exact congrArg (fun z => some (HO.lst z)) (nIs_snoc _ p)
        | false =>
          rw [hb, if_neg (by decide), List.append_nil] at hsn
          refine iteF ⟨s3, ?_⟩
          rw [hsn]
          exact e3
      · rintro H2 ⟨s2, e2⟩
        rw [nIs_len, List.take_length, ← lets_eq hrun] at e2
        exact fin _ D (s1.trans s2) e2
end
end J

set_option Elab.async false
set_option linter.all false
set_option maxRecDepth 100000
set_option maxHeartbeats 4000000
/-! Walks of the law: its worlds. -/
namespace J
open PySem PySem.Spec PyProof.Rows L2
section
variable {P : Program} {w : World} {K : PySem.W.Frag} {mg : Str → Option Value} {base : Heap}
theorem tk_wo {H : Hp} {t : Addr} {kvs : List (Key × V)} (e : H t = some (.dK kvs)) : TK H (wo t H) := fun b xs q => wo_some q (ne_of q e fun z => nomatch z)
theorem JAt.noT {H : Hp} {p dx pa ta ra na t : Addr} {J : JD} {lg : Int} {prs : List Addr} {kvs kv : List (Key × V)} (h : JAt P w K H p J dx pa ta ra na lg prs kvs) (e : H t = some (.dK kv)) (hne : na ≠ t) : JAt P w K (wo t H) p J dx pa ta ra na lg prs kvs := by
  have tk := tk_wo e
  refine ⟨wo_some h.ob (ne_of h.ob e fun z => nomatch z), tk _ _ h.pairs, h.prs.tk tk, wo_some h.texts (ne_of h.texts e fun z => nomatch z), h.ranks.keep (wo_ne ?_) tk, wo_some h.nums hne, h.num1, h.numl⟩
  obtain ⟨F, hF⟩ := pd_some h.ranks
  exact ne_of hF e fun z => nomatch z
theorem MIs.noT {H : Hp} {q t : Addr} {M : MD} {kv : List (Key × V)} (h : MIs K H q M) (e : H t = some (.dK kv)) : MIs K (wo t H) q M := by
  obtain ⟨dx, ea, sa, es, rs, h⟩ := h
  have tk := tk_wo e
  exact ⟨dx, ea, sa, es, rs, wo_some h.ob (ne_of h.ob e fun z => nomatch z), tk _ _ h.ends, h.perm, tk _ _ h.steps, h.rows.tk tk⟩
theorem RowsL.noT {H : Hp} {t : Addr} {as : List Addr} {l : List (List (Option Nat))} {kv : List (Key × V)} (h : RowsL H as l) (e : H t = some (.dK kv)) : RowsL (wo t H) as l := L2.Paired.mapP h fun _ _ q => wo_some q (ne_of q e fun z => nomatch z)
theorem RowsN.noT {H : Hp} {t : Addr} {as : List Addr} {l : List (List Nat)} {kv : List (Key × V)} (h : RowsN H as l) (e : H t = some (.dK kv)) : RowsN (wo t H) as l := L2.Paired.mapP h fun _ _ q => wo_some q (ne_of q e fun z => nomatch z)
theorem PD.noT {H : Hp} {a t : Addr} {kvs : List (PKey × V)} {kv : List (Key × V)} (h : PD P w H a kvs) (e : H t = some (.dK kv)) : PD P w (wo t H) a kvs := by
  obtain ⟨F, hF⟩ := pd_some h
  exact h.keep (wo_ne (ne_of hF e fun z => nomatch z)) (tk_wo e)
theorem wo_wo {t : Addr} {H H' : Hp} (s : Same H H') : Same (wo t H) (wo t H') := fun b o e => by
  have hb : b ≠ t := fun z => by rw [z, wo_at] at e; cases e
  exact wo_some (s _ _ (wo_le _ _ e)) hb
theorem wo_upd {t : Addr} {H : Hp} {o : HO} : Same (wo t H) (wo t (upd H t o)) := fun b x e => by
  have hb : b ≠ t := fun z => by rw [z, wo_at] at e; cases e
  exact wo_some ((upd_ne hb).trans (wo_le _ _ e)) hb
theorem wo_own {t : Addr} {H : Hp} {o : HO} : Same (wo t H) (upd H t o) := Same.own wo_le wo_at
theorem new_ins {H : Hp} {x dx : Addr} {o1 o2 : HO} (hx : H x = none) (hdx : H dx = none) : Same H (wo x (upd (upd H dx o1) x o2)) := fun b o e => wo_some ((upd_ne (ne_of_none e hx)).trans ((upd_ne (ne_of_none e hdx)).trans e)) (ne_of_none e hx)
theorem LJ.noT {H : Hp} {a t : Addr} {J : JD} (h : LJ P w H a J) (hne : a ≠ t) {kvs : List (Key × V)} (e : H t = some (.dK kvs)) : LJ P w (wo t H) a J := let ⟨pl, ra, ta, prs, h⟩ := h; ⟨pl, ra, ta, prs, h.noT hne e⟩
def spWorld (P : Program) (w : World) (K : PySem.W.Frag) : Sp := fun vs H Q _ => ∃ t kv ja ma fa J M frs, vs = [.ref ja, .ref ma, .ref fa] ∧ H t = some (.dK kv) ∧ LJ P w (wo t H) ja J ∧ LM (wo t H) ma M ∧ JM J M ∧ wo t H fa = some (.lst (frs.map V.ref)) ∧ RowsN (wo t H) frs (followT J) ∧
  ∀ H' a, Same H H' → WIs P w K (wo t H') a J M → Q (.ref a) H'
theorem ok_L_world (T : Txt K mg) : DefOk P w K mg base 7 "_law_world" ["_law_joins_here", "_law_machine_here", "_law_follow_here"] (spWorld P w K) := by
  have D_Joins := ok_Joins (P := P) (w := w) (base := base) T
  have D_L_distances := ok_L_distances (P := P) (w := w) (base := base) T
  have D_L_steps := ok_L_steps (P := P) (w := w) (base := base) T
  have D_Machine := ok_Machine (P := P) (w := w) (base := base) T
  refine mk_L_world T (fun vs H Q E h => ?_) (fun f cdv A outer s H vs Q E hr h => ?_)
  · obtain ⟨t, kv, ja, ma, fa, J, M, frs, rfl, _⟩ := h
    rfl
  · obtain ⟨t, kv, ja, ma, fa, J, M, frs, rfl, ht, hJ, hM, ok, hF, hFr, fin⟩ := h
    refine ⟨_, (pss_cons (ps_st 3 sc_L_world.nd (pe_disp (pps_cons pe_str (pv 0) (pps_cons pe_str (pv 1) (pps_cons pe_str (pe_def D_L_steps hr (pa_cons (pv 0) (pa_cons (pv 1) pa_nil))) (pps_cons pe_str (pv 2) pps_nil)))) (by rfl) (by rfl) (fun z => by cases z) (by decide)))
      (pss_cons (ps_dput (hu_of hr) (pv 3) pe_str (pe_def D_L_distances hr (pa_cons (pv 1) (pa_cons (pv 2) (pa_cons (pe_dget (hu_of hr) (pv 3) pe_str (fun _ _ => rfl)) pa_nil)))) rfl)
      (pss_cons (ps_dput (hu_of hr) (pv 3) pe_str (pe_new D_Joins hr (pa_cons (pe_dget (hu_of hr) (pv 0) pe_str (fun _ _ => rfl)) (pa_cons (pe_callTy (tupK (K := K)) rfl T.b_tuple (by decide +kernel) (pa_cons (pe_dget (hu_of hr) (pv 0) pe_str (fun _ _ => rfl)) pa_nil)) pa_nil))) rfl)
      (pss_cons (ps_dput (hu_of hr) (pv 3) pe_str (pe_new D_Machine hr (pa_cons (pe_dget (hu_of hr) (pv 1) pe_str (fun _ _ => rfl)) (pa_cons (pe_dget (hu_of hr) (pv 1) pe_str (fun _ _ => rfl)) (pa_cons (pe_callTy (tupK (K := K)) rfl T.b_tuple (by decide +kernel) (pa_cons (pe_dget (hu_of hr) (pv 1) pe_str (fun _ _ => rfl)) pa_nil)) (pa_cons (pe_callTy (tupK (K := K)) rfl T.b_tuple (by decide +kernel) (pa_cons (pe_dget (hu_of hr) (pv 1) pe_str (fun _ _ => rfl)) pa_nil)) pa_nil))))) rfl)
      (pss_one (ps_ret (pv 3))))))), ?_⟩
    have hJH := hJ.same wo_le
    have hMH := hM.same wo_le
    have hFH := wo_le _ _ hF
    have hFrH := hFr.same wo_le
    refine fun a ha => ?_
    have hat : t ≠ a := ne_of_none ht ha
    have n0 := Same.new (o := .dK []) ha
    have e0 : (upd H a (.dK [])) a = some (.dK []) := upd_same
    generalize (upd H a (.dK [])) = H0 at n0 e0
    refine ⟨_, rfl, _, rfl, _, rfl, _, rfl, ja, ma, J, M, rfl, hJH.same n0, hMH.same n0, ok, fun H1 sa srs s1 hsa hsr => ⟨_, rfl, s1 _ _ e0, w4D ja ma sa fa, rfl, by show 4 ≤ 15; decide, ?_⟩⟩
    rw [w4_merge]
    have e1 := s1 _ _ e0
    have n1 := n0.trans s1
    have hsaA := wo_some hsa (ne_of hsa e1 fun z => nomatch z)
    have hsrA := hsr.noT e1
    have sH2 : Same H (upd H1 a (.dK (w4D ja ma sa fa))) := Same.own n1 ha
    have o2 : Same (wo a H1) (upd H1 a (.dK (w4D ja ma sa fa))) := wo_own
    have u2 : Same (wo a H1) (wo a (upd H1 a (.dK (w4D ja ma sa fa)))) := wo_upd
    have e2 : (upd H1 a (.dK (w4D ja ma sa fa))) a = some (.dK (w4D ja ma sa fa)) := upd_same
    generalize (upd H1 a (.dK (w4D ja ma sa fa))) = H2 at sH2 o2 u2 e2
    -- far
    refine ⟨_, rfl, _, rfl, _, rfl, a, _, rfl, w4_steps e2, ma, fa, sa, J, M, frs, srs, rfl, hMH.same sH2, ok, sH2 _ _ hFH, hFrH.same sH2, o2 _ _ hsaA, hsrA.same o2, fun H3 da FL s3 hPD hnd hfin => ?_⟩
    have e3 := s3 _ _ e2
    refine ⟨_, rfl, a, _, rfl, DPut.k (k := Sum.inr "far") e3 (by show 4 < sizeLine; decide), ?_⟩
    rw [w5_put]
    have hPDA := hPD.noT e3
    have hsaA3 := wo_wo s3 _ _ (u2 _ _ hsaA)
    have hsrA3 := (hsrA.same u2).same (wo_wo s3)
    have sH4 : Same H (upd H3 a (.dK (w5D ja ma sa fa da))) := Same.own (sH2.trans s3) ha
    have u4 : Same (wo a H3) (wo a (upd H3 a (.dK (w5D ja ma sa fa da)))) := wo_upd
    have e4 : (upd H3 a (.dK (w5D ja ma sa fa da))) a = some (.dK (w5D ja ma sa fa da)) := upd_same
    generalize (upd H3 a (.dK (w5D ja ma sa fa da))) = H4 at sH4 u4 e4
    -- list
    obtain ⟨pl, ra, ta, prs, hL⟩ := hJH.same sH4
    refine ⟨_, rfl, ja, _, rfl, lj_letters hL.ob, _, rfl, ja, _, rfl, lj_pairs hL.ob, pl, _, rfl, .inl ⟨SqL.of hL.pairs, fun pr hpr => ?_⟩⟩
    have np := Same.new (o := .tup (prs.map V.ref)) hpr
    have epr : (upd H4 pr (.tup (prs.map V.ref))) pr = some (.tup (prs.map V.ref)) := upd_same
    have e5' := np _ _ e4
    have sH4p := sH4.trans np
    have hL4 := hL.same np
    generalize (upd H4 pr (.tup (prs.map V.ref))) = H4p at np epr e5' sH4p hL4
    refine fun x dx hx hdx hne => ⟨x, dx, J, pr, prs, rfl, upd_same, ok.j, (new_ins hx hdx).trans wo_le _ _ epr, hL4.prs.tk (TK.of ((new_ins hx hdx).trans wo_le)), fun H5 hN => ⟨rfl, ?_⟩⟩
    have hN1 := hN.lower (new_ins hx hdx)
    obtain ⟨s5, jdx, jpa, jta, jra, jna, jlg, jprs, jkvs, hA5, _, _, _, nna⟩ := hN1
    have e5 := s5 _ _ e5'
    refine ⟨_, rfl, a, _, rfl, DPut.k (k := Sum.inr "list") e5 (by show 5 < sizeLine; decide), ?_⟩
    rw [w6_put]
    have hA5A := hA5.noT e5 (fun z => by rw [z, e5'] at nna; cases nna)
    have nnat : jna ≠ t := fun z => by rw [z, sH4p _ _ ht] at nna; cases nna
    have u35 := u4.trans (wo_wo (np.trans s5))
    have sH6 : Same H (upd H5 a (.dK (w6D ja ma sa fa da x))) := Same.own (sH4p.trans s5) ha
    have u6 : Same (wo a H5) (wo a (upd H5 a (.dK (w6D ja ma sa fa da x)))) := wo_upd
    have e6 : (upd H5 a (.dK (w6D ja ma sa fa da x))) a = some (.dK (w6D ja ma sa fa da x)) := upd_same
    generalize (upd H5 a (.dK (w6D ja ma sa fa da x))) = H6 at sH6 u6 e6
    -- made
    obtain ⟨mea, msa, mrs, hMA⟩ := hMH.same sH6
    refine ⟨_, rfl, ma, _, rfl, lm_letters hMA.ob, _, rfl, ma, _, rfl, lm_start hMA.ob, _, rfl, ma, _, rfl, lm_ends hMA.ob, mea, _, rfl, .inl ⟨SqL.of hMA.ends, fun te hte => ?_⟩⟩
    have n7 := Same.new (o := .tup (nIs M.ends)) hte
    have ete : (upd H6 te (.tup (nIs M.ends))) te = some (.tup (nIs M.ends)) := upd_same
    have hMA7 := hMA.same n7
    generalize (upd H6 te (.tup (nIs M.ends))) = H7 at n7 ete hMA7
    refine ⟨_, rfl, ma, _, rfl, lm_steps hMA7.ob, msa, _, rfl, .inl ⟨SqL.of hMA7.steps, fun ts hts => ?_⟩⟩
    have n8 := Same.new (o := .tup (mrs.map V.ref)) hts
    have ets : (upd H7 ts (.tup (mrs.map V.ref))) ts = some (.tup (mrs.map V.ref)) := upd_same
    have ete8 := n8 _ _ ete
    have hMA8 := hMA7.same n8
    have n68 := n7.trans n8
    generalize (upd H7 ts (.tup (mrs.map V.ref))) = H8 at n8 ets ete8 hMA8 n68
    refine fun q dq hq hdq hneq => ⟨q, dq, M, te, ts, mrs, rfl, upd_same, ok.m, (new_ins hq hdq).trans wo_le _ _ ete8, (new_ins hq hdq).trans wo_le _ _ ets, hMA8.rows.tk (TK.of ((new_ins hq hdq).trans wo_le)), fun H9 s9 hMI => ⟨rfl, ?_⟩⟩
    have s89 := (new_ins hq hdq).trans s9
    have e9 := (n68.trans s89) _ _ e6
    refine ⟨_, rfl, a, _, rfl, DPut.k (k := Sum.inr "made") e9 (by show 6 < sizeLine; decide), ?_⟩
    rw [w7_put]
    have hMIA := hMI.noT e9
    have sH10 : Same H (upd H9 a (.dK (lwD ja ma sa fa da x q))) := Same.own ((sH6.trans n68).trans s89) ha
    have u10 : Same (wo a H9) (wo a (upd H9 a (.dK (lwD ja ma sa fa da x q)))) := wo_upd
    have e10 : (upd H9 a (.dK (lwD ja ma sa fa da x q))) a = some (.dK (lwD ja ma sa fa da x q)) := upd_same
    have u5_10 : Same (wo a H5) (wo a (upd H9 a (.dK (lwD ja ma sa fa da x q)))) := (u6.trans (wo_wo (n68.trans s89))).trans u10
    generalize (upd H9 a (.dK (lwD ja ma sa fa da x q))) = H10 at sH10 u10 e10 u5_10
    have et10 : (wo a H10) t = some (.dK kv) := wo_some (sH10 _ _ ht) hat
    have back : Same (wo t (wo a H10)) (wo t H10) := wo_wo wo_le
    have hsaF := (u35.trans u5_10) _ _ hsaA3
    have hsrF := hsrA3.same (u35.trans u5_10)
    have hPDF := hPDA.same (u35.trans u5_10)
    have hAF := hA5A.same u5_10
    have hMF := hMIA.same u10
    have wtH : Same (wo t H) (wo t H10) := wo_wo sH10
    refine ⟨_, rfl, fin H10 a sH10 ⟨ja, ma, sa, fa, da, x, q, frs, srs, FL, wo_some e10 (Ne.symm hat), hJ.same wtH, hM.same wtH, back _ _ (wo_some hsaF (ne_of hsaF et10 fun z => nomatch z)), (hsrF.noT et10).same back, wtH _ _ hF, hFr.same wtH, (hPDF.noT et10).same back, hnd, hfin, ?_, (hMF.noT et10).same back⟩⟩
    exact JIs.same ⟨_, _, _, _, _, _, _, _, hAF.noT et10 nnat⟩ back
theorem wo_in {t : Addr} {A B : Hp} (s : Same (wo t A) B) : Same (wo t A) (wo t B) := fun b o e => by
  have hb : b ≠ t := fun z => by rw [z, wo_at] at e; cases e
  exact wo_some (s _ _ e) hb
/-- a list of dicts is written: a machine stays -/
theorem LM.list {H : Hp} {a ml m1 : Addr} {M : MD} {xs ys : List V} {kv : List (Key × V)} (h : LM H a M) (e : H ml = some (.lst (V.ref m1 :: xs))) (hm : H m1 = some (.dK kv)) : LM (upd H ml (.lst ys)) a M := by
  obtain ⟨ea, sa, rs, h⟩ := h
  have t : TK H (upd H ml (.lst ys)) := TK.own (TK.refl _) e fun xs z => nomatch z
  refine ⟨ea, sa, rs, (upd_ne (ne_of h.ob e fun z => nomatch z)).trans h.ob, (upd_ne fun z => ?_).trans h.ends, (upd_ne fun z => ?_).trans h.steps, h.rows.tk t⟩
  · have h1 := h.ends
    rw [z, e] at h1
    have h2 : V.ref m1 :: xs = nIs M.ends := HO.lst.inj (Option.some.inj h1)
    cases hM : M.ends with
    | nil => rw [hM] at h2; cases h2
    | cons s es =>
      rw [hM] at h2
      have h3 : V.ref m1 = nI s := (List.cons.inj h2).1
      cases h3
  · have h1 := h.steps
    rw [z, e] at h1
    have h2 : V.ref m1 :: xs = rs.map V.ref := HO.lst.inj (Option.some.inj h1)
    cases rs with
    | nil => cases h2
    | cons r rs =>
      have h3 : V.ref m1 = V.ref r := (List.cons.inj h2).1
      cases h3
      have hr := h.rows
      cases hM : M.steps with
      | nil => rw [hM] at hr; cases hr
      | cons s ss =>
        rw [hM] at hr
        cases hr with
        | cons h4 _ =>
          rw [hm] at h4
          cases h4
theorem txs_take {J : JD} (ok : J.Ok) (m : Nat) : (txV J).take (J.al.length + m) = txV ⟨J.al, J.ps.take m⟩ := by
  show ((EX J.al.length J.ps).map _).take _ = (EX J.al.length (J.ps.take m)).map _
  rw [ok.prop.EX_take m, List.map_take]
def spWorlds (P : Program) (w : World) (K : PySem.W.Frag) : Sp := fun vs H Q _ => ∃ t ca cs, vs = [.ref t] ∧ Tape K H t ca cs ∧ ∀ H' l ws, Same (wo t H) H' → Tape K H' t ca cs → H' l = some (.lst (ws.map V.ref)) → ws ≠ [] → ws.length ≤ 3 → (∀ a ∈ ws, ∃ J M, WIs P w K (wo t H') a J M ∧ JM J M) → Q (.ref l) H'
theorem ok_L_worlds (T : Txt K mg) : DefOk P w K mg base 8 "_law_worlds" ["_law_tape_here"] (spWorlds P w K) := by
  have D_L_chain := ok_L_chain (P := P) (w := w) (base := base) T
  have D_L_draw := ok_L_draw (P := P) (w := w) (base := base) T
  have D_L_follow := ok_L_follow (P := P) (w := w) (base := base) T
  have D_L_joins := ok_L_joins (P := P) (w := w) (base := base) T
  have D_L_machine := ok_L_machine (P := P) (w := w) (base := base) T
  have D_L_world := ok_L_world (P := P) (w := w) (base := base) T
  refine mk_L_worlds T (fun vs H Q E h => ?_) (fun f cdv A outer s H vs Q E hr h => ?_)
  · obtain ⟨t, ca, cs, rfl, _⟩ := h
    rfl
  · obtain ⟨t, ca, cs, rfl, hT, fin⟩ := h
    refine ⟨_, (pss_cons (ps_st 1 sc_L_worlds.nd (pe_def D_L_joins hr (pa_cons (pv 0) (pa_cons pe_int (pa_cons pe_int (pa_cons pe_int pa_nil))))))
      (pss_cons (ps_st 2 sc_L_worlds.nd (pe_def D_L_draw hr (pa_cons (pv 0) (pa_cons (pe_op op_add (pe_callB (lenK (K := K)) rfl T.b_len PySem.boot_len (pa_cons (pe_dget (hu_of hr) (pv 1) pe_str (fun _ _ => rfl)) pa_nil)) pe_int) pa_nil))))
      (pss_cons (ps_st 3 sc_L_worlds.nd (pe_disp (pps_cons pe_str (pe_dget (hu_of hr) (pv 1) pe_str (fun _ _ => rfl)) (pps_cons pe_str (pe_slice (sl_listK (K := K)) (pe_dget (hu_of hr) (pv 1) pe_str (fun _ _ => rfl)) po_none (po_some (pv 2))) (pps_cons pe_str (pdnewK (P := P) (w := w)) (pps_cons pe_str (pe_slice (sl_listK (K := K)) (pe_dget (hu_of hr) (pv 1) pe_str (fun _ _ => rfl)) po_none (po_some (pe_op op_add (pe_callB call_len_str rfl T.b_len PySem.boot_len (pa_cons (pe_dget (hu_of hr) (pv 1) pe_str (fun _ _ => rfl)) pa_nil)) (pv 2)))) pps_nil)))) (by rfl) (by rfl) (fun z => by cases z) (by decide)))
      (pss_cons (ps_for PassesOwn.never rfl (pi_range1 rfl T.b_range (pa_cons (pv 2) pa_nil)) (pg_n 4 sc_L_worlds.nd)
        (pss_one (pdputK (P := P) (w := w) (hu_of hr) (pe_dget (hu_of hr) (pv 3) pe_str (fun _ _ => rfl)) (pe_ix (ix_listK (K := K)) (pe_dget (hu_of hr) (pv 1) pe_str (fun _ _ => rfl)) (pv 4) (fun _ _ => rfl)) (pv 4))))
      (pss_cons (ps_st 5 sc_L_worlds.nd (pe_lst (pa_cons (pe_def D_L_machine hr (pa_cons (pv 0) (pa_cons (pe_dget (hu_of hr) (pv 1) pe_str (fun _ _ => rfl)) (pa_cons pe_int pa_nil)))) (pa_cons (pe_def D_L_machine hr (pa_cons (pv 0) (pa_cons (pe_dget (hu_of hr) (pv 1) pe_str (fun _ _ => rfl)) (pa_cons pe_int pa_nil)))) pa_nil))))
      (C8.pss_cut (ps_if (pt_cmpR op_eq (pe_def D_L_draw hr (pa_cons (pv 0) (pa_cons pe_int pa_nil))) pe_int (nomark _)) (pss_one (ps_asg (pe_def D_L_chain hr (pa_cons (pv 0) (pa_cons (pe_dget (hu_of hr) (pv 1) pe_str (fun _ _ => rfl)) pa_nil))) (pg_sub (pv 5) pe_int set_list))) pss_nil)
      (pss_cons (ps_st 6 sc_L_worlds.nd (pe_def D_L_follow hr (pa_cons (pv 1) pa_nil)))
      (pss_cons (ps_st 7 sc_L_worlds.nd (pe_lst (pa_cons (pe_def D_L_world hr (pa_cons (pv 1) (pa_cons (pe_ix (ix_listK (K := K)) (pv 5) pe_int (fun _ _ => rfl)) (pa_cons (pv 6) pa_nil)))) (pa_cons (pe_def D_L_world hr (pa_cons (pv 1) (pa_cons (pe_ix (ix_listK (K := K)) (pv 5) pe_int (fun _ _ => rfl)) (pa_cons (pv 6) pa_nil)))) pa_nil))))
      (pss_one (ps_ret (pe_op op_cat (pv 7) (pe_lst (pa_cons (pe_def D_L_world hr (pa_cons (pv 3) (pa_cons (pe_ix (ix_listK (K := K)) (pv 5) pe_int (fun _ _ => rfl)) (pa_cons (pe_def D_L_follow hr (pa_cons (pv 3) pa_nil)) pa_nil)))) pa_nil))))))))))))), ?_⟩
    have hB : wo t H t = none := wo_at
    refine ⟨_, rfl, t, ca, cs, rfl, hT, fun H1 ja J s1 hT1 hJ okJ hps5 => ?_⟩
    obtain ⟨tk1, ht1⟩ := hT1.dk
    obtain ⟨pl, ra, ta, prs, hL⟩ := hJ
    have hprl : prs.length = J.ps.length := Paired.length hL.prs
    have hLH := hL.same wo_le
    refine ⟨_, rfl, _, rfl, ja, _, rfl, lj_pairs hLH.ob, pl, _, rfl, .inl (SqL.of hLH.pairs), _, _, rfl, rfl, t, ca, cs, J.ps.length + 1, ?_, by omega, hT1, fun H2 b2 hT2 mn hmn => ?_⟩
    · rw [List.length_map, hprl]
      show [V.ref t, V.int (((J.ps.length : Nat) : Int) + 1)] = _
      rw [Int.natCast_add]
      rfl
    have hL2 := hL.same b2.wo
    have hL2w := hL.same (wo_in b2.wo)
    have sB1 : Same (wo t H) (wo t H1) := wo_in s1
    have sB2 : Same (wo t H) H2 := sB1.trans b2.wo
    obtain ⟨tk2, ht2⟩ := hT2.dk
    -- first
    refine fun fi hfi => ?_
    have n0 := Same.new (o := .dK []) hfi
    have e0 : (upd H2 fi (.dK [])) fi = some (.dK []) := upd_same
    have hfit : fi ≠ t := (ne_of_none ht2 hfi).symm
    generalize (upd H2 fi (.dK [])) = H3 at n0 e0
    refine ⟨_, rfl, ja, _, rfl, lj_letters (n0 _ _ hL2.ob), _, rfl, ja, _, rfl, lj_pairs (n0 _ _ hL2.ob), _, rfl, _, rfl, pl, _, rfl, SqL.of (n0 _ _ hL2.pairs), fun pl2 hpl2 => ?_⟩
    rw [cut_to _ mn (by rw [List.length_map, hprl]; omega)]
    have n1 := Same.new (o := .lst ((prs.map V.ref).take mn)) hpl2
    have e1 : (upd H3 pl2 (.lst ((prs.map V.ref).take mn))) pl2 = some (.lst ((prs.map V.ref).take mn)) := upd_same
    have n01 := n0.trans n1
    have e01 := n1 _ _ e0
    generalize (upd H3 pl2 (.lst ((prs.map V.ref).take mn))) = H4 at n1 e1 n01 e01
    refine fun ra2 H5 hra2 d5 => ?_
    have n5 : Same H4 H5 := PdPut.own d5 (Same.refl _) hra2
    have n05 := n01.trans n5
    have hra20 : H2 ra2 = none := n01.free hra2
    refine ⟨_, rfl, ja, _, rfl, lj_texts (n05 _ _ hL2.ob), _, rfl, ja, _, rfl, lj_letters (n05 _ _ hL2.ob), _, rfl, by rw [alS_len]; exact small_ok (by have := okJ.b30; omega), _, rfl, _, _, rfl, rfl, _, rfl, ta, _, rfl, SqL.of (n05 _ _ hL2.texts), fun ta2 hta2 => ?_⟩
    rw [alS_len, show (((J.al.length : Nat) : Int) + ((mn : Nat) : Int)) = ((J.al.length + mn : Nat) : Int) by omega, cut_to _ (J.al.length + mn) (by rw [txV_len]; omega), txs_take okJ]
    have n6 := Same.new (o := .lst (txV ⟨J.al, J.ps.take mn⟩)) hta2
    have e6 : (upd H5 ta2 (.lst (txV ⟨J.al, J.ps.take mn⟩))) ta2 = some (.lst (txV ⟨J.al, J.ps.take mn⟩)) := upd_same
    have n06 := n05.trans n6
    have e06 := n6 _ _ (n5 _ _ e01)
    have epl6 := n6 _ _ (n5 _ _ e1)
    have era6 := d5.1.same n6
    generalize (upd H5 ta2 (.lst (txV ⟨J.al, J.ps.take mn⟩))) = H6 at n6 e6 n06 e06 epl6 era6
    refine ⟨e06, ljD J.al pl2 ra2 ta2, rfl, by show 4 ≤ 15; decide, ?_⟩
    rw [lj_merge]
    have s7 : Same H2 (upd H6 fi (.dK (ljD J.al pl2 ra2 ta2))) := Same.own n06 hfi
    have e7 : (upd H6 fi (.dK (ljD J.al pl2 ra2 ta2))) fi = some (.dK (ljD J.al pl2 ra2 ta2)) := upd_same
    have t7 : TK H6 (upd H6 fi (.dK (ljD J.al pl2 ra2 ta2))) := TK.own (TK.refl _) e06 fun xs z => nomatch z
    have epl7 := (upd_ne (H := H6) (a := fi) (o := .dK (ljD J.al pl2 ra2 ta2)) (ne_of epl6 e06 fun z => nomatch z)).trans epl6
    have eta7 := (upd_ne (H := H6) (a := fi) (o := .dK (ljD J.al pl2 ra2 ta2)) (ne_of e6 e06 fun z => nomatch z)).trans e6
    have era7 : PD P w (upd H6 fi (.dK (ljD J.al pl2 ra2 ta2))) ra2 [] := era6.keep (upd_ne (by
      obtain ⟨F, hF⟩ := pd_some era6
      exact ne_of hF e06 fun z => nomatch z)) t7
    generalize (upd H6 fi (.dK (ljD J.al pl2 ra2 ta2))) = H7 at s7 e7 epl7 eta7 era7
    obtain ⟨F7, eF7⟩ := pd_some era7
    -- its ranks
    have hLs : LJAt P w H2 ja J pl ra ta prs := hL2
    refine ⟨_, rfl, _, rfl, by omega, by omega, for_range (lo := 0) (fun k σ' H' => ∃ y4, σ' = [some (.ref t), some (.ref ja), some (.int (mn : Nat)), some (.ref fi), y4, none, none, none] ∧ But ra2 H7 H' ∧ PD P w H' ra2 (rkT 0 (J.ps.take k))) ⟨none, rfl, But.refl _ _, era7⟩ ?_ ?_⟩
    · rintro k σ' H8 hk ⟨y4, rfl, b8, hPD8⟩
      have hk2 : k < J.ps.length := by omega
      have s8 : Same H2 H8 := fun b o e => by
        rw [b8 b (ne_of_none e hra20)]
        exact s7 _ _ e
      obtain ⟨c, hc⟩ : ∃ c, J.ps[k]? = some c := ⟨_, List.getElem?_eq_getElem hk2⟩
      obtain ⟨pa, hpa, hpc⟩ := paired_get hLs.prs hc
      have e8 := (b8 fi (ne_of e7 eF7 fun z => nomatch z)).trans e7
      have hnot : c ∉ J.ps.take k := fun hm => by
        obtain ⟨j, hj, hjc⟩ := mem_take_ix hm
        exact absurd (okJ.prop.uniq _ _ _ hjc hc) (by omega)
      have htl : (J.ps.take k).length = k := take_len hc
      rw [show (0 + ((k : Nat) : Int)) = ((k : Nat) : Int) by omega]
      refine ⟨_, rfl, _, rfl, fi, _, rfl, lj_ranks e8, _, rfl, ja, _, rfl, lj_pairs (s8 _ _ hLs.ob), _, rfl, pl, _, _, .ref pa, rfl, rfl, SqL.of (s8 _ _ hLs.pairs), atI_nat (by rw [List.getElem?_map, hpa]; rfl), ra2, pa, pk c, _, rfl, rfl, hPD8, s8 _ _ hpc, by rw [rkT_len, htl]; exact small_lt (by omega), fun H9 d9 => ⟨_, rfl, fun z hz => (d9.2 z hz).trans (b8 z hz), ?_⟩⟩
      have e9 := rkT_put hnot
      rw [htl] at e9
      have d9' := d9.1
      rw [e9] at d9'
      rw [List.take_add_one, hc]
      exact d9'
    · rintro σ' H8 ⟨y4, rfl, b8, hPD8⟩
      rw [Int.toNat_natCast] at hPD8
      have s8 : Same H2 H8 := fun b o e => by
        rw [b8 b (ne_of_none e hra20)]
        exact s7 _ _ e
      have hLF : LJAt P w H8 fi ⟨J.al, J.ps.take mn⟩ pl2 ra2 ta2 (prs.take mn) := by
        refine ⟨(b8 fi (ne_of e7 eF7 fun z => nomatch z)).trans e7, ?_, ?_, hPD8, (b8 ta2 (ne_of eta7 eF7 fun z => nomatch z)).trans eta7⟩
        · rw [b8 pl2 (ne_of epl7 eF7 fun z => nomatch z), epl7, List.map_take]
        · have gen : ∀ {as : List Addr} {ps : List (Nat × Nat)} (m : Nat), PairsAt H2 as ps → PairsAt H8 (as.take m) (ps.take m) := by
            intro as ps m h
            induction h generalizing m with
            | nil => simpa using .nil
            | cons h t ih =>
              cases m with
              | zero => exact .nil
              | succ m => exact .cons (s8 _ _ h) (ih m)
          exact gen mn hLs.prs
      have hT8 := hT2.same s8
      obtain ⟨tk8, ht8⟩ := hT8.dk
      have sB8 : Same (wo t H) (wo t H8) := wo_in (sB2.trans s8)
      have hJ8 : LJ P w (wo t H8) ja J := ⟨pl, ra, ta, prs, hL2w.same (wo_wo s8)⟩
      have hF8 : LJ P w (wo t H8) fi ⟨J.al, J.ps.take mn⟩ := ⟨pl2, ra2, ta2, _, hLF.noT hfit ht8⟩
      have hal : AlM J.al := ⟨okJ.b30, okJ.asc⟩
      -- machines
      have hLob := (hL2w.same (wo_wo s8)).ob
      have hLa8 := wo_le _ _ hLob
      refine ⟨_, rfl, _, rfl, ja, _, rfl, lj_letters hLa8, t, ca, cs, J.al, rfl, hal, hT8, fun H9 m1 M1 s9 hT9 hM1 ok1 al1 => ?_⟩
      have u9 := wo_in s9
      have hLa9 := wo_le _ _ (u9 _ _ hLob)
      refine ⟨_, rfl, _, rfl, ja, _, rfl, lj_letters hLa9, t, ca, cs, J.al, rfl, hal, hT9, fun H10 m2 M2 s10 hT10 hM2 ok2 al2 => ⟨two_ok, fun ml hml => ?_⟩⟩
      have u10 := wo_in s10
      have n11 := Same.new (o := .lst [V.ref m1, V.ref m2]) hml
      have eml : (upd H10 ml (.lst [V.ref m1, V.ref m2])) ml = some (.lst [V.ref m1, V.ref m2]) := upd_same
      have hT11 := hT10.same n11
      have u11 := u10.trans (wo_wo n11)
      have hM1' := hM1.same u11
      have hM2' := hM2.same (wo_wo n11)
      have u8_11 := u9.trans u11
      have uH10 : wo t H10 ml = none := wo_le.free hml
      have sH10_11 : Same (wo t H10) (wo t (upd H10 ml (.lst [V.ref m1, V.ref m2]))) := wo_wo n11
      generalize (upd H10 ml (.lst [V.ref m1, V.ref m2])) = H11 at n11 eml hT11 u11 hM1' hM2' u8_11 sH10_11
      have hmlt : ml ≠ t := by
        obtain ⟨tk11, ht11⟩ := hT11.dk
        exact ne_of eml ht11 fun z => nomatch z
      refine ⟨fun σ' H' => ∃ (y4 : Option V) (m1 : Addr) (M1 : MD), σ' = [some (.ref t), some (.ref ja), some (.int (mn : Nat)), some (.ref fi), y4, some (.ref ml), none, none] ∧ Same (wo t H8) (wo t H') ∧ Tape K H' t ca cs ∧ H' ml = some (.lst [V.ref m1, V.ref m2]) ∧ LM (wo t H') m1 M1 ∧ M1.Ok ∧ M1.al = J.al ∧ LM (wo t H') m2 M2, ?_, ?_⟩
      · refine ⟨_, rfl, t, ca, cs, 5, rfl, by decide, hT11, fun H12 b12 hT12 r12 hr12 => ⟨rfl, _, rfl, ite2 (fun h => ?_) fun h => ⟨y4, m1, M1, rfl, u8_11.trans (wo_in b12.wo), hT12, (b12 ml hmlt).trans eml, hM1'.same (wo_in b12.wo), ok1, al1, hM2'.same (wo_in b12.wo)⟩⟩⟩
        have u12 := u8_11.trans (wo_in b12.wo)
        have eml12 := (b12 ml hmlt).trans eml
        have hLa12 := wo_le _ _ (u12 _ _ hLob)
        refine ⟨_, rfl, _, rfl, ja, _, rfl, lj_letters hLa12, t, ca, cs, J.al, rfl, hal, hT12, fun H13 m0 M0 s13 hT13 hM0 ok0 al0 => ⟨_, rfl, ?_⟩⟩
        have u13 := wo_in s13
        have eml13 := s13 _ _ (wo_some eml12 hmlt)
        have hM1_13 := (hM1'.same (wo_in b12.wo)).same u13
        have hm1 : (wo t H13) m1 = some (.dK (lmD M1.al M1.start hM1_13.choose hM1_13.choose_spec.choose)) := hM1_13.choose_spec.choose_spec.choose_spec.ob
        have eml13w : (wo t H13) ml = some (.lst [V.ref m1, V.ref m2]) := wo_some eml13 hmlt
        have wupd : ∀ {o : HO}, Same (upd (wo t H13) ml o) (wo t (upd H13 ml o)) := fun {o} b x e => by
          by_cases hb : b = ml
          · rw [hb, upd_same] at e
            rw [hb]
            exact wo_some (upd_same.trans e) hmlt
          · rw [upd_ne hb] at e
            have hbt : b ≠ t := fun z => by rw [z, wo_at] at e; cases e
            exact wo_some ((upd_ne hb).trans (wo_le _ _ e)) hbt
        have wml : wo t H8 ml = none := (u9.trans u10).free uH10
        have u14 : Same (wo t H8) (wo t (upd H13 ml (.lst ([V.ref m1, V.ref m2].set 0 (.ref m0))))) := wo_in (Same.own ((u12.trans u13).trans wo_le) wml)
        refine ⟨ml, _, _, 0, rfl, rfl, eml13, rfl, y4, m0, M0, rfl, u14, ?_, upd_same, (hM0.list eml13w hm1).same wupd, ok0, al0, (((hM2'.same (wo_in b12.wo)).same u13).list eml13w hm1).same wupd⟩
        have sB14 : Same (wo t H) (upd H13 ml (.lst ([V.ref m1, V.ref m2].set 0 (.ref m0)))) := (sB8.trans u14).trans wo_le
        exact hT.mv hT13 sB14 (upd_ne (Ne.symm hmlt))
      · rintro σ' H12 ⟨y4, m1, M1, rfl, u12, hT12, eml12, hM1, ok1, al1, hM2⟩
        obtain ⟨tk12, ht12⟩ := hT12.dk
        have hJ12 := hJ8.same u12
        have hF12 := hF8.same u12
        -- follow
        refine ⟨_, rfl, ja, J, rfl, hJ12.same wo_le, okJ, fun H13 fa frs s13 hfa hfr => ?_⟩
        have ht13 := s13 _ _ ht12
        have hfaW := wo_some hfa (ne_of hfa ht13 fun z => nomatch z)
        have hfrW := hfr.noT ht13
        have u13 := wo_wo (t := t) s13
        -- the worlds
        have emlW : (wo t H12) ml = some (.lst [V.ref m1, V.ref m2]) := wo_some eml12 hmlt
        have eml13 := s13 _ _ eml12
        refine ⟨_, rfl, _, rfl, ml, _, _, .ref m1, rfl, rfl, SqL.of eml13, atI_nat (j := 0) rfl, _, rfl, t, tk12, ja, m1, fa, J, M1, frs, rfl, ht13, hJ12.same u13, hM1.same u13, ⟨okJ, ok1, al1⟩, hfaW, hfrW, fun H14 w1 s14 hw1 => ?_⟩
        have ht14 := s14 _ _ ht13
        have u14 := wo_wo (t := t) s14
        have eml14 := s14 _ _ eml13
        refine ⟨_, rfl, _, rfl, ml, _, _, .ref m2, rfl, rfl, SqL.of eml14, atI_nat (j := 1) rfl, _, rfl, t, tk12, ja, m2, fa, J, M2, frs, rfl, ht14, (hJ12.same u13).same u14, (hM2.same u13).same u14, ⟨okJ, ok2, al2⟩, u14 _ _ hfaW, hfrW.same u14, fun H15 w2 s15 hw2 => ⟨two_ok, fun wl hwl => ?_⟩⟩
        have n16 := Same.new (o := .lst [V.ref w1, V.ref w2]) hwl
        have s16 := s15.trans n16
        have ewl : (upd H15 wl (.lst [V.ref w1, V.ref w2])) wl = some (.lst [V.ref w1, V.ref w2]) := upd_same
        generalize (upd H15 wl (.lst [V.ref w1, V.ref w2])) = H16 at n16 s16 ewl
        have ht16 := s16 _ _ ht14
        have u16 := (u13.trans u14).trans (wo_wo (t := t) s16)
        have eml16 := s16 _ _ eml14
        have hF16 := hF12.same u16
        -- the third
        refine ⟨_, rfl, _, rfl, _, rfl, ml, _, _, .ref m1, rfl, rfl, SqL.of eml16, atI_nat (j := 0) rfl, _, rfl, fi, ⟨J.al, J.ps.take mn⟩, rfl, hF16.same wo_le, okJ.take mn, fun H17 fa2 frs2 s17 hfa2 hfr2 => ?_⟩
        have ht17 := s17 _ _ ht16
        have u17 := wo_wo (t := t) s17
        refine ⟨t, tk12, fi, m1, fa2, ⟨J.al, J.ps.take mn⟩, M1, frs2, rfl, ht17, hF16.same u17, (hM1.same u16).same u17, ⟨okJ.take mn, ok1, al1⟩, wo_some hfa2 (ne_of hfa2 ht17 fun z => nomatch z), hfr2.noT ht17, fun H18 w3 s18 hw3 => ⟨one_ok, fun l3 hl3 => ?_⟩⟩
        have n19 := Same.new (o := .lst [V.ref w3]) hl3
        have ewl19 := n19 _ _ (s18 _ _ (s17 _ _ ewl))
        refine ⟨wl, l3, _, _, rfl, rfl, ewl19, upd_same, by show 2 + 1 ≤ sizeLine; decide, fun l hl => ?_⟩
        have n20 := Same.new (o := .lst ([V.ref w1, V.ref w2] ++ [V.ref w3])) hl
        have z18 := n19.trans n20
        have z16 := (s17.trans s18).trans z18
        have sF : Same H12 _ := ((s13.trans s14).trans s16).trans z16
        refine fin _ l [w1, w2, w3] (((sB8.trans u12).trans wo_le).trans sF) (hT12.same sF) upd_same (by simp) (Nat.le_refl _) fun a ha => ?_
        rcases List.mem_cons.mp ha with h | h
        · rw [h]
          exact ⟨J, M1, hw1.same (wo_wo (s16.trans z16)), okJ, ok1, al1⟩
        · rcases List.mem_cons.mp h with h | h
          · rw [h]
            exact ⟨J, M2, hw2.same (wo_wo (n16.trans z16)), okJ, ok2, al2⟩
          · rw [List.mem_singleton.mp h]
            exact ⟨⟨J.al, J.ps.take mn⟩, M1, hw3.same (wo_wo z18), okJ.take mn, ok1, al1⟩
end
end J

set_option Elab.async false
set_option linter.all false
set_option maxRecDepth 100000
set_option maxHeartbeats 4000000
/-! Walks of the law: the same value; the states from which an end is possible; a text that is taken. -/
namespace J
open PySem PySem.Spec PyProof.Rows L2
section
variable {P : Program} {w : World} {K : PySem.W.Frag} {mg : Str → Option Value} {base : Heap}
def spNone : Sp := fun _ _ _ _ => False
theorem same_none (T : Txt K mg) : DefOk P w K mg base 1 "_law_same" ["_law_actual", "_law_due"] spNone := by
  refine mk_L_same T (fun vs H Q E h => h.elim) (fun f cdv A outer s H vs Q E hr h => h.elim)
def spSame0 : Sp := fun vs H Q _ => ((∃ n : Nat, vs = [nI n, nI n]) ∨ vs = [.non, .non]) ∧ Q (.bl true) H
theorem same_flat (T : Txt K mg) : DefOk P w K mg base 2 "_law_same" ["_law_actual", "_law_due"] spSame0 := by
  have D_L_same := same_none (P := P) (w := w) (base := base) T
  refine mk_L_same T (fun vs H Q E h => ?_) (fun f cdv A outer s H vs Q E hr h => ?_)
  · obtain ⟨⟨n, rfl⟩ | rfl, _⟩ := h <;> rfl
  · obtain ⟨h, fin⟩ := h
    refine ⟨_, (pss_cons (ps_if (pt_val (pe_callB (isiK (K := K)) rfl T.b_isinstance (by decide +kernel) (pa_cons (pv 1) (pa_cons (pe_bltn (v := .ty "tuple") rfl T.b_tuple (by decide +kernel) rfl) pa_nil)))) (pss_cons (ps_if (PW.pt (pw_or (pt_not (pt_val (pe_callB (isiK (K := K)) rfl T.b_isinstance (by decide +kernel) (pa_cons (pv 0) (pa_cons (pe_bltn (v := .ty "tuple") rfl T.b_tuple (by decide +kernel) rfl) pa_nil))))) (pw_or1 (pt_cmpR op_ne (pe_callB (lenK (K := K)) rfl T.b_len PySem.boot_len (pa_cons (pv 0) pa_nil)) (pe_callB (lenK (K := K)) rfl T.b_len PySem.boot_len (pa_cons (pv 1) pa_nil)) (nomark _))))) (pss_one (ps_ret pe_bl)) pss_nil)
        (pss_cons (ps_for PassesOwn.never rfl (pi_range1 rfl T.b_range (pa_cons (pe_callB (lenK (K := K)) rfl T.b_len PySem.boot_len (pa_cons (pv 1) pa_nil)) pa_nil)) (pg_n 2 sc_L_same.nd)
          (pss_one (ps_if (pt_not (pt_val (pe_def D_L_same hr (pa_cons (pe_ix (ix_tupK (K := K)) (pv 0) (pv 2) (fun _ _ => rfl)) (pa_cons (pe_ix (ix_tupK (K := K)) (pv 1) (pv 2) (fun _ _ => rfl)) pa_nil))))) (pss_one (ps_ret pe_bl)) pss_nil)))
        (pss_one (ps_ret pe_bl)))) pss_nil)
      (pss_cons (ps_if (pt_cmpR op_isN (pv 1) pe_non (nomark _)) (pss_one (ps_ret (pe_cmpR op_isN (pv 0) pe_non (nomark _)))) pss_nil)
      (pss_cons (ps_if (pt_val (pe_callB (isiK (K := K)) rfl T.b_isinstance (by decide +kernel) (pa_cons (pv 1) (pa_cons (pe_bltn (v := .ty "bool") rfl T.b_bool (by decide +kernel) rfl) pa_nil)))) (pss_one (ps_ret (pe_and (pe_callB (isiK (K := K)) rfl T.b_isinstance (by decide +kernel) (pa_cons (pv 0) (pa_cons (pe_bltn (v := .ty "bool") rfl T.b_bool (by decide +kernel) rfl) pa_nil))) (pe_one (pe_cmpR op_eq (pv 0) (pv 1) (nomark _)))))) pss_nil)
      (pss_cons (ps_if (pt_val (pe_callB (isiK (K := K)) rfl T.b_isinstance (by decide +kernel) (pa_cons (pv 1) (pa_cons (pe_bltn (v := .ty "str") rfl T.b_str (by decide +kernel) rfl) pa_nil)))) (pss_one (ps_ret (pe_and (pe_callB (isiK (K := K)) rfl T.b_isinstance (by decide +kernel) (pa_cons (pv 0) (pa_cons (pe_bltn (v := .ty "str") rfl T.b_str (by decide +kernel) rfl) pa_nil))) (pe_one (pe_cmpR op_eq (pv 0) (pv 1) (nomark _)))))) pss_nil)
      (pss_one (ps_ret (pe_and (pe_callB (isiK (K := K)) rfl T.b_isinstance (by decide +kernel) (pa_cons (pv 0) (pa_cons (pe_bltn (v := .ty "int") rfl T.b_int (by decide +kernel) rfl) pa_nil))) (pe_and (pe_not (pe_callB (isiK (K := K)) rfl T.b_isinstance (by decide +kernel) (pa_cons (pv 0) (pa_cons (pe_bltn (v := .ty "bool") rfl T.b_bool (by decide +kernel) rfl) pa_nil)))) (pe_one (pe_cmpR op_eq (pv 0) (pv 1) (nomark _))))))))))), ?_⟩
    rcases h with ⟨n, rfl⟩ | rfl
    · refine ⟨_, rfl, _, .ty "tuple", .type "int", .type "tuple", false, rfl, .ty "tuple", .base (.int _), kit_ty (by decide +kernel), false, rfl, iteF ?_⟩
      refine ⟨_, rfl, rfl, _, rfl, iteF ?_⟩
      refine ⟨_, rfl, _, .ty "bool", .type "int", .type "bool", false, rfl, .ty "bool", .base (.int _), kit_ty (by decide +kernel), false, rfl, iteF ?_⟩
      refine ⟨_, rfl, _, .ty "str", .type "int", .type "str", false, rfl, .ty "str", .base (.int _), kit_ty (by decide +kernel), false, rfl, iteF ?_⟩
      refine ⟨_, rfl, _, .ty "int", .type "int", .type "int", true, rfl, .ty "int", .base (.int _), kit_ty (by decide +kernel), true, rfl, iteT ?_⟩
      refine ⟨_, rfl, _, .ty "bool", .type "int", .type "bool", false, rfl, .ty "bool", .base (.int _), kit_ty (by decide +kernel), false, rfl, true, rfl, iteT ?_⟩
      refine ⟨_, rfl, _, rfl, rfl, ?_⟩
      rw [decide_eq_true rfl]
      exact fin
    · refine ⟨_, rfl, _, .ty "tuple", .type "NoneType", .type "tuple", false, rfl, .ty "tuple", .base .non, kit_ty (by decide +kernel), false, rfl, iteF ?_⟩
      refine ⟨_, rfl, rfl, _, rfl, iteT ⟨_, rfl, rfl, ?_⟩⟩
      exact fin
def spSame : Sp := fun vs H Q _ => ((∃ a b ns, vs = [.ref a, .ref b] ∧ H a = some (.tup (nIs ns)) ∧ H b = some (.tup (nIs ns)) ∧ ns.length ≤ 100000) ∨ vs = [.non, .non]) ∧ Q (.bl true) H
theorem ok_L_same (T : Txt K mg) : DefOk P w K mg base 3 "_law_same" ["_law_actual", "_law_due"] spSame := by
  have D_L_same := same_flat (P := P) (w := w) (base := base) T
  refine mk_L_same T (fun vs H Q E h => ?_) (fun f cdv A outer s H vs Q E hr h => ?_)
  · obtain ⟨⟨a, b, ns, rfl, _⟩ | rfl, _⟩ := h <;> rfl
  · obtain ⟨h, fin⟩ := h
    refine ⟨_, (pss_cons (ps_if (pt_val (pe_callB (isiK (K := K)) rfl T.b_isinstance (by decide +kernel) (pa_cons (pv 1) (pa_cons (pe_bltn (v := .ty "tuple") rfl T.b_tuple (by decide +kernel) rfl) pa_nil)))) (pss_cons (ps_if (PW.pt (pw_or (pt_not (pt_val (pe_callB (isiK (K := K)) rfl T.b_isinstance (by decide +kernel) (pa_cons (pv 0) (pa_cons (pe_bltn (v := .ty "tuple") rfl T.b_tuple (by decide +kernel) rfl) pa_nil))))) (pw_or1 (pt_cmpR op_ne (pe_callB (lenK (K := K)) rfl T.b_len PySem.boot_len (pa_cons (pv 0) pa_nil)) (pe_callB (lenK (K := K)) rfl T.b_len PySem.boot_len (pa_cons (pv 1) pa_nil)) (nomark _))))) (pss_one (ps_ret pe_bl)) pss_nil)
        (pss_cons (ps_for PassesOwn.never rfl (pi_range1 rfl T.b_range (pa_cons (pe_callB (lenK (K := K)) rfl T.b_len PySem.boot_len (pa_cons (pv 1) pa_nil)) pa_nil)) (pg_n 2 sc_L_same.nd)
          (pss_one (ps_if (pt_not (pt_val (pe_def D_L_same hr (pa_cons (pe_ix (ix_tupK (K := K)) (pv 0) (pv 2) (fun _ _ => rfl)) (pa_cons (pe_ix (ix_tupK (K := K)) (pv 1) (pv 2) (fun _ _ => rfl)) pa_nil))))) (pss_one (ps_ret pe_bl)) pss_nil)))
        (pss_one (ps_ret pe_bl)))) pss_nil)
      (pss_cons (ps_if (pt_cmpR op_isN (pv 1) pe_non (nomark _)) (pss_one (ps_ret (pe_cmpR op_isN (pv 0) pe_non (nomark _)))) pss_nil)
      (pss_cons (ps_if (pt_val (pe_callB (isiK (K := K)) rfl T.b_isinstance (by decide +kernel) (pa_cons (pv 1) (pa_cons (pe_bltn (v := .ty "bool") rfl T.b_bool (by decide +kernel) rfl) pa_nil)))) (pss_one (ps_ret (pe_and (pe_callB (isiK (K := K)) rfl T.b_isinstance (by decide +kernel) (pa_cons (pv 0) (pa_cons (pe_bltn (v := .ty "bool") rfl T.b_bool (by decide +kernel) rfl) pa_nil))) (pe_one (pe_cmpR op_eq (pv 0) (pv 1) (nomark _)))))) pss_nil)
      (pss_cons (ps_if (pt_val (pe_callB (isiK (K := K)) rfl T.b_isinstance (by decide +kernel) (pa_cons (pv 1) (pa_cons (pe_bltn (v := .ty "str") rfl T.b_str (by decide +kernel) rfl) pa_nil)))) (pss_one (ps_ret (pe_and (pe_callB (isiK (K := K)) rfl T.b_isinstance (by decide +kernel) (pa_cons (pv 0) (pa_cons (pe_bltn (v := .ty "str") rfl T.b_str (by decide +kernel) rfl) pa_nil))) (pe_one (pe_cmpR op_eq (pv 0) (pv 1) (nomark _)))))) pss_nil)
      (pss_one (ps_ret (pe_and (pe_callB (isiK (K := K)) rfl T.b_isinstance (by decide +kernel) (pa_cons (pv 0) (pa_cons (pe_bltn (v := .ty "int") rfl T.b_int (by decide +kernel) rfl) pa_nil))) (pe_and (pe_not (pe_callB (isiK (K := K)) rfl T.b_isinstance (by decide +kernel) (pa_cons (pv 0) (pa_cons (pe_bltn (v := .ty "bool") rfl T.b_bool (by decide +kernel) rfl) pa_nil)))) (pe_one (pe_cmpR op_eq (pv 0) (pv 1) (nomark _))))))))))), ?_⟩
    rcases h with ⟨a, b, ns, rfl, ha, hb, hl⟩ | rfl
    · refine ⟨_, rfl, _, .ty "tuple", .type "tuple", .type "tuple", true, rfl, .ty "tuple", .base (.tup hb), kit_ty (by decide +kernel), true, rfl, iteT ?_⟩
      have hne : ((((nIs ns).length : Nat) : Int) = (((nIs ns).length : Nat) : Int)) := rfl
      refine ⟨_, rfl, _, .ty "tuple", .type "tuple", .type "tuple", true, rfl, .ty "tuple", .base (.tup ha), kit_ty (by decide +kernel), true, rfl, iteF ?_⟩
      refine ⟨_, rfl, a, _, rfl, .inr (SqT.of ha), _, rfl, b, _, rfl, .inr (SqT.of hb), rfl, _, rfl, ?_⟩
      rw [decide_eq_true rfl]
      refine iteF ?_
      refine ⟨_, rfl, b, _, rfl, .inr (SqT.of hb), _, rfl, by rw [nIs_len]; omega, by rw [nIs_len]; omega, ?_⟩
      rw [nIs_len, Int.toNat_natCast]
      refine for_range (lo := 0) (fun i σ' H' => ∃ y2, σ' = [some (.ref a), some (.ref b), y2] ∧ H = H') ⟨none, rfl, rfl⟩ ?_ ?_
      · rintro i σ' H' hi ⟨y2, rfl, rfl⟩
        have hx : ns[i]? = some ns[i] := List.getElem?_eq_getElem hi
        refine ⟨_, rfl, _, rfl, a, _, _, _, rfl, rfl, SqT.of ha, at_of (j := i) (by omega) (nIs_get hx), _, rfl, _, rfl, b, _, _, _, rfl, rfl, SqT.of hb, at_of (j := i) (by omega) (nIs_get hx), .inl ⟨ns[i], rfl⟩, _, rfl, iteF ⟨_, rfl, rfl⟩⟩
      · rintro σ' H' ⟨y2, rfl, rfl⟩
        exact fin
    · refine ⟨_, rfl, _, .ty "tuple", .type "NoneType", .type "tuple", false, rfl, .ty "tuple", .base .non, kit_ty (by decide +kernel), false, rfl, iteF ?_⟩
      refine ⟨_, rfl, rfl, _, rfl, iteT ⟨_, rfl, rfl, ?_⟩⟩
      exact fin
def spHope (K : PySem.W.Frag) : Sp := fun vs H Q _ => ∃ m M, vs = [.ref m] ∧ LM H m M ∧ M.Ok ∧ ∀ H' a kvs, Same H H' → H a = none → H' a = some (.dK kvs) → Q (.ref a) H'
theorem ok_L_hopeful (T : Txt K mg) : DefOk P w K mg base 1 "_law_hopeful" ["_law_machine_here"] (spHope K) := by
  refine mk_L_hopeful T (fun vs H Q E h => ?_) (fun f cdv A outer s H vs Q E hr h => ?_)
  · obtain ⟨m, M, rfl, _⟩ := h
    rfl
  · obtain ⟨m, M, rfl, ⟨ea, sa, rs, hM⟩, ok, fin⟩ := h
    refine ⟨_, (pss_cons (ps_st 1 sc_L_hopeful.nd pe_dnewK)
      (pss_cons (ps_for PassesOwn.never rfl (pi_list (pe_dget (hu_of hr) (pv 0) pe_str (fun _ _ => rfl))) (pg_n 2 sc_L_hopeful.nd)
        (pss_one (ps_dput (hu_of hr) (pv 1) (pv 2) pe_bl rfl)))
      (pss_cons (ps_for PassesOwn.never rfl (pi_range1 rfl T.b_range (pa_cons (pe_callB (lenK (K := K)) rfl T.b_len PySem.boot_len (pa_cons (pe_dget (hu_of hr) (pv 0) pe_str (fun _ _ => rfl)) pa_nil)) pa_nil)) (pg_n 3 sc_L_hopeful.nd)
        (pss_one (ps_for PassesOwn.never rfl (pi_range1 rfl T.b_range (pa_cons (pe_callB (lenK (K := K)) rfl T.b_len PySem.boot_len (pa_cons (pe_dget (hu_of hr) (pv 0) pe_str (fun _ _ => rfl)) pa_nil)) pa_nil)) (pg_n 2 sc_L_hopeful.nd)
          (pss_one (ps_if (pt_cmpR (neDK (K := K) hr.units) (pe_lc (own := [("_law_to", 4)]) (g := (gName 4)) rfl sc_L_hopeful.nd (pi_tup (pe_ix (ix_listK (K := K)) (pe_dget (hu_of hr) (pv 0) pe_str (fun _ _ => rfl)) (pv 2) (fun _ _ => rfl))) (blkOk_by (N := N_L_hopeful) (sc := defScope s_L_hopeful) (by decide +kernel)) (fun _ _ _ _ _ => (pg_n 4 sc_L_hopeful.nd)) (fun _ _ _ _ _ => (pts_one (PW.pt (pw_and (pt_cmpR op_notN (pv 4) pe_non (nomark _)) (pw_and1 (pt_cmp (pc_din (hu_of hr) (pv 4) (pv 1)))))))) (fun _ _ _ _ _ => (pv 4))) (pe_lst pa_nil) (nomark _)) (pss_one (ps_dput (hu_of hr) (pv 1) (pv 2) pe_bl rfl)) pss_nil)))))
      (pss_one (ps_ret (pv 1)))))), ?_⟩
    have hrl : rs.length = M.steps.length := Paired.length hM.rows
    have hS12 := ok.n12
    have hE12 := ok.e12
    refine fun hp hhp => ?_
    have n0 := Same.new (o := .dK []) hhp
    have e0 : (upd H hp (.dK [])) hp = some (.dK []) := upd_same
    generalize (upd H hp (.dK [])) = H0 at n0 e0
    refine ⟨_, rfl, m, _, rfl, lm_ends (n0 _ _ hM.ob), ea, rfl, ⟨_, SqL.of (n0 _ _ hM.ends)⟩, for_list (K := K) (xs := nIs M.ends) (fun i σ' H' => ∃ y2 kvs, σ' = [some (.ref m), some (.ref hp), y2, none, none] ∧ Same H H' ∧ H' hp = some (.dK kvs) ∧ kvs.length ≤ i) ⟨none, [], rfl, n0, e0, Nat.le_refl _⟩ (fun i σ' H' _ ⟨_, _, _, s, _⟩ => SqL.of (s _ _ hM.ends)) ?_ ?_⟩
    · rintro i v σ' H1 hv ⟨y2, kvs, rfl, s1, e1, hl⟩
      obtain ⟨x, hx, rfl⟩ := nIs_get' hv
      have hi : i < M.ends.length := (List.getElem?_eq_some_iff.mp hx).1
      refine ⟨_, rfl, _, rfl, hp, _, rfl, DPut.k (k := Sum.inl ((x : Nat) : Int)) e1 (small_lt (by omega)), ?_⟩
      exact ⟨_, _, rfl, Same.own s1 hhp, upd_same, Nat.le_trans (length_putK _ _ _) (by omega)⟩
    · rintro σ' H1 ⟨y2, kvs, rfl, s1, e1, hl⟩
      rw [nIs_len] at hl
      refine ⟨_, rfl, m, _, rfl, lm_steps (s1 _ _ hM.ob), sa, _, rfl, .inl (SqL.of (s1 _ _ hM.steps)), _, rfl, by rw [List.length_map, hrl]; omega, by rw [List.length_map, hrl]; omega, ?_⟩
      rw [List.length_map, hrl, Int.toNat_natCast]
      refine for_range (lo := 0) (fun k σ' H' => ∃ y2 y3 y4 kvs, σ' = [some (.ref m), some (.ref hp), y2, y3, y4] ∧ Same H H' ∧ H' hp = some (.dK kvs) ∧ kvs.length ≤ 12 + k * 12) ⟨y2, none, none, kvs, rfl, s1, e1, by omega⟩ ?_ ?_
      · rintro k σ' H2 hk ⟨y2, y3, y4, kvs, rfl, s2, e2, hl⟩
        refine ⟨_, rfl, m, _, rfl, lm_steps (s2 _ _ hM.ob), sa, _, rfl, .inl (SqL.of (s2 _ _ hM.steps)), _, rfl, by rw [List.length_map, hrl]; omega, by rw [List.length_map, hrl]; omega, ?_⟩
        rw [List.length_map, hrl, Int.toNat_natCast]
        refine for_range (lo := 0) (fun j σ' H' => ∃ y2 y3 y4 kvs, σ' = [some (.ref m), some (.ref hp), y2, y3, y4] ∧ Same H H' ∧ H' hp = some (.dK kvs) ∧ kvs.length ≤ 12 + k * 12 + j) ⟨y2, _, y4, kvs, rfl, s2, e2, hl⟩ ?_ ?_
        · rintro j σ' H3 hj ⟨y2, y3, y4, kvs, rfl, s3, e3, hl⟩
          obtain ⟨a, ha, har⟩ := paired_get hM.rows (List.getElem?_eq_getElem hj)
          have har3 := s3 _ _ har
          have hrow := ok.rows _ (List.getElem_mem hj)
          have h30 := ok.b30
          rw [show (0 + ((j : Nat) : Int)) = ((j : Nat) : Int) by omega]
          refine ⟨_, rfl, m, _, rfl, lm_steps (s3 _ _ hM.ob), _, rfl, sa, _, _, .ref a, rfl, rfl, SqL.of (s3 _ _ hM.steps), atI_nat (by rw [List.getElem?_map, ha]; rfl), a, rfl, ⟨_, SqT.of har3⟩, fun D hD => lc_tup (K := K) (xs := oVs M.steps[j]) (fun i H' => Same H3 H' ∧ ∃ NR : List Nat, H' D = some (.lst (nIs NR)) ∧ NR.length ≤ i) ⟨Same.new hD, [], upd_same, Nat.le_refl _⟩ (fun i H' _ h => SqT.of (h.1 _ _ har3)) ?_ ?_⟩
          · rintro i v H4 hv ⟨s4, NR, e4, hnl⟩
            rw [List.getElem?_map] at hv
            obtain ⟨o, ho, rfl⟩ := Option.map_eq_some_iff.mp hv
            have hil : i < M.steps[j].length := (List.getElem?_eq_some_iff.mp ho).1
            cases o with
            | none => exact ⟨rfl, _, rfl, rfl, _, rfl, iteF (iteF ⟨s4, NR, e4, by omega⟩)⟩
            | some x =>
              refine ⟨rfl, _, rfl, rfl, _, rfl, iteT ⟨_, rfl, _, rfl, hp, _, rfl, DGet.k (k := Sum.inl ((x : Nat) : Int)) (s4 _ _ e3), _, rfl, ite2 (fun _ => ?_) fun _ => ⟨s4, NR, e4, by omega⟩⟩⟩
              refine ⟨_, rfl, _, e4, by rw [nIs_len]; exact small_lt (by omega), Same.own s4 hD, NR ++ [x], ?_, by rw [List.length_append, List.length_singleton]; omega⟩
              rw [upd_same]
              exact congrArg (fun z => some (HO.lst z)) (nIs_snoc _ x)
          · rintro H4 ⟨s4, NR, e4, hnl⟩
            refine ⟨Nat.zero_le _, fun l hl2 => ?_⟩
            have n5 := Same.new (o := .lst []) hl2
            refine ne_lsts (ns := NR) (ms := []) (SqL.of (n5 _ _ e4)) (SqL.of upd_same) ⟨_, rfl, ite2 (fun _ => ?_) fun _ => ?_⟩
            · have e5 := n5 _ _ (s4 _ _ e3)
              refine ⟨_, rfl, _, rfl, hp, _, rfl, DPut.k (k := Sum.inl ((j : Nat) : Int)) e5 (small_lt (by omega)), ?_⟩
              exact ⟨_, _, _, _, rfl, Same.own ((s3.trans s4).trans n5) hhp, upd_same, Nat.le_trans (length_putK _ _ _) (by omega)⟩
            · exact ⟨_, _, _, kvs, rfl, (s3.trans s4).trans n5, n5 _ _ (s4 _ _ e3), by omega⟩
        · rintro σ' H3 ⟨y2, y3, y4, kvs, rfl, s3, e3, hl⟩
          exact ⟨_, _, _, kvs, rfl, s3, e3, by omega⟩
      · rintro σ' H2 ⟨y2, y3, y4, kvs, rfl, s2, e2, hl⟩
        exact ⟨_, rfl, fin _ hp kvs s2 hhp e2⟩
def spTaken (K : PySem.W.Frag) : Sp := fun vs H Q _ => ∃ t ca cs m M, vs = [.ref t, .ref m] ∧ Tape K H t ca cs ∧ LM (wo t H) m M ∧ M.Ok ∧ ∀ H' v, Same (wo t H) H' → Tape K H' t ca cs →
  (v = .non ∨ ∃ W s, v = .str (tx M.al W) ∧ (∀ x ∈ W, x < M.al.length) ∧ W.length ≤ 24 ∧ M.run (some M.start) W = some s ∧ s ∈ M.ends) → Q v H'
theorem ok_L_taken_text (T : Txt K mg) : DefOk P w K mg base 4 "_law_taken_text" ["_law_tape_here", "_law_machine_here"] (spTaken K) := by
  have D_L_draw := ok_L_draw (P := P) (w := w) (base := base) T
  have D_L_hopeful := ok_L_hopeful (P := P) (w := w) (base := base) T
  have D_L_pick := ok_L_pick (P := P) (w := w) (base := base) T
  refine mk_L_taken_text T (fun vs H Q E h => ?_) (fun f cdv A outer s H vs Q E hr h => ?_)
  · obtain ⟨t, ca, cs, m, M, rfl, _⟩ := h
    rfl
  · obtain ⟨t, ca, cs, m, M, rfl, hT, hLM, ok, fin⟩ := h
    refine ⟨_, (pss_cons (ps_st 2 sc_L_taken_text.nd (pe_def D_L_hopeful hr (pa_cons (pv 1) pa_nil)))
      (pss_cons (ps_st 3 sc_L_taken_text.nd (pe_dget (hu_of hr) (pv 1) pe_str (fun _ _ => rfl)))
      (pss_cons (ps_if (pt_cmp (pc_dnotin (hu_of hr) (pv 3) (pv 2))) (pss_one (ps_ret pe_non)) pss_nil)
      (pss_cons (ps_st 4 sc_L_taken_text.nd pe_str)
      (pss_cons (ps_st 5 sc_L_taken_text.nd (pe_def D_L_draw hr (pa_cons (pv 0) (pa_cons pe_int pa_nil))))
      (pss_cons (ps_for PassesOwn.never rfl (pi_range1 rfl T.b_range (pa_cons pe_int pa_nil)) (pg_n 6 sc_L_taken_text.nd)
        (pss_cons (ps_if (PW.pt (pw_and (pt_cmpR op_ge (pv 6) (pv 5) (nomark _)) (pw_and1 (pt_cmpR (inK (K := K)) (pv 3) (pe_dget (hu_of hr) (pv 1) pe_str (fun _ _ => rfl)) rfl)))) (pss_one (ps_ret (pv 4))) pss_nil)
        (pss_cons (ps_st 7 sc_L_taken_text.nd (pe_ix (ix_listK (K := K)) (pe_dget (hu_of hr) (pv 1) pe_str (fun _ _ => rfl)) (pv 3) (fun _ _ => rfl)))
        (pss_cons (ps_setLc (i := 8) (own := [("_law_at", 9)]) (g := (gName 9)) rfl sc_L_taken_text.nd rfl rfl (sw_true rfl rfl rfl (by decide +kernel)) (pi_range1 rfl T.b_range (pa_cons (pe_callB (lenK (K := K)) rfl T.b_len PySem.boot_len (pa_cons (pv 7) pa_nil)) pa_nil)) (blkOk_by (N := N_L_taken_text) (sc := defScope s_L_taken_text) (by decide +kernel)) (fun _ _ _ _ _ => (pg_n 9 sc_L_taken_text.nd)) (fun _ _ _ _ _ => (pts_one (PW.pt (pw_and (pt_cmpR op_notN (pe_ix (ix_tupK (K := K)) (pv 7) (pv 9) (fun _ _ => rfl)) pe_non (nomark _)) (pw_and1 (pt_cmp (pc_din (hu_of hr) (pe_ix (ix_tupK (K := K)) (pv 7) (pv 9) (fun _ _ => rfl)) (pv 2)))))))) (fun _ _ _ _ _ => (pv 9)))
        (pss_cons (ps_if (pt_cmpR (eqDK (K := K) hr.units) (pv 8) (pe_lst pa_nil) (nomark _)) (pss_one ps_break) pss_nil)
        (pss_cons (ps_st 9 sc_L_taken_text.nd (pe_def D_L_pick hr (pa_cons (pv 0) (pa_cons (pv 8) pa_nil))))
        (pss_cons (ps_st 4 sc_L_taken_text.nd (pe_op op_add_str (pv 4) (pe_ix ix_str (pe_dget (hu_of hr) (pv 1) pe_str (fun _ _ => rfl)) (pv 9) (fun _ _ => rfl))))
        (pss_one (ps_st 3 sc_L_taken_text.nd (pe_ix (ix_tupK (K := K)) (pv 7) (pv 9) (fun _ _ => rfl)))))))))))
      (pss_cons (ps_if (pt_cmpR (inK (K := K)) (pv 3) (pe_dget (hu_of hr) (pv 1) pe_str (fun _ _ => rfl)) rfl) (pss_one (ps_ret (pv 4))) pss_nil)
      (pss_one (ps_ret pe_non))))))))), ?_⟩
    have hB : wo t H t = none := wo_at
    obtain ⟨tk0, ht0⟩ := hT.dk
    refine ⟨_, rfl, m, M, rfl, hLM.same wo_le, ok, fun H1 hp kvs s1 hhp0 ehp => ?_⟩
    have hpt : hp ≠ t := (ne_of_none ht0 hhp0).symm
    have hT1 := hT.same s1
    have sB1 : Same (wo t H) H1 := wo_le.trans s1
    obtain ⟨ea, sa, rs, hM⟩ := hLM
    have hM1 := hM.same sB1
    have hrl : rs.length = M.steps.length := Paired.length hM.rows
    have ehpW : (wo t H1) hp = some (.dK kvs) := wo_some ehp hpt
    refine ⟨_, rfl, m, _, rfl, lm_start hM1.ob, ?_⟩
    refine ⟨_, rfl, _, rfl, hp, _, rfl, DGet.k (k := Sum.inl ((M.start : Nat) : Int)) ehp, _, rfl, ite2 (fun _ => fin _ _ sB1 hT1 (.inl rfl)) fun _ => ?_⟩
    refine ⟨_, rfl, t, ca, cs, 13, rfl, by decide, hT1, fun H2 b2 hT2 most hmost => ?_⟩
    refine ⟨_, rfl, by decide, by decide, for_range (lo := 0) (fun k σ' H' => ∃ y6 y7 y8 y9 s W, σ' = [some (.ref t), some (.ref m), some (.ref hp), some (nI s), some (.str (tx M.al W)), some (.int (most : Nat)), y6, y7, y8, y9] ∧ Same (wo t H1) H' ∧ Tape K H' t ca cs ∧ M.run (some M.start) W = some s ∧ (∀ x ∈ W, x < M.al.length) ∧ W.length = k)
      ⟨none, none, none, none, M.start, [], by rw [show tx M.al [] = ("" : Str) from empty_str.symm]; rfl, b2.wo, hT2, rfl, (fun x hx => nomatch hx), rfl⟩ ?_ ?_⟩
    · rintro k σ' H3 hk ⟨y6, y7, y8, y9, s, W, rfl, s3, hT3, hrun, hW, hWl⟩
      have hk : k < 24 := hk
      have sB3 : Same (wo t H) H3 := (wo_in sB1).trans s3
      have hM3 := hM.same sB3
      have hs : s < M.steps.length := MD.run_in ok W (some M.start) (fun s hs => by cases hs; exact ok.start) s hrun
      obtain ⟨a, ha, har⟩ := paired_get hM.rows (List.getElem?_eq_getElem hs)
      have har3 := sB3 _ _ har
      have hrow := ok.rows _ (List.getElem_mem hs)
      have h30 := ok.b30
      have ehp3 := s3 _ _ ehpW
      have rest : ∀ (N Bk : L2.St → Hp → Prop) (D : Ends), D.nx = N → D.bk = Bk → (∀ y7 y8 y9 s W H', Same (wo t H1) H' → Tape K H' t ca cs → M.run (some M.start) W = some s → (∀ x ∈ W, x < M.al.length) → W.length = k + 1 → N [some (.ref t), some (.ref m), some (.ref hp), some (nI s), some (.str (tx M.al W)), some (.int (most : Nat)), some (.int (0 + (k : Int))), y7, y8, y9] H') →
          (∀ y7 y8 H', Same (wo t H1) H' → Tape K H' t ca cs → Bk [some (.ref t), some (.ref m), some (.ref hp), some (nI s), some (.str (tx M.al W)), some (.int (most : Nat)), some (.int (0 + (k : Int))), y7, y8, y9] H') →
          tSeq (tAsg (tOp (rIxL K) (tDGet (tVar 1) (tC (V.str "steps"))) (tVar 3)) (gName 7))
            (tSeq (tAsg (tLc (iRng1 (tCons (tCB (rLenA K) (tCons (tVar 7) tNil)) tNil)) (gName 9) (tAnd (tTest (tOp (fun x y H Q => y = V.non ∧ Q (V.bl !decide (x = V.non)) H) (tOp (rIxT K) (tVar 7) (tVar 9)) (tC V.non))) (tB (tDIn (tOp (rIxT K) (tVar 7) (tVar 9)) (tVar 2)))) (tVar 9) (List.map (fun x => x.snd) [(("_law_at" : Str), 9)])) (gName 8))
            (tSeq (tIfS (tTest (tOp (rEqD K) (tVar 8) (tLst tNil))) tBreak tNext)
            (tSeq (tAsg (tCall (spPick K) [] E0 (tCons (tVar 0) (tCons (tVar 8) tNil))) (gName 9))
            (tSeq (tAsg (tOp (fun x y H Q => ∃ i j, x = V.str i ∧ y = V.str j ∧ i.length + j.length ≤ sizeLine ∧ Q (V.str (i ++ j)) H) (tVar 4) (tOp rIxS (tDGet (tVar 1) (tC (V.str "letters"))) (tVar 9))) (gName 4))
              (tAsg (tOp (rIxT K) (tVar 7) (tVar 9)) (gName 3))))))
            D [some (.ref t), some (.ref m), some (.ref hp), some (nI s), some (.str (tx M.al W)), some (.int (most : Nat)), some (.int (0 + (k : Int))), y7, y8, y9] H3 := by
        intro N Bk D hDn hDb hN hBk
        refine ⟨_, rfl, m, _, rfl, lm_steps hM3.ob, _, rfl, sa, _, _, .ref a, rfl, rfl, SqL.of hM3.steps, atI_nat (by rw [List.getElem?_map, ha]; rfl), ?_⟩
        refine ⟨_, rfl, a, _, rfl, .inr (SqT.of har3), _, rfl, by rw [List.length_map, hrow]; omega, by rw [List.length_map, hrow]; omega, fun P0 hP0 => ?_⟩
        rw [List.length_map, hrow, Int.toNat_natCast]
        refine lc_range (fun i H' => Same H3 H' ∧ ∃ NR : List Nat, H' P0 = some (.lst (nIs NR)) ∧ NR.length ≤ i ∧ ∀ x ∈ NR, ∃ u, M.steps[s][x]? = some (some u)) ⟨Same.new hP0, [], upd_same, Nat.le_refl _, fun x hx => nomatch hx⟩ ?_ ?_
        · rintro i H4 hi ⟨s4, NR, e4, hnl, hNR⟩
          have har4 := s4 _ _ har3
          have hiv : M.steps[s][i]? = some (M.steps[s][i]'(by omega)) := List.getElem?_eq_getElem (by omega)
          rw [show (0 + ((i : Nat) : Int)) = ((i : Nat) : Int) by omega]
          generalize (M.steps[s][i]'(by omega)) = o at hiv
          refine ⟨rfl, _, rfl, _, rfl, a, _, _, _, rfl, rfl, SqT.of har4, atI_nat (oVs_get hiv), ?_⟩
          cases o with
          | none => exact ⟨rfl, _, rfl, iteF (iteF ⟨s4, NR, e4, by omega, hNR⟩)⟩
          | some x =>
            refine ⟨rfl, _, rfl, iteT ⟨_, rfl, _, rfl, a, _, _, _, rfl, rfl, SqT.of har4, atI_nat (oVs_get hiv), _, rfl, hp, _, rfl, DGet.k (k := Sum.inl ((x : Nat) : Int)) (s4 _ _ ehp3), _, rfl, ite2 (fun _ => ?_) fun _ => ⟨s4, NR, e4, by omega, hNR⟩⟩⟩
            refine ⟨_, rfl, _, e4, by rw [nIs_len]; exact small_lt (by omega), Same.own s4 hP0, NR ++ [i], ?_, by rw [List.length_append, List.length_singleton]; omega, fun z hz => ?_⟩
            · rw [upd_same]
              exact congrArg (fun z => some (HO.lst z)) (nIs_snoc _ i)
            · rcases List.mem_append.mp hz with hz | hz
              · exact hNR z hz
              · rw [List.mem_singleton.mp hz]
                exact ⟨x, hiv⟩
        · rintro H4 ⟨s4, NR, e4, hnl, hNR⟩
          refine ⟨_, rfl, Nat.zero_le _, fun l5 hl5 => ?_⟩
          have n5 := Same.new (o := .lst []) hl5
          have s45 := s4.trans n5
          have e5 := n5 _ _ e4
          refine eq_lsts (ns := NR) (ms := []) (SqL.of e5) (SqL.of upd_same) ⟨_, rfl, ?_⟩
          generalize (upd H4 l5 (.lst [])) = H5 at n5 s45 e5
          have hT5 := hT3.same s45
          by_cases hne : NR = []
          · rw [decide_eq_true hne]
            refine iteT ?_
            show D.bk _ _
            rw [hDb]
            exact hBk _ _ _ (s3.trans s45) hT5
          · rw [decide_eq_false hne]
            refine iteF ?_
            refine ⟨_, rfl, _, rfl, t, ca, cs, P0, _, rfl, hT5, e5, by simpa using hne, by rw [nIs_len]; omega, fun H6 b6 hT6 v hv => ?_⟩
            obtain ⟨x, hx, rfl⟩ := List.mem_map.mp hv
            obtain ⟨u, hu⟩ := hNR x hx
            have hxl : x < M.al.length := by
              have := (List.getElem?_eq_some_iff.mp hu).1
              omega
            have s6 : Same (wo t H1) H6 := wo_but (s3.trans s45) wo_at b6
            have sB6 : Same (wo t H) H6 := (wo_in sB1).trans s6
            refine ⟨_, rfl, _, rfl, m, _, rfl, lm_letters (sB6 _ _ hM.ob), _, rfl, _, _, M.al.getD x 0, rfl, rfl, by rw [alS_len]; exact small_ok (by omega), atI_nat (by show M.al[x]? = _; exact getD_at hxl), _, _, rfl, rfl, by rw [tx_len]; exact small_ok (by show W.length + 1 ≤ _; omega), ?_⟩
            rw [← tx_one (getD_at hxl), ← tx_app]
            refine ⟨_, rfl, _, rfl, a, _, _, _, rfl, rfl, SqT.of (sB6 _ _ har), atI_nat (oVs_get hu), ?_⟩
            show D.nx _ _
            rw [hDn]
            refine hN _ _ _ u (W ++ [x]) _ s6 hT6 ?_ (fun z hz => ?_) (by rw [List.length_append, hWl]; rfl)
            · rw [MD.run_app, hrun]
              show M.step s x = some u
              unfold MD.step
              rw [List.getD_eq_getElem?_getD, List.getD_eq_getElem?_getD, List.getElem?_eq_getElem hs]
              simp only [Option.getD_some]
              rw [hu]
              rfl
            · rcases List.mem_append.mp hz with hz | hz
              · exact hW z hz
              · rw [List.mem_singleton.mp hz]
                exact hxl
      have ret : s ∈ M.ends → Q (.str (tx M.al W)) H3 := fun h => fin _ _ sB3 hT3 (.inr ⟨W, s, rfl, hW, by omega, hrun, h⟩)
      refine ⟨_, rfl, _, rfl, _, _, rfl, rfl, _, rfl, ite2 (fun _ => ⟨_, rfl, _, rfl, m, _, rfl, lm_ends hM3.ob, in_ints (.inl (SqL.of hM3.ends)) ⟨_, rfl, ite2 (fun h => ⟨_, rfl, ret (of_decide_eq_true h)⟩) fun _ => ?_⟩⟩) fun _ => iteF ?_⟩ <;> exact rest _ _ _ rfl rfl (fun y7 y8 y9 s' W' H' h1 h2 h3 h4 h5 => ⟨_, y7, y8, y9, s', W', rfl, h1, h2, h3, h4, h5⟩) (fun y7 y8 H' h1 h2 => by
        have sB4 : Same (wo t H) H' := (wo_in sB1).trans h1
        have hM4 := hM.same sB4
        exact ⟨_, rfl, _, rfl, m, _, rfl, lm_ends hM4.ob, in_ints (.inl (SqL.of hM4.ends)) ⟨_, rfl, ite2 (fun h => ⟨_, rfl, fin _ _ sB4 h2 (.inr ⟨W, s, rfl, hW, by omega, hrun, of_decide_eq_true h⟩)⟩) fun h => fin _ _ sB4 h2 (.inl rfl)⟩⟩)
    · rintro σ' H3 ⟨y6, y7, y8, y9, s, W, rfl, s3, hT3, hrun, hW, hWl⟩
      have sB3 : Same (wo t H) H3 := (wo_in sB1).trans s3
      have hM3 := hM.same sB3
      refine ⟨_, rfl, _, rfl, m, _, rfl, lm_ends hM3.ob, in_ints (.inl (SqL.of hM3.ends)) ⟨_, rfl, ite2 (fun h => ⟨_, rfl, fin _ _ sB3 hT3 (.inr ⟨W, s, rfl, hW, ?_, hrun, of_decide_eq_true h⟩)⟩) fun h => fin _ _ sB3 hT3 (.inl rfl)⟩⟩
      rw [hWl]
      exact Nat.le_refl _
end
end J

set_option Elab.async false
set_option linter.all false
set_option maxRecDepth 100000
set_option maxHeartbeats 4000000
/-! Walks of the law: rows that are led on; the law. -/
namespace J
open PySem PySem.Spec PyProof.Rows L2
/-- behind a piece, the rest of a row that ends well: the standing is live -/
theorem live_row {J : JD} {M : MD} : ∀ {S : List Nat} {p t s : Nat}, Chain J.al.length J.ps (p :: S) → (∀ x ∈ S, x < J.n) → M.run (some t) (flat J.al.length J.ps S) = some s → s ∈ M.ends → Live J M (some p, t)
  | [], p, t, s, _, _, hr, he => by
    have : t = s := Option.some.inj hr
    rw [this]
    exact .fin he
  | q :: S, p, t, s, hc, hx, hr, he => by
    rw [flat_cons, MD.run_app] at hr
    cases h : M.run (some t) (ex J.al.length J.ps q) with
    | none =>
      rw [h, MD.run_none] at hr
      cases hr
    | some t2 =>
      rw [h] at hr
      have hl := live_row (S := S) (p := q) (t := t2) hc.2 (fun x h => hx x (List.mem_cons_of_mem _ h)) hr he
      exact .step (e := (q, t2)) (nexts_mem.mpr ⟨hx q (List.mem_cons_self ..), sideB_iff.mpr hc.1, h⟩) hl
theorem chain_drop {b : Nat} {ps : List (Nat × Nat)} : ∀ {R : List Nat} (i : Nat), Chain b ps R → Chain b ps (R.drop i)
  | [], i, _ => by simp [Chain]
  | x :: R, 0, h => h
  | x :: R, i + 1, h => chain_drop (R := R) i h.tail
theorem chain_take {b : Nat} {ps : List (Nat × Nat)} : ∀ {R : List Nat} (i : Nat), Chain b ps R → Chain b ps (R.take i)
  | [], i, _ => by simp [Chain]
  | x :: R, 0, h => by simp [Chain]
  | [x], i + 1, h => by simp [Chain]
  | x :: y :: R, 1, h => by simp [Chain]
  | x :: y :: R, i + 2, h => by
    have := chain_take (R := y :: R) (i + 1) h.2
    exact ⟨h.1, this⟩
theorem chain_last {b : Nat} {ps : List (Nat × Nat)} : ∀ {R : List Nat} {p : Nat}, Chain b ps R → (∀ l, R.getLast? = some l → Side b ps l p) → Chain b ps (R ++ [p])
  | [], p, _, _ => trivial
  | [x], p, _, h => ⟨h x rfl, trivial⟩
  | x :: y :: R, p, hc, h => ⟨hc.1, chain_last (R := y :: R) hc.2 fun l hl => h l (by rw [List.getLast?_cons_cons]; exact hl)⟩
theorem mem_lets {J : JD} {M : MD} {R : List Nat} {x : Stn} (h : sOf J M R = some x) {p : Nat} : p ∈ letsOf J M R ↔ ∃ e, e ∈ nexts J M x ∧ e.1 = p ∧ Live J M (tgt e) := by
  unfold letsOf
  rw [h]
  show p ∈ ((nexts J M x).filter fun e => liveB J M (tgt e)).map (·.1) ↔ _
  constructor
  · intro hp
    obtain ⟨e, he, rfl⟩ := List.mem_map.mp hp
    obtain ⟨h1, h2⟩ := List.mem_filter.mp he
    exact ⟨e, h1, rfl, liveB_iff.mp h2⟩
  · rintro ⟨e, h1, rfl, h2⟩
    exact List.mem_map.mpr ⟨e, List.mem_filter.mpr ⟨h1, liveB_iff.mpr h2⟩, rfl⟩
theorem sOf_some {J : JD} {M : MD} {R : List Nat} {x : Stn} (h : sOf J M R = some x) : x.1 = R.getLast? ∧ M.run (some M.start) (flat J.al.length J.ps R) = some x.2 := by
  unfold sOf at h
  obtain ⟨s, hs, rfl⟩ := Option.map_eq_some_iff.mp h
  exact ⟨rfl, hs⟩
theorem sOf_of {J : JD} {M : MD} {R : List Nat} {s : Nat} (h : M.run (some M.start) (flat J.al.length J.ps R) = some s) : sOf J M R = some (R.getLast?, s) := by
  unfold sOf
  rw [h]
  rfl
/-- a step more -/
theorem row_snoc {J : JD} {M : MD} {R : List Nat} {x : Stn} (hR : RowOk J R) (hl : R.length < 2000) (h : sOf J M R = some x) {e : Nat × Nat} (he : e ∈ nexts J M x) : RowOk J (R ++ [e.1]) ∧ sOf J M (R ++ [e.1]) = some (tgt e) := by
  obtain ⟨h1, h2⟩ := sOf_some h
  obtain ⟨h3, h4, h5⟩ := nexts_mem.mp he
  refine ⟨⟨fun y hy => ?_, chain_last hR.ch fun l hl => ?_, by rw [List.length_append, List.length_singleton]; omega⟩, ?_⟩
  · rcases List.mem_append.mp hy with hy | hy
    · exact hR.lt y hy
    · rw [List.mem_singleton.mp hy]
      exact h3
  · rw [h1, hl] at h4
    exact sideB_iff.mp h4
  · have : M.run (some M.start) (flat J.al.length J.ps (R ++ [e.1])) = some e.2 := by
      rw [flat_app, MD.run_app, h2]
      show M.run (some x.2) (ex _ _ e.1 ++ []) = _
      rw [List.append_nil]
      exact h5
    rw [sOf_of this, List.getLast?_concat]
    rfl
section
variable {P : Program} {w : World} {K : PySem.W.Frag} {mg : Str → Option Value} {base : Heap}
theorem lets_len {J : JD} {M : MD} (ok : JM J M) (R : List Nat) : (letsOf J M R).length ≤ 90 := by
  have h1 := ok.j.b30
  have h2 := ok.j.p60
  have h3 : J.n ≤ 90 := by show J.al.length + J.ps.length ≤ 90; omega
  unfold letsOf
  cases sOf J M R with
  | none => exact Nat.zero_le _
  | some x =>
    show (((nexts J M x).filter _).map _).length ≤ 90
    rw [List.length_map]
    exact Nat.le_trans (List.length_filter_le _ _) (Nat.le_trans (nexts_len J M x) h3)
theorem join_row {J : JD} (R : List Nat) : Txt.join ("" : Str) (R.map fun x => tx J.al (ex J.al.length J.ps x)) = tx J.al (flat J.al.length J.ps R) := by
  have e : (R.map fun x => tx J.al (ex J.al.length J.ps x)) = (R.map (ex J.al.length J.ps)).map (tx J.al) := by rw [List.map_map]; rfl
  rw [e, join_tx]
  have e2 : (R.map (ex J.al.length J.ps)).flatMap id = flat J.al.length J.ps R := by
    unfold flat
    rw [List.flatMap_map]
    rfl
  rw [e2]
theorem join_sum {J : JD} (ok : J.Ok) : ∀ {S : List Nat}, (∀ x ∈ S, x < J.al.length + J.ps.length) → ((S.map fun x => tx J.al (ex J.al.length J.ps x)).map (·.length)).sum ≤ 40 * S.length
  | [], _ => Nat.le_refl _
  | x :: S, h => by
    have h1 := ok.short x (h x (List.mem_cons_self ..))
    have h2 := join_sum ok (S := S) fun y hy => h y (List.mem_cons_of_mem _ hy)
    rw [List.map_cons, List.map_cons, List.sum_cons, List.length_cons, tx_len]
    omega
def spLed (P : Program) (w : World) (K : PySem.W.Frag) : Sp := fun vs H Q _ => ∃ t ca cs a J M, vs = [.ref t, .ref a] ∧ Tape K H t ca cs ∧ WIs P w K (wo t H) a J M ∧ JM J M ∧ ∀ H', Same (wo t H) H' → Tape K H' t ca cs → Q (.bl true) H'
theorem ok_L_led (T : Txt K mg) : DefOk P w K mg base 12 "_law_led" ["_law_tape_here", "_law_world_here"] (spLed P w K) := by
  have D_L_after := ok_L_after (P := P) (w := w) (base := base) T
  have D_L_choices := ok_L_choices (P := P) (w := w) (base := base) T
  have D_L_cut := ok_L_cut (P := P) (w := w) (base := base) T
  have D_L_draw := ok_L_draw (P := P) (w := w) (base := base) T
  have D_L_lets := ok_L_lets (P := P) (w := w) (base := base) T
  have D_L_pick := ok_L_pick (P := P) (w := w) (base := base) T
  have D_L_same := ok_L_same (P := P) (w := w) (base := base) T
  have D_lets := ok_lets (P := P) (w := w) (base := base) T
  have D_may_end := ok_may_end (P := P) (w := w) (base := base) T
  have D_shortest_end := ok_shortest_end (P := P) (w := w) (base := base) T
  refine mk_L_led T (fun vs H Q E h => ?_) (fun f cdv A outer s H vs Q E hr h => ?_)
  · obtain ⟨t, ca, cs, a, J, M, rfl, _⟩ := h
    rfl
  · obtain ⟨t, ca, cs, a, J, M, rfl, hT, hW, ok, fin⟩ := h
    refine ⟨_, (pss_cons (ps_st 2 sc_L_led.nd (pe_dget (hu_of hr) (pv 1) pe_str (fun _ _ => rfl)))
      (pss_cons (ps_st 3 sc_L_led.nd (pe_dget (hu_of hr) (pv 1) pe_str (fun _ _ => rfl)))
      (pss_cons (ps_st 4 sc_L_led.nd (pe_lst pa_nil))
      (pss_cons (ps_for PassesOwn.never rfl (pi_range1 rfl T.b_range (pa_cons (pe_def D_L_draw hr (pa_cons (pv 0) (pa_cons pe_int pa_nil))) pa_nil)) (pg_n 5 sc_L_led.nd)
        (pss_cons (ps_st 6 sc_L_led.nd (pe_def D_lets hr (pa_cons (pv 2) (pa_cons (pv 3) (pa_cons (pe_callTy (tupK (K := K)) rfl T.b_tuple (by decide +kernel) (pa_cons (pv 4) pa_nil)) pa_nil)))))
        (pss_cons (ps_if (pt_not (pt_val (pe_def D_L_same hr (pa_cons (pv 6) (pa_cons (pe_callTy (tupK (K := K)) rfl T.b_tuple (by decide +kernel) (pa_cons (pe_def D_L_lets hr (pa_cons (pv 1) (pa_cons (pv 4) pa_nil))) pa_nil)) pa_nil))))) (pss_one (ps_ret pe_bl)) pss_nil)
        (pss_cons (ps_if (pt_cmpR (eqDK (K := K) hr.units) (pv 6) (pe_tup pa_nil) (nomark _)) (pss_cons (ps_st 7 sc_L_led.nd (pe_ix (ix_listK (K := K)) (pe_lst (pa_cons pe_non (pa_cons (pe_tup pa_nil) pa_nil))) (pe_callTy call_int1 rfl T.b_int (by decide +kernel) (pa_cons (pe_cmpR (inK (K := K)) (pe_ix (ix_tupK (K := K)) (pe_def D_L_choices hr (pa_cons (pv 1) (pa_cons (pv 4) pa_nil))) pe_int (fun _ _ => rfl)) (pe_dget (hu_of hr) (pe_dget (hu_of hr) (pv 1) pe_str (fun _ _ => rfl)) pe_str (fun _ _ => rfl)) rfl) pa_nil)) (fun _ _ => rfl)))
          (pss_one (ps_ret (pe_def D_L_same hr (pa_cons (pe_def D_shortest_end hr (pa_cons (pv 2) (pa_cons (pv 3) (pa_cons (pe_callTy (tupK (K := K)) rfl T.b_tuple (by decide +kernel) (pa_cons (pv 4) pa_nil)) pa_nil)))) (pa_cons (pv 7) pa_nil)))))) pss_nil)
        (pss_cons (ps_st 8 sc_L_led.nd (pe_def D_L_pick hr (pa_cons (pv 0) (pa_cons (pe_callTy (listK (K := K)) rfl T.b_list (by decide +kernel) (pa_cons (pv 6) pa_nil)) pa_nil))))
        (pss_cons (ps_expr (bmK (K := K) PySem.F.plainAttrs_list PySem.F.slot_list_append PySem.F.type_list_append mt_append (pv 4) (pa_cons (pv 8) pa_nil)))
        (pss_cons (ps_st 9 sc_L_led.nd (pe_def D_shortest_end hr (pa_cons (pv 2) (pa_cons (pv 3) (pa_cons (pe_callTy (listK (K := K)) rfl T.b_list (by decide +kernel) (pa_cons (pv 4) pa_nil)) pa_nil)))))
        (pss_cons (ps_if (PW.pt (pw_or (pt_not (pt_val (pe_callB (isiK (K := K)) rfl T.b_isinstance (by decide +kernel) (pa_cons (pv 9) (pa_cons (pe_bltn (v := .ty "tuple") rfl T.b_tuple (by decide +kernel) rfl) pa_nil))))) (pw_or1 (pt_cmpR op_gt (pe_callB (lenK (K := K)) rfl T.b_len PySem.boot_len (pa_cons (pv 9) pa_nil)) (pe_callB (lenPdK (P := P) (w := w)) rfl T.b_len PySem.boot_len (pa_cons (pe_dget (hu_of hr) (pv 1) pe_str (fun _ _ => rfl)) pa_nil)) (nomark _))))) (pss_one (ps_ret pe_bl)) pss_nil)
        (pss_cons (ps_if (pt_cmpR (neDK (K := K) hr.units) (pe_lc (own := [("_law_other", 12)]) (g := (gName 12)) rfl sc_L_led.nd (pi_tup (pv 9)) (blkOk_by (N := N_L_led) (sc := defScope s_L_led) (by decide +kernel)) (fun _ _ _ _ _ => (pg_n 12 sc_L_led.nd)) (fun _ _ _ _ _ => (pts_one (PW.pt (pw_or (pt_val (pe_callB (isiK (K := K)) rfl T.b_isinstance (by decide +kernel) (pa_cons (pv 12) (pa_cons (pe_bltn (v := .ty "bool") rfl T.b_bool (by decide +kernel) rfl) pa_nil)))) (pw_or1 (pt_not (pt_val (pe_callB (isiK (K := K)) rfl T.b_isinstance (by decide +kernel) (pa_cons (pv 12) (pa_cons (pe_bltn (v := .ty "int") rfl T.b_int (by decide +kernel) rfl) pa_nil)))))))))) (fun _ _ _ _ _ => (pv 12))) (pe_lst pa_nil) (nomark _)) (pss_one (ps_ret pe_bl)) pss_nil)
        (pss_cons (ps_st 10 sc_L_led.nd (pe_op op_cat (pv 4) (pe_callTy (listK (K := K)) rfl T.b_list (by decide +kernel) (pa_cons (pv 9) pa_nil))))
        (pss_cons (ps_if (pt_cmpR (neDK (K := K) hr.units) (pe_lc (own := [("_law_other", 12)]) (g := (gName 12)) rfl sc_L_led.nd (pi_tup (pv 9)) (blkOk_by (N := N_L_led) (sc := defScope s_L_led) (by decide +kernel)) (fun _ _ _ _ _ => (pg_n 12 sc_L_led.nd)) (fun _ _ _ _ _ => (pts_one (PW.pt (pw_or (pt_cmpR op_lt (pv 12) pe_int (nomark _)) (pw_or1 (pt_cmpR op_ge (pv 12) (pe_callB (lenK (K := K)) rfl T.b_len PySem.boot_len (pa_cons (pe_dget (hu_of hr) (pv 1) pe_str (fun _ _ => rfl)) pa_nil)) (nomark _))))))) (fun _ _ _ _ _ => (pv 12))) (pe_lst pa_nil) (nomark _)) (pss_one (ps_ret pe_bl)) pss_nil)
        (pss_cons (ps_st 11 sc_L_led.nd (pe_join pe_str (pe_lc (own := [("_law_other", 12)]) (g := (gName 12)) (tt := tYes) rfl sc_L_led.nd (pi_list (pv 10)) (blkOk_by (N := N_L_led) (sc := defScope s_L_led) (by decide +kernel)) (fun _ _ _ _ _ => (pg_n 12 sc_L_led.nd)) (fun _ _ _ _ _ => pts_nil) (fun _ _ _ _ _ => (pe_ix (ix_listK (K := K)) (pe_dget (hu_of hr) (pe_dget (hu_of hr) (pv 1) pe_str (fun _ _ => rfl)) pe_str (fun _ _ => rfl)) (pv 12) (fun _ _ => rfl))))))
        (pss_cons (ps_if (pt_cmpR (neDK (K := K) hr.units) (pe_def D_L_cut hr (pa_cons (pe_dget (hu_of hr) (pv 1) pe_str (fun _ _ => rfl)) (pa_cons (pv 11) pa_nil))) (pv 10) (nomark _)) (pss_one (ps_ret pe_bl)) pss_nil)
        (pss_cons (ps_if (pt_cmpR (notInK (K := K)) (pe_def D_L_after hr (pa_cons (pe_dget (hu_of hr) (pv 1) pe_str (fun _ _ => rfl)) (pa_cons (pe_dget (hu_of hr) (pe_dget (hu_of hr) (pv 1) pe_str (fun _ _ => rfl)) pe_str (fun _ _ => rfl)) (pa_cons (pv 11) pa_nil)))) (pe_dget (hu_of hr) (pe_dget (hu_of hr) (pv 1) pe_str (fun _ _ => rfl)) pe_str (fun _ _ => rfl)) rfl) (pss_one (ps_ret pe_bl)) pss_nil)
        (pss_one (ps_if (pt_cmpR op_notBl (pe_def D_may_end hr (pa_cons (pv 2) (pa_cons (pv 3) (pa_cons (pe_callTy (listK (K := K)) rfl T.b_list (by decide +kernel) (pa_cons (pv 10) pa_nil)) pa_nil)))) pe_bl (nomark _)) (pss_one (ps_ret pe_bl)) pss_nil))))))))))))))))
      (pss_one (ps_ret pe_bl)))))), ?_⟩
    obtain ⟨ja, ma, sa, fa, da, la, qa, frs, srs, FL, hA⟩ := hW
    obtain ⟨mea, msa, mrs, hM⟩ := id hA.machine
    have hB : wo t H t = none := wo_at
    obtain ⟨tk0, ht0⟩ := hT.dk
    have hfl : frs.length = J.n := by
      rw [Paired.length hA.frows]
      show ((List.range J.n).map _).length = _
      rw [List.length_map, List.length_range]
    have hAH := hA.same wo_le
    refine ⟨_, rfl, a, _, rfl, lw_list hAH.ob, ?_⟩
    refine ⟨_, rfl, a, _, rfl, lw_made hAH.ob, ?_⟩
    refine ⟨Nat.zero_le _, fun rl hrl => ?_⟩
    have brl : wo t H rl = none := wo_le.free hrl
    have hrt : rl ≠ t := (ne_of_none ht0 hrl).symm
    have n0 := Same.new (o := .lst []) hrl
    have e0 : (upd H rl (.lst [])) rl = some (.lst (nIs [])) := upd_same
    have hT0 := hT.same n0
    have sB0 : Same (wo t H) (upd H rl (.lst [])) := wo_le.trans n0
    generalize (upd H rl (.lst [])) = H0 at n0 e0 hT0 sB0
    refine ⟨_, rfl, t, ca, cs, 9, rfl, by decide, hT0, fun H1 b1 hT1 nt hnt => ?_⟩
    have hx0 : sOf J M [] = some (none, M.start) := sOf_of (R := []) rfl
    refine ⟨_, rfl, by omega, by omega, for_range (lo := 0) (fun k σ' H' => ∃ y5 y6 y7 y8 y9 y10 y11 y12 R x, σ' = [some (.ref t), some (.ref a), some (.ref la), some (.ref qa), some (.ref rl), y5, y6, y7, y8, y9, y10, y11, y12] ∧ Same (wo t H) H' ∧ Tape K H' t ca cs ∧ H' rl = some (.lst (nIs R)) ∧ RowOk J R ∧ R.length ≤ k ∧ sOf J M R = some x)
      ⟨none, none, none, none, none, none, none, none, [], _, rfl, wo_but sB0 hB b1, hT1, (b1 rl hrt).trans e0, ⟨(fun x hx => nomatch hx), trivial, Nat.zero_le _⟩, Nat.le_refl _, hx0⟩ ?_ ?_⟩
    · rintro k σ' H1 hk ⟨y5, y6, y7, y8, y9, y10, y11, y12, R, x, rfl, sB1, hT1, eR, hR, hRl, hx⟩
      rw [Int.toNat_natCast] at hk
      have hxs := sOf_some hx
      have hxv := sOf_vd ok hR hx
      -- told
      refine ⟨_, rfl, _, rfl, _, rfl, rl, _, rfl, .inl ⟨SqL.of eR, fun tr htr => ?_⟩⟩
      have n2 := Same.new (o := .tup (nIs R)) htr
      have etr : (upd H1 tr (.tup (nIs R))) tr = some (.tup (nIs R)) := upd_same
      generalize (upd H1 tr (.tup (nIs R))) = H2 at n2 etr
      have hA2 := hA.same (sB1.trans n2)
      refine ⟨la, qa, tr, J, M, R, rfl, hA2.list, hA2.made, ok, .inr (SqT.of etr), hR, fun H3 td s3 htd => ?_⟩
      have s13 := n2.trans s3
      have hA3 := hA.same (sB1.trans s13)
      -- the same as the law's
      refine ⟨_, rfl, _, rfl, _, rfl, a, rl, J, M, R, rfl, ⟨ja, ma, sa, fa, da, la, qa, frs, srs, FL, hA3⟩, ok, s13 _ _ eR, hR.lt, fun H4 ll s4 hll => ⟨ll, _, rfl, .inl ⟨SqL.of hll, fun tl htl => ?_⟩⟩⟩
      have n5 := Same.new (o := .tup (nIs (letsOf J M R))) htl
      have etl : (upd H4 tl (.tup (nIs (letsOf J M R)))) tl = some (.tup (nIs (letsOf J M R))) := upd_same
      have s15 := s13.trans (s4.trans n5)
      have etd5 := n5 _ _ (s4 _ _ htd)
      generalize (upd H4 tl (.tup (nIs (letsOf J M R)))) = H5 at n5 etl s15 etd5
      have hll90 := lets_len ok R
      refine ⟨.inl ⟨td, tl, letsOf J M R, rfl, etd5, etl, by omega⟩, _, rfl, iteF ?_⟩
      -- if told == ()
      refine ⟨_, rfl, Nat.zero_le _, fun te hte => ?_⟩
      have n6 := Same.new (o := .tup []) hte
      have s16 := s15.trans n6
      have etd6 := n6 _ _ etd5
      refine eq_tups (ns := letsOf J M R) (ms := []) etd6 upd_same ⟨_, rfl, ?_⟩
      generalize (upd H5 te (.tup [])) = H6 at n6 s16 etd6
      have hA6 := hA.same (sB1.trans s16)
      have eR6 := s16 _ _ eR
      have hT6 := hT1.same s16
      have nolive : letsOf J M R = [] → ∀ e, e ∈ nexts J M x → Live J M (tgt e) → False := fun hemp e he hl => by
        have := (mem_lets hx (p := e.1)).mpr ⟨e, he, rfl, hl⟩
        rw [hemp] at this
        exact nomatch this
      by_cases hemp : letsOf J M R = []
      · rw [decide_eq_true hemp]
        refine iteT ?_
        -- due
        refine ⟨Nat.zero_le _, fun tu htu => ⟨two_ok, fun dl hdl => ?_⟩⟩
        have n7 := Same.new (o := .tup []) htu
        have n8 := Same.new (o := .lst [V.non, V.ref tu]) hdl
        have etu := n8 _ _ (show (upd H6 tu (.tup [])) tu = some (.tup []) from upd_same)
        have edl : (upd (upd H6 tu (.tup [])) dl (.lst [V.non, V.ref tu])) dl = some (.lst [V.non, V.ref tu]) := upd_same
        have s18 := (s16.trans n7).trans n8
        generalize (upd (upd H6 tu (.tup [])) dl (.lst [V.non, V.ref tu])) = H8 at n8 etu edl s18
        have hA8 := hA.same (sB1.trans s18)
        refine ⟨_, rfl, _, rfl, a, rl, J, M, R, rfl, ⟨ja, ma, sa, fa, da, la, qa, frs, srs, FL, hA8⟩, ok, s18 _ _ eR, hR.lt, fun H9 tc l9 s9 htc hl9 => ?_⟩
        rw [hxs.2] at htc
        have s19 := s18.trans s9
        have hA9 := hA.same (sB1.trans s19)
        have hM9 := hM.same (sB1.trans s19)
        refine ⟨tc, _, _, nI x.2, rfl, rfl, SqT.of htc, atI_nat (j := 1) rfl, _, rfl, a, _, rfl, lw_machine hA9.ob, ma, _, rfl, lm_ends hM9.ob, in_ints (.inl (SqL.of hM9.ends)) (.inr ⟨_, rfl, ?_⟩)⟩
        -- the end of it
        have endp : ∀ (due : V), (x.2 ∈ M.ends → due = .ref tu) → (¬ x.2 ∈ M.ends → due = .non) → ∀ D : Ends, D.rt = Q →
            tRet (tCall spSame [] E0 (tCons (tCall (spShort P w K) [] E0 (tCons (tVar 2) (tCons (tVar 3) (tCons (tCB (rTupOf K) (tCons (tVar 4) tNil)) tNil)))) (tCons (tVar 7) tNil))) D [some (.ref t), some (.ref a), some (.ref la), some (.ref qa), some (.ref rl), some (.int (0 + (k : Int))), some (.ref td), some due, y8, y9, y10, y11, y12] H9 := by
          intro due hd1 hd2 D hD
          refine ⟨_, rfl, _, rfl, _, rfl, rl, _, rfl, .inl ⟨SqL.of (s19 _ _ eR), fun tr2 htr2 => ?_⟩⟩
          have n10 := Same.new (o := .tup (nIs R)) htr2
          have etr2 : (upd H9 tr2 (.tup (nIs R))) tr2 = some (.tup (nIs R)) := upd_same
          generalize (upd H9 tr2 (.tup (nIs R))) = H10 at n10 etr2
          have hA10 := hA.same (sB1.trans (s19.trans n10))
          refine ⟨la, qa, tr2, J, M, R, rfl, hA10.list, hA10.made, ok, .inr (SqT.of etr2), hR, fun H11 v s11 hsh => ⟨_, rfl, ?_⟩⟩
          have sF := (s19.trans n10).trans s11
          have hq : Q (.bl true) H11 := fin H11 (sB1.trans sF) (hT1.same sF)
          rw [hx] at hsh
          show spSame [v, due] H11 D.rt E0
          rw [hD]
          rcases hsh with ⟨rfl, hno⟩ | ⟨x', rt, es, hx', rfl, hrt, hway, hend, hnd⟩
          · have hne : ¬ x.2 ∈ M.ends := fun h => hno x rfl (.fin h)
            rw [hd2 hne]
            exact ⟨.inr rfl, hq⟩
          · cases hx'
            cases es with
            | nil =>
              rw [hd1 hend]
              exact ⟨.inl ⟨rt, tu, [], rfl, hrt, s11 _ _ (n10 _ _ (s9 _ _ etu)), Nat.zero_le _⟩, hq⟩
            | cons e es =>
              exact absurd ((way_live hway hend).2 e (List.mem_cons_self ..)) fun hl => nolive hemp e hway.1 hl
        have edl9 := s9 _ _ edl
        by_cases hend : x.2 ∈ M.ends
        · refine ⟨dl, _, (1 : Nat), .ref tu, rfl, by rw [decide_eq_true hend]; rfl, SqL.of edl9, atI_nat (j := 1) rfl, ?_⟩
          exact endp (.ref tu) (fun _ => rfl) (fun h => absurd hend h) _ rfl
        · refine ⟨dl, _, (0 : Nat), .non, rfl, by rw [decide_eq_false hend]; rfl, SqL.of edl9, atI_nat (j := 0) rfl, ?_⟩
          exact endp .non (fun h => absurd h hend) (fun _ => rfl) _ rfl
      · rw [decide_eq_false hemp]
        refine iteF ?_
        -- piece
        refine ⟨_, rfl, _, rfl, td, _, rfl, .inr (SqT.of etd6), fun lp hlp => ?_⟩
        have n7 := Same.new (o := .lst (nIs (letsOf J M R))) hlp
        refine ⟨t, ca, cs, lp, nIs (letsOf J M R), rfl, hT6.same n7, upd_same, by simpa using hemp, by rw [nIs_len]; omega, fun H8 b8 hT8 v hv => ?_⟩
        obtain ⟨pc, hpc, rfl⟩ := List.mem_map.mp hv
        obtain ⟨e, he, hep, hlive⟩ := (mem_lets hx).mp hpc
        have sB8 : Same (wo t H) H8 := wo_but ((sB1.trans s16).trans n7) hB b8
        have eR8 := (b8 rl hrt).trans (n7 _ _ eR6)
        -- row.append(piece)
        refine ⟨_, rfl, .inl ⟨rfl, _, SqL.of eR8⟩, _, rfl, rl, _, _, rfl, rfl, eR8, by rw [nIs_len]; exact small_lt (by omega), ?_⟩
        obtain ⟨hR2, hx2⟩ := row_snoc hR (by omega) hx he
        rw [hep] at hR2 hx2
        rw [nIs_snoc]
        have hR2l : (R ++ [pc]).length ≤ k + 1 := by rw [List.length_append, List.length_singleton]; omega
        have sB9 := Same.own (o := .lst (nIs (R ++ [pc]))) sB8 brl
        have hT9 := hT.mv hT8 sB9 (upd_ne (Ne.symm hrt))
        have eR9 : (upd H8 rl (.lst (nIs (R ++ [pc])))) rl = some (.lst (nIs (R ++ [pc]))) := upd_same
        have htg : tgt e = (some pc, e.2) := by unfold tgt; rw [hep]
        have hchR2 := hR2.ch
        generalize hRR : R ++ [pc] = R2 at hR2 hx2 hR2l sB9 hT9 eR9 hchR2
        generalize (upd H8 rl (.lst (nIs R2))) = H9 at sB9 hT9 eR9
        -- rest
        refine ⟨_, rfl, _, rfl, _, rfl, rl, _, rfl, .inl (SqL.of eR9), fun lr hlr => ?_⟩
        have n10 := Same.new (o := .lst (nIs R2)) hlr
        have elr : (upd H9 lr (.lst (nIs R2))) lr = some (.lst (nIs R2)) := upd_same
        generalize (upd H9 lr (.lst (nIs R2))) = H10 at n10 elr
        have hA10 := hA.same (sB9.trans n10)
        refine ⟨la, qa, lr, J, M, R2, rfl, hA10.list, hA10.made, ok, .inl (SqL.of elr), hR2, fun H11 v s11 hsh => ?_⟩
        have s911 := n10.trans s11
        rw [hx2] at hsh
        rcases hsh with ⟨_, hno⟩ | ⟨x', rt, es, hx', rfl, hrt2, hway, hend, hnd⟩
        · exact absurd hlive (hno _ rfl)
        cases hx'
        have hA11 := hA.same (sB9.trans s911)
        have hesn : ∀ p ∈ es.map (·.1), p < J.n := way_in hway
        have hwl := way_live hway hend
        have hesl : es.length ≤ FL.length := by
          have h1 := nodup_len (m := FL.map (·.1)) hnd fun y hy => by
            obtain ⟨c, hc, rfl⟩ := List.mem_map.mp hy
            refine (hA.fin _).mpr ⟨c.1, c.2, rfl, hesn c.1 (List.mem_map.mpr ⟨c, hc, rfl⟩), ?_, hwl.2 c hc⟩
            have gen : ∀ {es : List (Nat × Nat)} {y : Stn}, Vd J M y → Way J M y es → ∀ c ∈ es, c.2 < M.steps.length := by
              intro es
              induction es with
              | nil => exact fun _ _ c hc => nomatch hc
              | cons d es ih =>
                intro y hy hw c hc
                have hv := nexts_vd ok.m hy hw.1
                rcases List.mem_cons.mp hc with h | h
                · rw [h]
                  exact hv.2
                · exact ih hv hw.2 c h
            exact gen (nexts_vd ok.m hxv he) hway c hc
          rw [List.length_map, List.length_map] at h1
          exact h1
        have hFLl : FL.length ≤ 1092 := by
          have := Nat.le_trans (stn_le (J := J) (M := M) hA.fnd fun y hy => by
            obtain ⟨p, s, rfl, hp, hs, _⟩ := (hA.fin y).mp hy
            exact ⟨fun l hl => by cases hl; exact hp, hs⟩) (univ_le ok.j ok.m)
          rw [List.length_map] at this
          exact this
        -- isinstance(rest, tuple), len(rest) > len(far)
        refine ⟨_, rfl, _, .ty "tuple", .type "tuple", .type "tuple", true, rfl, .ty "tuple", .base (.tup hrt2), kit_ty (by decide +kernel), true, rfl, iteF ?_⟩
        refine ⟨_, rfl, rt, _, rfl, .inr (SqT.of hrt2), _, rfl, a, _, rfl, lw_far hA11.ob, da, _, rfl, hA11.far, _, _, rfl, rfl, _, rfl, ?_⟩
        rw [nIs_len, List.length_map, sd_len, decide_eq_false (by omega)]
        refine iteF ?_
        -- ints
        refine ⟨_, rfl, rt, rfl, ⟨_, SqT.of hrt2⟩, fun D hD => lc_tup (K := K) (xs := nIs (es.map (·.1))) (fun i H' => Same H11 H' ∧ H' D = some (.lst (nIs []))) ⟨Same.new hD, upd_same⟩ (fun i H' _ h => SqT.of (h.1 _ _ hrt2)) ?_ ?_⟩
        · rintro i v H12 hv ⟨s12, e12⟩
          obtain ⟨z, hz, rfl⟩ := nIs_get' hv
          exact ⟨rfl, _, rfl, _, .ty "bool", .type "int", .type "bool", false, rfl, .ty "bool", .base (.int _), kit_ty (by decide +kernel), false, rfl, iteF ⟨_, rfl, _, .ty "int", .type "int", .type "int", true, rfl, .ty "int", .base (.int _), kit_ty (by decide +kernel), true, rfl, iteF ⟨s12, e12⟩⟩⟩
        rintro H12 ⟨s12, e12⟩
        refine ⟨Nat.zero_le _, fun l13 hl13 => ?_⟩
        have n13 := Same.new (o := .lst []) hl13
        refine ne_lsts (ns := []) (ms := []) (SqL.of (n13 _ _ e12)) (SqL.of upd_same) ⟨_, rfl, iteF ?_⟩
        have s913 := s911.trans (s12.trans n13)
        have s1113 := s12.trans n13
        generalize (upd H12 l13 (.lst [])) = H13 at n13 s913 s1113
        have hrt13 := s1113 _ _ hrt2
        have hwl2 : (es.map (·.1)).length ≤ 1092 := by rw [List.length_map]; omega
        -- whole
        refine ⟨_, rfl, _, rfl, rt, _, rfl, .inr (SqT.of hrt13), fun l14 hl14 => ?_⟩
        have n14 := Same.new (o := .lst (nIs (es.map (·.1)))) hl14
        refine ⟨rl, l14, _, _, rfl, rfl, n14 _ _ (s913 _ _ eR9), upd_same, by rw [nIs_len, nIs_len]; exact small_ok (by omega), fun wl hwl3 => ?_⟩
        have happ : nIs R2 ++ nIs (es.map (·.1)) = nIs (R2 ++ es.map (·.1)) := (List.map_append ..).symm
        rw [happ]
        have n15 := Same.new (o := .lst (nIs (R2 ++ es.map (·.1)))) hwl3
        have ewl := (show (upd (upd H13 l14 (.lst (nIs (es.map (·.1))))) wl (.lst (nIs (R2 ++ es.map (·.1))))) wl = some (.lst (nIs (R2 ++ es.map (·.1)))) from upd_same)
        have s915 := s913.trans (n14.trans n15)
        have hrt15 := (n14.trans n15) _ _ hrt13
        generalize (upd (upd H13 l14 (.lst (nIs (es.map (·.1))))) wl (.lst (nIs (R2 ++ es.map (·.1))))) = H15 at n15 ewl s915 hrt15
        have hA15 := hA.same (sB9.trans s915)
        -- the whole row
        have hWn : ∀ y ∈ R2 ++ es.map (·.1), y < J.al.length + J.ps.length := fun y hy => by
          rcases List.mem_append.mp hy with h | h
          · exact hR2.lt y h
          · exact hesn y h
        have hWch : Chain J.al.length J.ps (R2 ++ es.map (·.1)) := by
          rw [htg] at hway
          have h1 := way_chain hway
          rw [← hRR]
          rw [← hRR] at hchR2
          have := chain_app hchR2 h1
          rw [List.append_assoc]
          exact this
        have hWl : (R2 ++ es.map (·.1)).length ≤ 1200 := by rw [List.length_append]; omega
        have hWok : RowOk J (R2 ++ es.map (·.1)) := ⟨hWn, hWch, by omega⟩
        have hWrun : M.run (some M.start) (flat J.al.length J.ps (R2 ++ es.map (·.1))) = some (wend (tgt e) es).2 := by
          rw [flat_app, MD.run_app, (sOf_some hx2).2]
          exact way_run hway
        have hcut := ok.j.prop.cut_row hWn hWch
        have hflin := ok.j.prop.flat_in hWn
        have hfll := flat_len ok.j hWn
        -- in range
        refine ⟨_, rfl, rt, rfl, ⟨_, SqT.of hrt15⟩, fun D hD => lc_tup (K := K) (xs := nIs (es.map (·.1))) (fun i H' => Same H15 H' ∧ H' D = some (.lst (nIs []))) ⟨Same.new hD, upd_same⟩ (fun i H' _ h => SqT.of (h.1 _ _ hrt15)) ?_ ?_⟩
        · rintro i v H16 hv ⟨s16, e16⟩
          obtain ⟨z, hz, rfl⟩ := nIs_get' hv
          have hzn := hesn z (List.mem_of_getElem? hz)
          have hA16 := hA15.same s16
          refine ⟨rfl, _, rfl, _, _, rfl, rfl, _, rfl, ?_⟩
          rw [decide_eq_false (by omega)]
          refine iteF ⟨_, rfl, _, rfl, a, _, rfl, lw_follow hA16.ob, fa, _, rfl, .inl (SqL.of hA16.follow), _, _, rfl, rfl, _, rfl, ?_⟩
          rw [List.length_map, hfl, decide_eq_false (by omega)]
          exact iteF ⟨s16, e16⟩
        rintro H16 ⟨s16, e16⟩
        refine ⟨Nat.zero_le _, fun l17 hl17 => ?_⟩
        have n17 := Same.new (o := .lst []) hl17
        refine ne_lsts (ns := []) (ms := []) (SqL.of (n17 _ _ e16)) (SqL.of upd_same) ⟨_, rfl, iteF ?_⟩
        have s1517 := s16.trans n17
        generalize (upd H16 l17 (.lst [])) = H17 at n17 s1517
        have hA17 := hA15.same s1517
        have ewl17 := s1517 _ _ ewl
        -- text
        refine ⟨⟨_, rfl⟩, _, rfl, wl, rfl, ⟨_, SqL.of ewl17⟩, fun D hD => lc_list (K := K) (xs := nIs (R2 ++ es.map (·.1))) (fun i H' => Same H17 H' ∧ H' D = some (.lst ((((R2 ++ es.map (·.1)).take i).map fun x => tx J.al (ex J.al.length J.ps x)).map V.str))) ⟨Same.new hD, upd_same⟩ (fun i H' _ h => SqL.of (h.1 _ _ ewl17)) ?_ ?_⟩
        · rintro i v H18 hv ⟨s18, e18⟩
          obtain ⟨z, hz, rfl⟩ := nIs_get' hv
          have hzn := hWn z (List.mem_of_getElem? hz)
          have hA18 := hA17.same s18
          obtain ⟨pl, ra, ta, prs, hL⟩ := hA18.joins
          refine ⟨rfl, yes (iteT ?_)⟩
          refine ⟨_, rfl, a, _, rfl, lw_joins hA18.ob, ja, _, rfl, lj_texts hL.ob, _, rfl, ta, _, _, _, rfl, rfl, SqL.of hL.texts, atI_nat (txV_get hzn), _, e18, by rw [List.length_map, List.length_map, List.length_take]; exact small_lt (by omega), Same.own s18 hD, ?_⟩
          rw [upd_same, List.take_add_one, hz, List.map_append, List.map_append]
          rfl
        rintro H18 ⟨s18, e18⟩
        rw [nIs_len, List.take_length] at e18
        refine ⟨_, D, _, rfl, rfl, .inl (SqL.of e18), ?_, ?_⟩
        · have h2 : ("" : Str).length = 0 := by decide +kernel
          have h3 := join_sum ok.j hWn
          rw [h2]
          omega
        rw [join_row]
        have s1518 := s1517.trans s18
        have hA18 := hA17.same s18
        have ewl18 := s18 _ _ ewl17
        -- its cut
        refine ⟨_, rfl, a, _, rfl, lw_joins hA18.ob, _, rfl, ja, J, flat J.al.length J.ps (R2 ++ es.map (·.1)), rfl, hA18.joins, ok.j, hflin, by omega, fun H19 rc s19 hrc => ⟨_, rfl, ?_⟩⟩
        rw [hcut] at hrc
        refine ne_lsts (ns := R2 ++ es.map (·.1)) (ms := R2 ++ es.map (·.1)) (SqL.of hrc) (SqL.of (s19 _ _ ewl18)) ⟨_, rfl, ?_⟩
        rw [decide_eq_true rfl]
        refine iteF ?_
        have hA19 := hA18.same s19
        obtain ⟨mea, msa, mrs, hM19⟩ := id hA19.machine
        -- its end
        refine ⟨_, rfl, a, _, rfl, lw_machine hA19.ob, _, rfl, a, _, rfl, lw_machine hA19.ob, ma, _, rfl, lm_start hM19.ob, _, rfl, ma, M, some M.start, flat J.al.length J.ps (R2 ++ es.map (·.1)), by rw [ok.al]; rfl, hA19.machine, ok.m, fun s hs => by cases hs; exact ok.m.start, by rw [ok.al]; exact hflin, ?_⟩
        rw [hWrun]
        refine ⟨_, rfl, a, _, rfl, lw_machine hA19.ob, ma, _, rfl, lm_ends hM19.ob, notin_ints (.inl (SqL.of hM19.ends)) ⟨_, rfl, ?_⟩⟩
        rw [decide_eq_true hend]
        refine iteF ?_
        -- may_end
        refine ⟨_, rfl, _, rfl, _, rfl, wl, _, rfl, .inl (SqL.of (s19 _ _ ewl18)), fun l20 hl20 => ?_⟩
        have n20 := Same.new (o := .lst (nIs (R2 ++ es.map (·.1)))) hl20
        have el20 : (upd H19 l20 (.lst (nIs (R2 ++ es.map (·.1))))) l20 = some (.lst (nIs (R2 ++ es.map (·.1)))) := upd_same
        generalize (upd H19 l20 (.lst (nIs (R2 ++ es.map (·.1))))) = H20 at n20 el20
        have hA20 := hA19.same n20
        have hmay : mayB J M (R2 ++ es.map (·.1)) = true := by
          unfold mayB
          rw [sOf_of hWrun]
          exact decide_eq_true hend
        refine ⟨la, qa, l20, J, M, R2 ++ es.map (·.1), rfl, hA20.list, hA20.made, ok, .inl (SqL.of el20), hWok, fun H21 s21 => ?_⟩
        rw [hmay]
        have sF := (((s915.trans s1518).trans s19).trans n20).trans s21
        exact ⟨true, true, rfl, rfl, _, rfl, iteF ⟨_, _, _, _, _, _, _, _, R2, _, rfl, sB9.trans sF, hT9.same sF, sF _ _ eR9, hR2, hR2l, hx2⟩⟩
    · rintro σ' H1 ⟨y5, y6, y7, y8, y9, y10, y11, y12, R, x, rfl, sB1, hT1, eR, hR, hRl, hx⟩
      exact fin H1 sB1 hT1
def spL (P : Program) (w : World) (K : PySem.W.Frag) : Sp := fun vs H Q _ => ∃ (a : Addr) (ns : List Int), vs = [.ref a] ∧ SqL K H a (ns.map V.int) ∧ ns.length ≤ 63 ∧ ∀ H', Q (.bl true) H'
theorem body_law (T : Txt K mg) : BodyOk P w K mg base N_law "law" s_law 12 (spL P w K) := by
  have D_L_cut := ok_L_cut (P := P) (w := w) (base := base) T
  have D_L_draw := ok_L_draw (P := P) (w := w) (base := base) T
  have D_L_led := ok_L_led (P := P) (w := w) (base := base) T
  have D_L_pick := ok_L_pick (P := P) (w := w) (base := base) T
  have D_L_same := ok_L_same (P := P) (w := w) (base := base) T
  have D_L_taken_text := ok_L_taken_text (P := P) (w := w) (base := base) T
  have D_L_tape := ok_L_tape (P := P) (w := w) (base := base) T
  have D_L_worlds := ok_L_worlds (P := P) (w := w) (base := base) T
  have D_cut := ok_cut (P := P) (w := w) (base := base) T
  have D_lets := ok_lets (P := P) (w := w) (base := base) T
  have D_may_end := ok_may_end (P := P) (w := w) (base := base) T
  intro f cdv A outer s H vs Q E hr h
  obtain ⟨a, ns, rfl, hS, hl, fin⟩ := h
  refine ⟨_, (pss_cons (ps_st 1 sc_law.nd (pe_def D_L_tape hr (pa_cons (pv 0) pa_nil)))
      (pss_cons (ps_st 2 sc_law.nd (pe_def D_L_worlds hr (pa_cons (pv 1) pa_nil)))
      (pss_cons (ps_for PassesOwn.never rfl (pi_range1 rfl T.b_range (pa_cons (pe_op op_add pe_int (pe_def D_L_draw hr (pa_cons (pv 1) (pa_cons pe_int pa_nil)))) pa_nil)) (pg_n 3 sc_law.nd)
        (pss_cons (ps_st 4 sc_law.nd (pe_def D_L_pick hr (pa_cons (pv 1) (pa_cons (pv 2) pa_nil))))
        (pss_cons (ps_st 5 sc_law.nd (pe_dget (hu_of hr) (pv 4) pe_str (fun _ _ => rfl)))
        (pss_cons (ps_st 6 sc_law.nd (pe_dget (hu_of hr) (pv 4) pe_str (fun _ _ => rfl)))
        (pss_cons (ps_st 7 sc_law.nd (pe_def D_L_taken_text hr (pa_cons (pv 1) (pa_cons (pe_dget (hu_of hr) (pv 4) pe_str (fun _ _ => rfl)) pa_nil))))
        (pss_cons (ps_if (pt_cmpR op_notN (pv 7) pe_non (nomark _)) (pss_cons (ps_st 8 sc_law.nd (pe_def D_L_cut hr (pa_cons (pe_dget (hu_of hr) (pv 4) pe_str (fun _ _ => rfl)) (pa_cons (pv 7) pa_nil))))
          (pss_cons (ps_if (PW.pt (pw_or (pt_not (pt_val (pe_def D_L_same hr (pa_cons (pe_def D_cut hr (pa_cons (pv 5) (pa_cons (pv 7) pa_nil))) (pa_cons (pe_callTy (tupK (K := K)) rfl T.b_tuple (by decide +kernel) (pa_cons (pv 8) pa_nil)) pa_nil))))) (pw_or1 (pt_cmpR op_notBl (pe_def D_may_end hr (pa_cons (pv 5) (pa_cons (pv 6) (pa_cons (pe_callTy (tupK (K := K)) rfl T.b_tuple (by decide +kernel) (pa_cons (pv 8) pa_nil)) pa_nil)))) pe_bl (nomark _))))) (pss_one (ps_ret pe_bl)) pss_nil)
          (pss_one (ps_for PassesOwn.never rfl (pi_range1 rfl T.b_range (pa_cons (pe_callB (lenK (K := K)) rfl T.b_len PySem.boot_len (pa_cons (pv 8) pa_nil)) pa_nil)) (pg_n 9 sc_law.nd)
            (pss_one (ps_if (pt_cmpR (notInK (K := K)) (pe_ix (ix_listK (K := K)) (pv 8) (pv 9) (fun _ _ => rfl)) (pe_def D_lets hr (pa_cons (pv 5) (pa_cons (pv 6) (pa_cons (pe_slice (sl_listK (K := K)) (pv 8) po_none (po_some (pv 9))) pa_nil)))) rfl) (pss_one (ps_ret pe_bl)) pss_nil)))))) pss_nil)
        (pss_one (ps_if (pt_not (pt_val (pe_def D_L_led hr (pa_cons (pv 1) (pa_cons (pv 4) pa_nil))))) (pss_one (ps_ret pe_bl)) pss_nil))))))))
      (pss_one (ps_ret pe_bl))))), ?_⟩
  -- the tape, the worlds
  refine ⟨_, rfl, a, ns, rfl, hS, hl, fun H1 t ca cs s1 ht hT1 => ?_⟩
  refine ⟨_, rfl, t, ca, cs, rfl, hT1, fun H2 wl ws s2 hT2 ewl hwne hw3 hws => ?_⟩
  refine ⟨_, rfl, t, ca, cs, 4, rfl, by decide, hT2, fun H3 b3 hT3 rn hrn => ⟨_, _, rfl, rfl, _, rfl, by omega, by omega, ?_⟩⟩
  have hB : wo t H2 t = none := wo_at
  obtain ⟨tk2, ht2⟩ := hT2.dk
  have hwt : wl ≠ t := ne_of ewl ht2 fun z => nomatch z
  have ewlW : (wo t H2) wl = some (.lst (ws.map V.ref)) := wo_some ewl hwt
  refine for_range (lo := 0) (fun k σ' H' => ∃ y3 y4 y5 y6 y7 y8 y9, σ' = [some (.ref a), some (.ref t), some (.ref wl), y3, y4, y5, y6, y7, y8, y9] ∧ Same (wo t H2) H' ∧ Tape K H' t ca cs) ⟨none, none, none, none, none, none, none, rfl, b3.wo, hT3⟩ ?_ ?_
  · rintro k σ' H4 hk ⟨y3, y4, y5, y6, y7, y8, y9, rfl, s4, hT4⟩
    -- world
    refine ⟨_, rfl, _, rfl, t, ca, cs, wl, _, rfl, hT4, s4 _ _ ewlW, by simpa using hwne, by rw [List.length_map]; omega, fun H5 b5 hT5 v hv => ?_⟩
    obtain ⟨wd, hwd, rfl⟩ := List.mem_map.mp hv
    obtain ⟨J, M, hW, ok⟩ := hws wd hwd
    have s5 : Same (wo t H2) H5 := wo_but s4 hB b5
    have hWw : WIs P w K (wo t H5) wd J M := hW.same (wo_in s5)
    have hW2 := hW
    obtain ⟨ja, ma, sa, fa, da, la, qa, frs, srs, FL, hA⟩ := hW2
    have hA5 := hA.same s5
    refine ⟨_, rfl, wd, _, rfl, lw_list hA5.ob, ?_⟩
    refine ⟨_, rfl, wd, _, rfl, lw_made hA5.ob, ?_⟩
    -- text
    refine ⟨_, rfl, _, rfl, wd, _, rfl, lw_machine hA5.ob, t, ca, cs, ma, M, rfl, hT5, (hA.same (wo_in s5)).machine, ok.m, fun H6 v6 s6 hT6 hv6 => ?_⟩
    have s26 : Same (wo t H2) H6 := (wo_in s5).trans s6
    -- led
    have ledp : ∀ (H7 : Hp) (y7 y8 y9 : Option V) (N : L2.St → Hp → Prop) (D : Ends), Same (wo t H2) H7 → Tape K H7 t ca cs → D.nx = N → (∀ H', Same (wo t H2) H' → Tape K H' t ca cs → N [some (.ref a), some (.ref t), some (.ref wl), some (.int (0 + (k : Int))), some (.ref wd), some (.ref la), some (.ref qa), y7, y8, y9] H') →
        tIfS (tNot (tB (tCall (spLed P w K) [] E0 (tCons (tVar 1) (tCons (tVar 4) tNil))))) (tRet (tC (V.bl false))) tNext D [some (.ref a), some (.ref t), some (.ref wl), some (.int (0 + (k : Int))), some (.ref wd), some (.ref la), some (.ref qa), y7, y8, y9] H7 := by
      intro H7 y7 y8 y9 N D s7 hT7 hD hN
      refine ⟨_, rfl, _, rfl, t, ca, cs, wd, J, M, rfl, hT7, hW.same (wo_in s7), ok, fun H8 s8 hT8 => ⟨_, rfl, iteF ?_⟩⟩
      show D.nx _ _
      rw [hD]
      exact hN H8 ((wo_in s7).trans s8) hT8
    rcases hv6 with rfl | ⟨W, s, rfl, hWlt, hWl, hrun, hend⟩
    · refine ⟨_, rfl, rfl, _, rfl, iteF ?_⟩
      exact ledp H6 _ _ _ _ _ s26 hT6 rfl fun H' h1 h2 => ⟨_, _, _, _, _, _, _, rfl, h1, h2⟩
    · refine ⟨_, rfl, rfl, _, rfl, iteT ?_⟩
      have hA6 := hA.same s26
      have hWlt2 : ∀ x ∈ W, x < J.al.length := fun x hx => by rw [← ok.al]; exact hWlt x hx
      -- the row
      refine ⟨_, rfl, wd, _, rfl, lw_joins hA6.ob, _, rfl, ja, J, W, by rw [ok.al]; rfl, hA6.joins, ok.j, hWlt2, by omega, fun H7 rr s7 hrr => ?_⟩
      have hRlt := cut_in (ps := J.ps) hWlt2
      have hRch := ok.j.prop.chain_cut hWlt2 rfl
      have hRle := stg_len_le J.al.length J.ps W
      have hflat := ok.j.prop.flat_cut hWlt2
      generalize hRe : stg J.al.length J.ps W = R at hrr hRlt hRch hRle hflat
      have hRok : RowOk J R := ⟨hRlt, hRch, by omega⟩
      have hRrun : M.run (some M.start) (flat J.al.length J.ps R) = some s := by rw [hflat]; exact hrun
      have hA7 := hA6.same s7
      -- the same cut, may end
      refine ⟨_, rfl, _, rfl, la, J, W, by rw [ok.al]; rfl, hA7.list, ok.j, hWlt2, by omega, fun H8 rc s8 hrc => ⟨_, rfl, rr, _, rfl, .inl ⟨SqL.of (s8 _ _ hrr), fun tr htr => ?_⟩⟩⟩
      rw [hRe] at hrc
      have n9 := Same.new (o := .tup (nIs R)) htr
      have etr : (upd H8 tr (.tup (nIs R))) tr = some (.tup (nIs R)) := upd_same
      have s79 := s8.trans n9
      have hrc9 := n9 _ _ hrc
      generalize (upd H8 tr (.tup (nIs R))) = H9 at n9 etr s79 hrc9
      refine ⟨.inl ⟨rc, tr, R, rfl, hrc9, etr, by omega⟩, _, rfl, iteF ?_⟩
      refine ⟨_, rfl, _, rfl, _, rfl, rr, _, rfl, .inl ⟨SqL.of (s79 _ _ hrr), fun tq htq => ?_⟩⟩
      have n10 := Same.new (o := .tup (nIs R)) htq
      have etq : (upd H9 tq (.tup (nIs R))) tq = some (.tup (nIs R)) := upd_same
      generalize (upd H9 tq (.tup (nIs R))) = H10 at n10 etq
      have s710 := s79.trans n10
      have hA10 := hA7.same s710
      have hmay : mayB J M R = true := by
        unfold mayB
        rw [sOf_of hRrun]
        exact decide_eq_true hend
      refine ⟨la, qa, tq, J, M, R, rfl, hA10.list, hA10.made, ok, .inr (SqT.of etq), hRok, fun H11 s11 => ?_⟩
      rw [hmay]
      refine ⟨true, true, rfl, rfl, _, rfl, iteF ?_⟩
      have s711 := s710.trans s11
      -- each piece is let
      refine ⟨_, rfl, rr, _, rfl, .inl (SqL.of (s711 _ _ hrr)), _, rfl, by rw [nIs_len]; omega, by rw [nIs_len]; omega, ?_⟩
      rw [nIs_len, Int.toNat_natCast]
      refine for_range (lo := 0) (fun i σ' H' => ∃ y9, σ' = [some (.ref a), some (.ref t), some (.ref wl), some (.int (0 + (k : Int))), some (.ref wd), some (.ref la), some (.ref qa), some (.str (tx M.al W)), some (.ref rr), y9] ∧ Same H7 H') ⟨y9, rfl, s711⟩ ?_ ?_
      · rintro i σ' H12 hi ⟨y9, rfl, s12⟩
        have hx : R[i]? = some R[i] := List.getElem?_eq_getElem hi
        have hp := hRlt _ (List.getElem_mem hi)
        generalize hpe : R[i] = p at hx hp
        rw [show (0 + ((i : Nat) : Int)) = ((i : Nat) : Int) by omega]
        refine ⟨_, rfl, _, rfl, rr, _, _, nI p, rfl, rfl, SqL.of (s12 _ _ hrr), atI_nat (nIs_get hx), ?_⟩
        refine ⟨_, rfl, _, rfl, _, rfl, _, rfl, _, rfl, rr, _, rfl, SqL.of (s12 _ _ hrr), fun lr hlr => ?_⟩
        rw [cut_to _ i (by rw [nIs_len]; omega)]
        have htk : (nIs R).take i = nIs (R.take i) := (List.map_take ..).symm
        rw [htk]
        have n13 := Same.new (o := .lst (nIs (R.take i))) hlr
        have elr : (upd H12 lr (.lst (nIs (R.take i)))) lr = some (.lst (nIs (R.take i))) := upd_same
        generalize (upd H12 lr (.lst (nIs (R.take i)))) = H13 at n13 elr
        have hA13 := hA7.same (s12.trans n13)
        have hRt : RowOk J (R.take i) := ⟨fun x hx => hRlt x (List.mem_of_mem_take hx), chain_take i hRch, by rw [List.length_take]; omega⟩
        refine ⟨la, qa, lr, J, M, R.take i, rfl, hA13.list, hA13.made, ok, .inl (SqL.of elr), hRt, fun H14 tl s14 htl => ?_⟩
        refine notin_ints (.inr (SqT.of htl)) ⟨_, rfl, ?_⟩
        have hin : p ∈ letsOf J M (R.take i) := by
          have hsplit : R = R.take i ++ p :: R.drop (i + 1) := by
            rw [← hpe, ← List.drop_eq_getElem_cons hi, List.take_append_drop]
          have hr2 := hRrun
          rw [hsplit, flat_app, MD.run_app] at hr2
          cases h1 : M.run (some M.start) (flat J.al.length J.ps (R.take i)) with
          | none =>
            rw [h1, MD.run_none] at hr2
            cases hr2
          | some s1 =>
            rw [h1, flat_cons, MD.run_app] at hr2
            cases h2 : M.run (some s1) (ex J.al.length J.ps p) with
            | none =>
              rw [h2, MD.run_none] at hr2
              cases hr2
            | some s2 =>
              rw [h2] at hr2
              have hcd : Chain J.al.length J.ps (p :: R.drop (i + 1)) := by
                have := chain_drop i hRch
                rw [List.drop_eq_getElem_cons hi, hpe] at this
                exact this
              have hlv := live_row hcd (fun x hx => hRlt x (List.mem_of_mem_drop hx)) hr2 hend
              refine (mem_lets (sOf_of h1)).mpr ⟨(p, s2), nexts_mem.mpr ⟨hp, ?_, h2⟩, rfl, hlv⟩
              cases hlast : (R.take i).getLast? with
              | none => rfl
              | some l =>
                refine sideB_iff.mpr ?_
                have hi0 : 0 < i := by
                  cases i with
                  | zero => simp at hlast
                  | succ i => omega
                have hl2 : R[i - 1]? = some l := by
                  rw [List.getLast?_eq_getElem?, List.length_take, Nat.min_eq_left (by omega), List.getElem?_take_of_lt (by omega)] at hlast
                  exact hlast
                exact chain_at (i := i - 1) hRch hl2 (by rw [show i - 1 + 1 = i by omega]; exact hx)
        rw [decide_eq_true hin]
        exact iteF ⟨_, rfl, (s12.trans n13).trans s14⟩
      · rintro σ' H12 ⟨y9, rfl, s12⟩
        have hT12 := hT6.same (s7.trans s12)
        exact ledp H12 _ _ _ _ _ (s26.trans (s7.trans s12)) hT12 rfl fun H' h1 h2 => ⟨_, _, _, _, _, _, _, rfl, h1, h2⟩
  · rintro σ' H4 ⟨y3, y4, y5, y6, y7, y8, y9, rfl, s4, hT4⟩
    exact fin H4
end
end J

set_option Elab.async false
set_option linter.all false
set_option maxRecDepth 100000
set_option maxHeartbeats 0
/-! The head: facts of the top's defs and classes by one kernel run. Printed by gen_head.py. -/
namespace J
open PySem PySem.Spec PyProof.Rows L2
def names0 : List PySem.Str := ["_wall", "JoinError", "InvalidAlphabet", "NotProper", "NoPiece", "UnknownSign", "InvalidNumber", "NotCut", "right_spine", "left_spine", "crossing", "side_by_side", "MOST_LETTERS", "LONGEST_PIECE", "is_between", "is_alphabet", "checked_alphabet", "put_together", "lowest_pair", "cut_row", "Joins", "letters_of", "cut", "text_of_row", "is_cut", "Standings", "standing_of", "lets", "may_end", "shortest_end"]
def names1 : List PySem.Str := ["Machine", "_law_mixed", "_law_tape", "_law_draw", "_law_pick", "_law_signs", "_law_letters", "_law_cut", "_law_joins", "_law_machine", "_law_chain", "_law_after", "_law_steps", "_law_follow", "_law_distances", "_law_choices", "_law_lets", "_law_world", "_law_worlds", "_law_same", "_law_hopeful", "_law_taken_text", "_law_led"]
def names : List PySem.Str := names0 ++ names1
/-- the property pieces of Joins: at p, its getter at g -/
def propAt (K : PySem.W.Frag) : Addr := He.ma K (CJ K) "pieces"
def getAt (K : PySem.W.Frag) : Addr := match PySem.W.recIn K (propAt K) "property" with
  | some (.ref g :: _) => g
  | _ => 0
def getW (K : PySem.W.Frag) : He.FnW := match K.lookup (getAt K) with
  | some ⟨_, _, .func fd, _⟩ => some (fd.name, fd.qualname, fd.params, fd.body, fd.scope, fd.globals, fd.closure, fd.builtins)
  | _ => none
def propB (K : PySem.W.Frag) : Bool :=
  He.eqO (PySem.W.findIn K (.ref (CJ K)) "pieces") (some (some (.ref (propAt K)))) &&
  (decide (PySem.W.specialIn K (.ref (propAt K)) "__get__" = some (some (.builtin "property.__get__"))) &&
  (decide (PySem.W.takesIn K (.ref (propAt K)) = some true) &&
  ((match PySem.W.recIn K (propAt K) "property" with
    | some (.ref _ :: _) => true
    | _ => false) && (PySem.W.keepIn K (.ref (getAt K)) && (match K.lookup (getAt K) with
    | some ⟨_, _, .func fd, _⟩ => PySem.W.codeIn K fd.code "Joins.pieces" && (He.dflB K fd.defaults [] && He.kwdB K fd.kwdefaults [])
    | _ => false)))))
def getV : He.FnW := some ("pieces", "Joins.pieces", defArgs s_Joins_pieces, .stmts (defBody s_Joins_pieces), defScope s_Joins_pieces, mainGlobals, [], builtinsNs)
theorem prop_of {K : PySem.W.Frag} (e : getW K = getV) (c : propB K = true) :
    ∃ (p g : Addr) (fd : FuncData), PropOf K (CJ K) "pieces" p g ∧ FunD K "pieces" "Joins.pieces" (defArgs s_Joins_pieces) (defBody s_Joins_pieces) (defScope s_Joins_pieces) [] [] g fd := by
  obtain ⟨c1, c⟩ := He.ba c
  obtain ⟨c2, c⟩ := He.ba c
  obtain ⟨c3, c⟩ := He.ba c
  obtain ⟨c4, c⟩ := He.ba c
  obtain ⟨c5, c6⟩ := He.ba c
  have hrec : ∃ rest, PySem.W.recIn K (propAt K) "property" = some (.ref (getAt K) :: rest) := by
    unfold getAt
    cases q : PySem.W.recIn K (propAt K) "property" with
    | none =>
      rw [q] at c4
      cases c4
    | some l =>
      cases l with
      | nil =>
        rw [q] at c4
        cases c4
      | cons v r =>
        cases v with
        | ref g => exact ⟨r, rfl⟩
        | _ =>
          rw [q] at c4
          cases c4
  have hf : ∃ fd, FunD K "pieces" "Joins.pieces" (defArgs s_Joins_pieces) (defBody s_Joins_pieces) (defScope s_Joins_pieces) [] [] (getAt K) fd := by
    unfold getW getV at e
    cases q : K.lookup (getAt K) with
    | none =>
      rw [q] at c6
      cases c6
    | some o =>
      obtain ⟨oc, od, dt, osl⟩ := o
      rw [q] at c6 e
      cases dt with
      | func fd =>
        obtain ⟨n1, n2, n3, n4, n5, n6, n7, n8, n9, n10, n11, n12, n13, n14, n15⟩ := fd
        have e2 : (some (n1, n2, n3, n4, n5, n6, n7, n15) : He.FnW) = some (("pieces" : Str), ("Joins.pieces" : Str), defArgs s_Joins_pieces, FuncBody.stmts (defBody s_Joins_pieces), defScope s_Joins_pieces, mainGlobals, ([] : List (Str × Addr)), builtinsNs) := e
        simp only [Option.some.injEq, Prod.mk.injEq] at e2
        obtain ⟨h1, h2, h3, h4, h5, h6, h7, h8⟩ := e2
        subst h1 h2 h3 h4 h5 h6 h7 h8
        obtain ⟨k1, k2⟩ := He.ba c6
        obtain ⟨k3, k4⟩ := He.ba k2
        exact ⟨_, ⟨oc, od, n8, n9, n10, n11, n12, n13, n14, osl, rfl, q, k1, He.dflB_ok k3, He.kwdB_ok k4⟩, c5⟩
      | _ => cases c6
  obtain ⟨fd, F⟩ := hf
  exact ⟨propAt K, getAt K, fd, ⟨He.eqO_ok c1, of_decide_eq_true c2, of_decide_eq_true c3, hrec⟩, F⟩
abbrev R : PySem.W.OpenRow := PySem.W.OpenLaw.row PySem.Challenge.rw_rankedjoins_k41_whole_let_exactly_if_it
abbrev AlJ : Type := (He.AlD × Bool) × He.FnW
def obsJ (K : PySem.W.Frag) : AlJ := ((He.obsD faL fnL K, propB K), getW K)
def valJ : AlJ := ((He.valD fnL, true), getV)
def obsG (g : Addr → Option Obj) : AlJ := obsJ (He.frG g (He.asD g 5))
def hk : PySem.W.Hook where
  α := AlJ
  obs := fun s => obsG s.heap.get?
  val := fun _ => valJ
  says := fun _ h => ∃ K : PySem.W.Frag, K.In h ∧ obsJ K = valJ
  of := fun _ _ e => ⟨_, He.frG_in, e⟩
  keeps := fun _ _ _ ⟨K, hK, c⟩ k => ⟨K, PySem.W.Frag.In.keeps hK k, c⟩
def ob (s : PySem.W.SharedT) : AlJ := obsG (HandSHeadRun.getT s)
theorem ob_eq (s : PySem.W.SharedT) : ob s = hk.obs s.abs := by
  have e : HandSHeadRun.getT s = s.abs.heap.get? := funext (HandSHeadRun.getT_eq s)
  show obsG (HandSHeadRun.getT s) = obsG s.abs.heap.get?
  rw [e]
theorem run (w : World) : HandSHeadRun.RunEq R (PySem.W.view R.prog [61]) hk ob 20000 names w := by
  intro os
  kernel_rfl
theorem txt_of {K : PySem.W.Frag} {mg : Str → Option Value} {h : Heap} (c : obsJ K = valJ) (X : K.In h) (G : h.Ns mainGlobals mg) : Txt K mg := by
  have c1 : He.obsD faL fnL K = He.valD fnL := congrArg (fun z : AlJ => z.1.1) c
  have c2 : propB K = true := congrArg (fun z : AlJ => z.1.2) c
  have c3 : getW K = getV := congrArg (fun z : AlJ => z.2) c
  exact ⟨c1, ⟨h, X, G⟩, prop_of c3 c2⟩
/-- the law's promise: a list of at most 63 ints is handed in, True comes out -/
def spLaw (K : PySem.W.Frag) : Sp := fun vs H Q _ => ∃ (a : Addr) (ns : List Int), vs = [.ref a] ∧ SqL K H a (ns.map V.int) ∧ ns.length ≤ 63 ∧ ∀ H', Q (.bl true) H'
end J
open PySem PySem.W PySem.Calls PyProof.Rows in
theorem J.holds_of {k : Nat} (hk : L2.Room (k + 1) callerA) (law : ∀ (P : Program) (w : World) (K : PySem.W.Frag) (mg : PySem.Str → Option Value) (base : Heap), J.Txt K mg → J.BodyOk P w K mg base J.N_law "law" J.s_law k (J.spLaw K)) : PySem.Challenge.rw_rankedjoins_k41_whole_let_exactly_if_it.Holds := by
  w_on; o_law
  refine HandSHeadRun.head_any (r := OpenLaw.row PySem.Challenge.rw_rankedjoins_k41_whole_let_exactly_if_it) (q := view (OpenLaw.row PySem.Challenge.rw_rankedjoins_k41_whole_let_exactly_if_it).prog [61]) (H := J.hk) (ob := J.ob) (M := 20000) (loose := J.names) (d := HandSHeadRun.topDef (OpenLaw.row PySem.Challenge.rw_rankedjoins_k41_whole_let_exactly_if_it).prog 61) (kwd := []) J.ob_eq
    (by kernel_rfl) (fun s => by kernel_rfl) J.run (by kernel_rfl) (by kernel_rfl) (by kernel_rfl) (by rfl) (by first | assumption | decide +kernel) (by decide +kernel) ⟨rfl, rfl, rfl, rfl, rfl, by decide +kernel⟩ ?hw ?hc
  case hw => w_witness2
  case hc =>
    refine L2.walk_ofE (l := PySem.Challenge.rw_rankedjoins_k41_whole_let_exactly_if_it) (n := 63) (k := k + 1) (x := "_law_script") (CX := L2.CX0) rfl (by decide) (by kernel_rfl) hk ?F (fun _ _ _ _ z => z)
    intro w mg fa h Y G hmg0
    obtain ⟨K, KX, c⟩ := Y
    have hmg : mg ("law" : PySem.Str) = some (.ref fa) := by
      have e : (HandSHeadRun.topDef (OpenLaw.row PySem.Challenge.rw_rankedjoins_k41_whole_let_exactly_if_it).prog 61).name = ("law" : PySem.Str) := by kernel_rfl
      rw [← e]
      exact hmg0
    have T : J.Txt K mg := J.txt_of c KX G
    obtain ⟨fd, F⟩ := T.says.def_ 55 (d := J.d_law) (by rfl)
    have eg := hmg.symm.trans T.g_law
    cases eg
    refine ⟨K, fd, J.spLaw K, KX, fun s v => L2.FunD.bindsA (ps := ["_law_script"]) F (fun _ _ _ _ _ _ us hl => match us, hl with | [_], _ => rfl) s [v] rfl, fun H a ns hl _ hS => ⟨a, ns, rfl, hS, hl, fun _ => rfl⟩, fun base _ _ => ?_⟩
    refine J.fn_body F J.sc_law (fun vs H Q E q => ?_) (law (PySem.Challenge.rw_rankedjoins_k41_whole_let_exactly_if_it).prog w K mg base T)
    obtain ⟨a, ns, rfl, _⟩ := q
    rfl

theorem PySem.Challenge.cw_rankedjoins_k41_whole_let_exactly_if_it_holds : PySem.Challenge.rw_rankedjoins_k41_whole_let_exactly_if_it.Holds := by
  exact J.holds_of (k := 12) ⟨rfl, by decide, by decide⟩ fun P w K mg base T => J.body_law T
