import PyProof.Rows.All
import HandS.EndTab
import HandS.FStrTup
import HandS.ForMost
import HandS.Lambda
import HandS.SortKw
import HandS.Style
import HandS.TupAny
import HandS.WideBits
import KE.KDictDisplayH
import KE.KSortKeySt
import PyProof.ReprRoads
import PySem.Challenge.RW_fadeleaf_k18_whole_alike_just_so
set_option Elab.async false
set_option linter.all false
set_option maxRecDepth 100000
set_option maxHeartbeats 4000000
namespace Fade
section
variable {T : Type} [DecidableEq T]
abbrev Row (T : Type) := List (T × Int)

def ins (x : T × Int) : Row T → Row T
  | [] => [x]
  | y :: r => if x.1 = y.1 ∧ y.2 < x.2 then y :: ins x r else x :: y :: r
def norm : Row T → Row T
  | [] => []
  | x :: r => ins x (norm r)
def NoInv : Row T → Prop
  | x :: y :: r => ¬ (x.1 = y.1 ∧ y.2 < x.2) ∧ NoInv (y :: r)
  | _ => True

inductive Step : Row T → Row T → Prop
  | mk (a : Row T) (x y : T × Int) (b : Row T) : x.1 = y.1 → Step (a ++ x :: y :: b) (a ++ y :: x :: b)
inductive Reach : Row T → Row T → Prop
  | refl (a) : Reach a a
  | tail {a b c} : Reach a b → Step b c → Reach a c

theorem Step.symm {a b : Row T} (h : Step a b) : Step b a := by
  cases h with
  | mk a x y b e => exact Step.mk a y x b e.symm
theorem Step.reach {a b : Row T} (h : Step a b) : Reach a b := .tail (.refl a) h
theorem Reach.trans {a b c : Row T} (h : Reach a b) (k : Reach b c) : Reach a c := by
  induction k with
  | refl => exact h
  | tail _ s ih => exact .tail ih s
theorem Reach.symm {a b : Row T} (h : Reach a b) : Reach b a := by
  induction h with
  | refl => exact .refl _
  | tail _ s ih => exact (s.symm.reach).trans ih
theorem Step.cons (z : T × Int) {a b : Row T} (h : Step a b) : Step (z :: a) (z :: b) := by
  cases h with
  | mk a x y b e => exact Step.mk (z :: a) x y b e
theorem Reach.cons (z : T × Int) {a b : Row T} (h : Reach a b) : Reach (z :: a) (z :: b) := by
  induction h with
  | refl => exact .refl _
  | tail _ s ih => exact .tail ih (s.cons z)
theorem Step.perm {a b : Row T} (h : Step a b) : b.Perm a := by
  cases h with
  | mk a x y b e => exact List.Perm.append_left a (List.Perm.swap x y b)
theorem Reach.perm {a b : Row T} (h : Reach a b) : b.Perm a := by
  induction h with
  | refl => exact List.Perm.refl _
  | tail _ s ih => exact s.perm.trans ih

theorem ins_comm {x y : T × Int} (e : x.1 = y.1) : ∀ s : Row T, ins x (ins y s) = ins y (ins x s)
  | [] => by
    obtain ⟨t, i⟩ := x
    obtain ⟨u, j⟩ := y
    have e : t = u := e
    subst e
    simp only [ins, true_and]
    by_cases h1 : j < i
    · rw [if_pos h1, if_neg (show ¬ i < j by omega)]
    · by_cases h2 : i < j
      · rw [if_neg h1, if_pos h2]
      · have : i = j := by omega
        subst this
        rfl
  | z :: s => by
    obtain ⟨t, i⟩ := x
    obtain ⟨u, j⟩ := y
    obtain ⟨v, k⟩ := z
    have e : t = u := e
    subst e
    have ih := ins_comm (x := (t, i)) (y := (t, j)) rfl s
    by_cases hv : t = v
    · subst hv
      have e0 : i = j → ins (t, i) (ins (t, j) ((t, k) :: s)) = ins (t, j) (ins (t, i) ((t, k) :: s)) := fun z => by
        subst z
        rfl
      by_cases hij : i = j
      · exact e0 hij
      simp only [ins, true_and]
      by_cases h1 : k < i <;> by_cases h2 : k < j <;> by_cases h3 : j < i <;> by_cases h4 : i < j <;>
        first
        | omega
        | (simp only [h1, h2, h3, h4, if_true, if_false, ins, true_and]; done)
        | (simp only [h1, h2, h3, h4, if_true, if_false, ins, true_and]; rw [ih])
    · simp only [ins, hv, false_and, if_false, true_and]
      by_cases h3 : j < i
      · rw [if_pos h3, if_neg (show ¬ i < j by omega)]
      · by_cases h4 : i < j
        · rw [if_neg h3, if_pos h4]
        · have : i = j := by omega
          subst this
          rfl
theorem norm_step {a b : Row T} (h : Step a b) : norm a = norm b := by
  cases h with
  | mk a x y b e =>
    induction a with
    | nil =>
      show ins x (ins y (norm b)) = ins y (ins x (norm b))
      exact ins_comm e _
    | cons z a ih =>
      show ins z (norm (a ++ x :: y :: b)) = ins z (norm (a ++ y :: x :: b))
      rw [ih]
theorem norm_reach {a b : Row T} (h : Reach a b) : norm a = norm b := by
  induction h with
  | refl => rfl
  | tail _ s ih => exact ih.trans (norm_step s)
theorem norm_id : ∀ {r : Row T}, NoInv r → norm r = r
  | [], _ => rfl
  | [x], _ => rfl
  | x :: y :: r, h => by
    show ins x (norm (y :: r)) = x :: y :: r
    rw [norm_id h.2]
    exact if_neg h.1
theorem reach_ins (x : T × Int) : ∀ r : Row T, Reach (x :: r) (ins x r)
  | [] => .refl _
  | y :: r => by
    unfold ins
    split
    · rename_i h
      exact (Step.mk [] x y r h.1).reach.trans ((reach_ins x r).cons y)
    · exact .refl _
theorem reach_norm : ∀ r : Row T, Reach r (norm r)
  | [] => .refl _
  | x :: r => ((reach_norm r).cons x).trans (reach_ins x _)
theorem reach_iff {a b : Row T} : Reach a b ↔ norm a = norm b :=
  ⟨norm_reach, fun e => (reach_norm a).trans (by rw [e]; exact (reach_norm b).symm)⟩
theorem norm_of {a b : Row T} (h : Reach a b) (n : NoInv b) : norm a = b := (norm_reach h).trans (norm_id n)
theorem norm_len (r : Row T) : (norm r).length = r.length := (reach_norm r).perm.length_eq

/-! ### blocks -/
theorem reach_block {t : T} {s s' : Row T} (p : s'.Perm s) : (∀ l ∈ s, l.1 = t) → ∀ rest, Reach (s ++ rest) (s' ++ rest) := by
  induction p with
  | nil => exact fun _ _ => .refl _
  | cons x _ ih => exact fun h rest => (ih (fun l hl => h l (List.mem_cons_of_mem _ hl)) rest).cons x
  | swap x y l =>
    intro h rest
    exact (Step.mk [] x y (l ++ rest) ((h x (by simp)).trans (h y (by simp)).symm)).reach
  | trans p q ih1 ih2 => exact fun h rest => (ih2 h rest).trans (ih1 (fun l hl => h l (q.mem_iff.mp hl)) rest)
theorem ins_head (x : T × Int) (l : Row T) : (ins x l).head?.map (·.1) = some x.1 := by
  cases l with
  | nil => rfl
  | cons y r =>
    unfold ins
    split
    · rename_i h
      exact congrArg some h.1.symm
    · rfl
theorem norm_head (r : Row T) : (norm r).head?.map (·.1) = r.head?.map (·.1) := by
  cases r with
  | nil => rfl
  | cons x r => exact ins_head x (norm r)
theorem ins_stay {x : T × Int} : ∀ {l : Row T}, (∀ y, l.head? = some y → ¬ (x.1 = y.1 ∧ y.2 < x.2)) → ins x l = x :: l
  | [], _ => rfl
  | y :: r, h => if_neg (h y rfl)
theorem norm_sorted {t : T} {rest : Row T} (hd : rest.head?.map (·.1) ≠ some t) : ∀ {s : Row T}, (∀ l ∈ s, l.1 = t) → s.Pairwise (fun x y => x.2 ≤ y.2) → norm (s ++ rest) = s ++ norm rest
  | [], _, _ => rfl
  | x :: s, h, p => by
    show ins x (norm (s ++ rest)) = x :: (s ++ norm rest)
    have p' := List.pairwise_cons.mp p
    rw [norm_sorted hd (fun l hl => h l (List.mem_cons_of_mem _ hl)) p'.2]
    refine ins_stay fun y hy => ?_
    rintro ⟨e1, e2⟩
    cases s with
    | nil =>
      have hy : (norm rest).head? = some y := hy
      have q := norm_head rest
      rw [hy] at q
      refine hd (q.symm.trans ?_)
      show some y.1 = some t
      rw [← e1, h x List.mem_cons_self]
    | cons z s =>
      have hz : z = y := Option.some.inj hy
      have := p'.1 z List.mem_cons_self
      rw [hz] at this
      omega
theorem norm_block {t : T} {s s' rest : Row T} (h : ∀ l ∈ s, l.1 = t) (p : s'.Perm s) (o : s'.Pairwise fun x y => x.2 ≤ y.2) (hd : rest.head?.map (·.1) ≠ some t) : norm (s ++ rest) = s' ++ norm rest := by
  rw [norm_reach (reach_block p h rest)]
  exact norm_sorted hd (fun l hl => h l (p.mem_iff.mp hl)) o
def Blocks : List (Row T) → Prop
  | [] => True
  | s :: r => (∃ t, s ≠ [] ∧ (∀ l ∈ s, l.1 = t) ∧ r.flatten.head?.map (·.1) ≠ some t) ∧ Blocks r
theorem Blocks.ne : ∀ {sts : List (Row T)}, Blocks sts → ∀ s ∈ sts, s ≠ []
  | [], _, _, h => by cases h
  | s :: r, h, u, hu => by
    rcases List.mem_cons.mp hu with rfl | hu
    · exact h.1.choose_spec.1
    · exact h.2.ne u hu
theorem head_app {a b : Row T} (h : a ≠ []) : (a ++ b).head? = a.head? := by
  cases a with
  | nil => exact absurd rfl h
  | cons => rfl
theorem flat_ne {r : List (Row T)} (h : Blocks r) (n : r ≠ []) : r.flatten ≠ [] := by
  cases r with
  | nil => exact absurd rfl n
  | cons s r =>
    have := h.1.choose_spec.1
    cases s with
    | nil => exact absurd rfl this
    | cons x s => simp
theorem blocks_snoc {l : T × Int} : ∀ {sts : List (Row T)}, Blocks sts → (∀ b, sts.getLast? = some b → ∀ x, b.head? = some x → x.1 ≠ l.1) → Blocks (sts ++ [[l]])
  | [], _, _ => ⟨⟨l.1, by simp, by simp, by simp⟩, trivial⟩
  | s :: r, h, k => by
    obtain ⟨t, n, u, hd⟩ := h.1
    refine ⟨⟨t, n, u, ?_⟩, blocks_snoc h.2 fun b hb => ?_⟩
    · cases r with
      | nil =>
        cases s with
        | nil => exact absurd rfl n
        | cons x s =>
          have q := k (x :: s) rfl x rfl
          rw [u x List.mem_cons_self] at q
          show some l.1 ≠ some t
          exact fun z => q (Option.some.inj z).symm
      | cons s2 r =>
        show ((s2 :: r) ++ [[l]]).flatten.head?.map (·.1) ≠ some t
        rw [show ((s2 :: r) ++ [[l]]).flatten = (s2 :: r).flatten ++ [l] by simp, head_app (flat_ne h.2 (by simp))]
        exact hd
    · refine k b ?_
      cases r with
      | nil => cases hb
      | cons s2 r => rw [List.getLast?_cons_cons]; exact hb
theorem blocks_grow {l x : T × Int} {b : Row T} (hx : b.head? = some x) (e : x.1 = l.1) : ∀ {sts : List (Row T)}, Blocks (sts ++ [b]) → Blocks (sts ++ [b ++ [l]])
  | [], h => by
    obtain ⟨t, n, u, hd⟩ := h.1
    have hm : x ∈ b := List.mem_of_head? hx
    refine ⟨⟨t, by simp, fun y hy => ?_, by simp⟩, trivial⟩
    rcases List.mem_append.mp hy with hy | hy
    · exact u y hy
    · rw [List.mem_singleton.mp hy, ← e]
      exact u x hm
  | s :: r, h => by
    obtain ⟨t, n, u, hd⟩ := h.1
    refine ⟨⟨t, n, u, ?_⟩, blocks_grow hx e h.2⟩
    have nb : b ≠ [] := by
      intro z
      rw [z] at hx
      cases hx
    cases r with
    | nil =>
      have hd : b.head?.map (·.1) ≠ some t := by simpa using hd
      have q : ((([] : List (Row T)) ++ [b ++ [l]]).flatten).head? = b.head? := by
        rw [show (([] : List (Row T)) ++ [b ++ [l]]).flatten = b ++ [l] by simp, head_app nb]
      show ((([] : List (Row T)) ++ [b ++ [l]]).flatten).head?.map (·.1) ≠ some t
      rw [q]
      exact hd
    | cons s2 r =>
      have n2 : s2 ≠ [] := Blocks.ne h.2 s2 (by simp)
      have q1 : ((s2 :: r) ++ [b ++ [l]]).flatten.head? = s2.head? := by
        rw [show ((s2 :: r) ++ [b ++ [l]]).flatten = s2 ++ (r ++ [b ++ [l]]).flatten by simp, head_app n2]
      have q2 : ((s2 :: r) ++ [b]).flatten.head? = s2.head? := by
        rw [show ((s2 :: r) ++ [b]).flatten = s2 ++ (r ++ [b]).flatten by simp, head_app n2]
      show ((s2 :: r) ++ [b ++ [l]]).flatten.head?.map (·.1) ≠ some t
      rw [q1, ← q2]
      exact hd

/-! ### exchanges by place -/
def exch (r : Row T) (k : Nat) : Row T :=
  match r.drop k with
  | x :: y :: b => r.take k ++ y :: x :: b
  | _ => r
theorem exch_at {r : Row T} {k : Nat} {x y : T × Int} (h1 : r[k]? = some x) (h2 : r[k + 1]? = some y) : exch r k = r.take k ++ [y, x] ++ r.drop (k + 2) := by
  have e : r.drop k = x :: y :: r.drop (k + 2) := by
    have a1 : k < r.length := (List.getElem?_eq_some_iff.mp h1).1
    have a2 : k + 1 < r.length := (List.getElem?_eq_some_iff.mp h2).1
    rw [List.drop_eq_getElem_cons a1, List.drop_eq_getElem_cons a2]
    have q1 := (List.getElem?_eq_some_iff.mp h1).2
    have q2 := (List.getElem?_eq_some_iff.mp h2).2
    rw [q1, q2]
  unfold exch
  rw [e]
  simp
theorem split_at {r : Row T} {k : Nat} {x y : T × Int} (h1 : r[k]? = some x) (h2 : r[k + 1]? = some y) : r = r.take k ++ x :: y :: r.drop (k + 2) := by
  have a1 : k < r.length := (List.getElem?_eq_some_iff.mp h1).1
  have a2 : k + 1 < r.length := (List.getElem?_eq_some_iff.mp h2).1
  have q1 := (List.getElem?_eq_some_iff.mp h1).2
  have q2 := (List.getElem?_eq_some_iff.mp h2).2
  conv => lhs; rw [← List.take_append_drop k r, List.drop_eq_getElem_cons a1, List.drop_eq_getElem_cons a2, q1, q2]
theorem exch_len {r : Row T} {k : Nat} {x y : T × Int} (h1 : r[k]? = some x) (h2 : r[k + 1]? = some y) : (exch r k).length = r.length := by
  have e := congrArg List.length (split_at h1 h2)
  rw [exch_at h1 h2]
  simp only [List.length_append, List.length_cons, List.length_nil] at e ⊢
  omega
theorem exch_mem {r : Row T} {k : Nat} {x y : T × Int} (h1 : r[k]? = some x) (h2 : r[k + 1]? = some y) : ∀ l ∈ exch r k, l ∈ r := by
  intro l hl
  rw [exch_at h1 h2] at hl
  have hx : x ∈ r := List.mem_of_getElem? h1
  have hy : y ∈ r := List.mem_of_getElem? h2
  simp only [List.append_assoc, List.mem_append, List.mem_cons, List.not_mem_nil, or_false] at hl
  rcases hl with hl | (hl | hl) | hl
  · exact List.mem_of_mem_take hl
  · rw [hl]; exact hy
  · rw [hl]; exact hx
  · exact List.mem_of_mem_drop hl
theorem exch_step {r : Row T} {k : Nat} {x y : T × Int} (h1 : r[k]? = some x) (h2 : r[k + 1]? = some y) (e : x.1 = y.1) : Step r (exch r k) := by
  have q := Step.mk (r.take k) x y (r.drop (k + 2)) e
  rw [← split_at h1 h2] at q
  rw [exch_at h1 h2, List.append_assoc]
  exact q
theorem step_exch {a b : Row T} (h : Step a b) : ∃ k x y, a[k]? = some x ∧ a[k + 1]? = some y ∧ x.1 = y.1 ∧ b = exch a k := by
  cases h with
  | mk a x y b e =>
    have h1 : (a ++ x :: y :: b)[a.length]? = some x := by simp
    have h2 : (a ++ x :: y :: b)[a.length + 1]? = some y := by
      rw [List.getElem?_append_right (by omega)]
      simp
    refine ⟨a.length, x, y, h1, h2, e, ?_⟩
    rw [exch_at h1 h2]
    have e1 : (a ++ x :: y :: b).take a.length = a := by simp
    have e2 : (a ++ x :: y :: b).drop (a.length + 2) = b := by
      rw [← List.drop_drop]
      simp
    rw [e1, e2]
    simp

/-! ### settled -/
def IsInv (r : Row T) (k : Nat) : Prop := ∃ x y, r[k]? = some x ∧ r[k + 1]? = some y ∧ x.1 = y.1 ∧ y.2 < x.2
def next : Row T → Row T
  | x :: y :: r => if x.1 = y.1 ∧ y.2 < x.2 then y :: x :: r else x :: next (y :: r)
  | r => r
theorem next_at : ∀ {r : Row T} {k : Nat}, (∀ j, j < k → ¬ IsInv r j) → IsInv r k → next r = exch r k
  | [], k, _, h => by
    obtain ⟨x, y, h1, _⟩ := h
    cases h1
  | [x], 0, _, h => by
    obtain ⟨x, y, h1, h2, _⟩ := h
    cases h2
  | [x], k + 1, _, h => by
    obtain ⟨x, y, h1, h2, _⟩ := h
    cases h1
  | x :: y :: r, 0, _, h => by
    obtain ⟨x', y', h1, h2, h3⟩ := h
    have e1 : x = x' := Option.some.inj h1
    have e2 : y = y' := Option.some.inj h2
    subst e1 e2
    show (if x.1 = y.1 ∧ y.2 < x.2 then y :: x :: r else x :: next (y :: r)) = y :: x :: r
    exact if_pos h3
  | x :: y :: r, k + 1, hn, h => by
    have h0 : ¬ (x.1 = y.1 ∧ y.2 < x.2) := fun z => hn 0 (by omega) ⟨x, y, rfl, rfl, z⟩
    show (if x.1 = y.1 ∧ y.2 < x.2 then y :: x :: r else x :: next (y :: r)) = exch (x :: y :: r) (k + 1)
    rw [if_neg h0]
    obtain ⟨x', y', h1, h2, h3⟩ := h
    have g1 : (y :: r)[k]? = some x' := h1
    have g2 : (y :: r)[k + 1]? = some y' := h2
    rw [next_at (r := y :: r) (k := k) (fun j hj z => hn (j + 1) (by omega) (by
      obtain ⟨u, v, a1, a2, a3⟩ := z
      exact ⟨u, v, a1, a2, a3⟩)) ⟨x', y', g1, g2, h3⟩]
    rw [exch_at g1 g2, exch_at h1 h2]
    rfl
theorem noInv_of : ∀ {r : Row T}, (∀ j, ¬ IsInv r j) → NoInv r
  | [], _ => trivial
  | [_], _ => trivial
  | x :: y :: r, h => ⟨fun z => h 0 ⟨x, y, rfl, rfl, z⟩, noInv_of fun j ⟨u, v, a1, a2, a3⟩ => h (j + 1) ⟨u, v, a1, a2, a3⟩⟩
theorem next_same : ∀ {r : Row T}, NoInv r → next r = r
  | [], _ => rfl
  | [_], _ => rfl
  | x :: y :: r, h => by
    show (if x.1 = y.1 ∧ y.2 < x.2 then y :: x :: r else x :: next (y :: r)) = x :: y :: r
    rw [if_neg h.1, next_same h.2]
theorem reach_next : ∀ r : Row T, Reach r (next r)
  | [] => .refl _
  | [_] => .refl _
  | x :: y :: r => by
    show Reach _ (if x.1 = y.1 ∧ y.2 < x.2 then y :: x :: r else x :: next (y :: r))
    by_cases h : x.1 = y.1 ∧ y.2 < x.2
    · rw [if_pos h]
      exact (Step.mk [] x y r h.1).reach
    · rw [if_neg h]
      exact (reach_next (y :: r)).cons x
def invs : Row T → Nat
  | [] => 0
  | x :: r => r.countP (fun y => decide (y.2 < x.2)) + invs r
theorem next_or : ∀ r : Row T, NoInv r ∨ invs (next r) < invs r
  | [] => .inl trivial
  | [_] => .inl trivial
  | x :: y :: r => by
    by_cases h : x.1 = y.1 ∧ y.2 < x.2
    · right
      show invs (if x.1 = y.1 ∧ y.2 < x.2 then y :: x :: r else x :: next (y :: r)) < _
      rw [if_pos h]
      have h1 : decide (y.2 < x.2) = true := decide_eq_true h.2
      have h2 : decide (x.2 < y.2) = false := decide_eq_false (by omega)
      simp only [invs, List.countP_cons, h1, h2, if_true, Bool.false_eq_true, if_false]
      omega
    · rcases next_or (y :: r) with k | k
      · exact .inl ⟨h, k⟩
      · right
        show invs (if x.1 = y.1 ∧ y.2 < x.2 then y :: x :: r else x :: next (y :: r)) < _
        rw [if_neg h]
        have p := (reach_next (y :: r)).perm.countP_eq (p := fun z => decide (z.2 < x.2))
        show List.countP _ (next (y :: r)) + invs (next (y :: r)) < List.countP _ (y :: r) + invs (y :: r)
        rw [p]
        omega
def iter : Nat → Row T → Row T
  | 0, r => r
  | n + 1, r => next (iter n r)
theorem reach_iter : ∀ (n : Nat) (r : Row T), Reach r (iter n r)
  | 0, r => .refl r
  | n + 1, r => (reach_iter n r).trans (reach_next _)
theorem iter_or : ∀ (n : Nat) (r : Row T), NoInv (iter n r) ∨ invs (iter n r) + n ≤ invs r
  | 0, r => .inr (Nat.le_refl _)
  | n + 1, r => by
    rcases iter_or n r with k | k
    · left
      show NoInv (next (iter n r))
      rw [next_same k]
      exact k
    · rcases next_or (iter n r) with q | q
      · left
        show NoInv (next (iter n r))
        rw [next_same q]
        exact q
      · right
        show invs (next (iter n r)) + (n + 1) ≤ invs r
        omega
theorem invs_le : ∀ r : Row T, invs r ≤ r.length * r.length
  | [] => Nat.le_refl _
  | x :: r => by
    have h := invs_le r
    have c : r.countP (fun y => decide (y.2 < x.2)) ≤ r.length := List.countP_le_length
    show r.countP _ + invs r ≤ (r.length + 1) * (r.length + 1)
    rw [Nat.add_mul, Nat.mul_add]
    omega
theorem iter_norm (r : Row T) : iter (r.length * r.length) r = norm r := by
  have hr := reach_iter (r.length * r.length) r
  refine (norm_of hr ?_).symm
  rcases iter_or (r.length * r.length) r with k | k
  · exact k
  · have h := invs_le r
    have z : invs (iter (r.length * r.length) r) = 0 := by omega
    rcases next_or (iter (r.length * r.length) r) with q | q
    · exact q
    · omega

/-! ### how many rows can be reached -/
theorem nodup_sub_len {α : Type} [DecidableEq α] : ∀ {l m : List α}, l.Nodup → (∀ x ∈ l, x ∈ m) → l.length ≤ m.length
  | [], _, _, _ => Nat.zero_le _
  | x :: l, m, h, s => by
    have h' := List.nodup_cons.mp h
    have hx : x ∈ m := s x List.mem_cons_self
    have e := List.length_erase_of_mem hx
    have pos : 0 < m.length := List.length_pos_of_mem hx
    have := nodup_sub_len (l := l) (m := m.erase x) h'.2 fun y hy => by
      have ne : y ≠ x := fun z => h'.1 (z ▸ hy)
      exact (List.mem_erase_of_ne ne).mpr (s y (List.mem_cons_of_mem _ hy))
    rw [List.length_cons]
    omega
/-- all places at which x can be put -/
def putAll {α : Type} (x : α) : List α → List (List α)
  | [] => [[x]]
  | y :: r => (x :: y :: r) :: (putAll x r).map (y :: ·)
def perms {α : Type} : List α → List (List α)
  | [] => [[]]
  | x :: r => (perms r).flatMap (putAll x)
def fact : Nat → Nat
  | 0 => 1
  | n + 1 => fact n * (n + 1)
theorem putAll_len {α : Type} (x : α) : ∀ l : List α, (putAll x l).length = l.length + 1
  | [] => rfl
  | y :: r => by
    show ((putAll x r).map (y :: ·)).length + 1 = _
    rw [List.length_map, putAll_len x r]
    rfl
theorem putAll_mem {α : Type} (x : α) : ∀ a b : List α, a ++ x :: b ∈ putAll x (a ++ b)
  | [], [] => by simp [putAll]
  | [], y :: r => by simp [putAll]
  | y :: a, b => by
    show y :: (a ++ x :: b) ∈ (x :: y :: (a ++ b)) :: (putAll x (a ++ b)).map (y :: ·)
    exact List.mem_cons_of_mem _ (List.mem_map.mpr ⟨_, putAll_mem x a b, rfl⟩)
theorem putAll_each {α : Type} (x : α) : ∀ (l m : List α), m ∈ putAll x l → m.length = l.length + 1
  | [], m, h => by
    rw [List.mem_singleton.mp h]
    rfl
  | y :: r, m, h => by
    rcases List.mem_cons.mp h with h | h
    · rw [h]
      rfl
    · obtain ⟨u, hu, rfl⟩ := List.mem_map.mp h
      rw [List.length_cons, putAll_each x r u hu]
      rfl
theorem perms_each {α : Type} : ∀ (l m : List α), m ∈ perms l → m.length = l.length
  | [], m, h => by
    rw [List.mem_singleton.mp h]
  | x :: r, m, h => by
    obtain ⟨u, hu, hm⟩ := List.mem_flatMap.mp h
    rw [putAll_each x u m hm, perms_each r u hu]
    rfl
theorem flat_len {α β : Type} (f : α → List β) (c : Nat) : ∀ l : List α, (∀ x ∈ l, (f x).length = c) → (l.flatMap f).length = l.length * c
  | [], _ => by simp
  | x :: r, h => by
    rw [List.flatMap_cons, List.length_append, h x List.mem_cons_self, flat_len f c r fun y hy => h y (List.mem_cons_of_mem _ hy), List.length_cons, Nat.add_mul]
    omega
theorem perms_len {α : Type} : ∀ l : List α, (perms l).length = fact l.length
  | [] => rfl
  | x :: r => by
    show ((perms r).flatMap (putAll x)).length = fact r.length * (r.length + 1)
    rw [flat_len (putAll x) (r.length + 1) _ fun u hu => by rw [putAll_len, perms_each r u hu], perms_len r]
theorem mem_perms {α : Type} [DecidableEq α] : ∀ {l m : List α}, m.Perm l → m ∈ perms l
  | [], m, h => by
    rw [List.Perm.eq_nil h]
    exact List.mem_singleton.mpr rfl
  | x :: r, m, h => by
    have hx : x ∈ m := h.mem_iff.mpr List.mem_cons_self
    obtain ⟨a, b, rfl⟩ := List.append_of_mem hx
    have p : (a ++ b).Perm r := by
      have q : (x :: (a ++ b)).Perm (x :: r) := (List.perm_middle.symm).trans h
      exact List.Perm.cons_inv q
    exact List.mem_flatMap.mpr ⟨a ++ b, mem_perms p, putAll_mem x a b⟩
theorem fact_mono {m n : Nat} (h : m ≤ n) : fact m ≤ fact n := by
  induction h with
  | refl => exact Nat.le_refl _
  | step _ ih => exact Nat.le_trans ih (by show fact _ ≤ fact _ * (_ + 1); exact Nat.le_mul_of_pos_right _ (by omega))
/-- no more than 720 rows of six layers -/
theorem keys_le {r : Row T} {ks : List (Row T)} (hl : r.length ≤ 6) (nd : ks.Nodup) (h : ∀ a ∈ ks, Reach r a) : ks.length ≤ 720 := by
  have h1 := nodup_sub_len nd fun a ha => mem_perms (h a ha).perm
  rw [perms_len] at h1
  exact Nat.le_trans h1 (fact_mono hl)
/-- a set of rows that holds r, is reached from r and is closed under exchanges is all that is reached -/
theorem closed_all {r : Row T} {ks : List (Row T)} (h0 : r ∈ ks) (h1 : ∀ a ∈ ks, Reach r a) (h2 : ∀ a ∈ ks, ∀ b, Step a b → b ∈ ks) (b : Row T) : b ∈ ks ↔ Reach r b := by
  refine ⟨h1 b, fun h => ?_⟩
  induction h with
  | refl => exact h0
  | tail _ s ih => exact h2 _ ih _ s
end
end Fade

namespace Fade
open PySem PySem.Spec PyProof.Rows L2
/-! ### the text by places -/
def topS (i : Nat) : Stmt := PySem.Challenge.pw_fadeleaf_k18_whole_alike_just_so.main.body.getD i (.Pass ⟨0, 0, 0, 0⟩)
abbrev tS1 : Stmt := topS 1
theorem scS1 : FnScope ["row", "found", "layer"] ["row"] (defScope tS1) := ⟨rfl, rfl, rfl, by decide +kernel, rfl, by decide +kernel, by decide +kernel⟩
abbrev tS2 : Stmt := topS 2
theorem scS2 : FnScope ["row", "found", "stretch"] ["row"] (defScope tS2) := ⟨rfl, rfl, rfl, by decide +kernel, rfl, by decide +kernel, by decide +kernel⟩
abbrev tS3 : Stmt := topS 3
theorem scS3 : FnScope ["one", "other"] ["one", "other"] (defScope tS3) := ⟨rfl, rfl, rfl, by decide +kernel, rfl, by decide +kernel, by decide +kernel⟩
abbrev tS5 : Stmt := topS 5
theorem scS5 : FnScope ["_law_script", "_law_k"] ["_law_script", "_law_k"] (defScope tS5) := ⟨rfl, rfl, rfl, by decide +kernel, rfl, by decide +kernel, by decide +kernel⟩
abbrev tS6 : Stmt := topS 6
theorem scS6 : FnScope ["_law_cell_here", "_law_k"] ["_law_cell_here", "_law_k"] (defScope tS6) := ⟨rfl, rfl, rfl, by decide +kernel, rfl, by decide +kernel, by decide +kernel⟩
abbrev tS7 : Stmt := topS 7
theorem scS7 : FnScope ["_law_pot_here", "_law_many", "_law_digit"] ["_law_pot_here", "_law_many"] (defScope tS7) := ⟨rfl, rfl, rfl, by decide +kernel, rfl, by decide +kernel, by decide +kernel⟩
abbrev tS8 : Stmt := topS 8
theorem scS8 : FnScope ["_law_pot_here", "_law_letters", "_law_k"] ["_law_pot_here"] (defScope tS8) := ⟨rfl, rfl, rfl, by decide +kernel, rfl, by decide +kernel, by decide +kernel⟩
abbrev tS9 : Stmt := topS 9
theorem scS9 : FnScope ["_law_pot_here", "_law_many", "_law_found", "_law_k", "_law_name", "_law_some", "_law_letter", "_law_one"] ["_law_pot_here", "_law_many"] (defScope tS9) := ⟨rfl, rfl, rfl, by decide +kernel, rfl, by decide +kernel, by decide +kernel⟩
abbrev tS10 : Stmt := topS 10
theorem scS10 : FnScope ["_law_pot_here"] ["_law_pot_here"] (defScope tS10) := ⟨rfl, rfl, rfl, by decide +kernel, rfl, by decide +kernel, by decide +kernel⟩
abbrev tS11 : Stmt := topS 11
theorem scS11 : FnScope ["_law_pot_here", "_law_tags", "_law_most", "_law_k"] ["_law_pot_here", "_law_tags", "_law_most"] (defScope tS11) := ⟨rfl, rfl, rfl, by decide +kernel, rfl, by decide +kernel, by decide +kernel⟩
abbrev tS12 : Stmt := topS 12
theorem scS12 : FnScope ["_law_row_here", "_law_k"] ["_law_row_here", "_law_k"] (defScope tS12) := ⟨rfl, rfl, rfl, by decide +kernel, rfl, by decide +kernel, by decide +kernel⟩
abbrev tS13 : Stmt := topS 13
theorem scS13 : FnScope ["_law_row_here", "_law_found", "_law_waiting", "_law_here", "_law_k", "_law_there"] ["_law_row_here"] (defScope tS13) := ⟨rfl, rfl, rfl, by decide +kernel, rfl, by decide +kernel, by decide +kernel⟩
abbrev tS14 : Stmt := topS 14
theorem scS14 : FnScope ["_law_pot_here", "_law_row_here", "_law_is_free", "_law_turn", "_law_k"] ["_law_pot_here", "_law_row_here"] (defScope tS14) := ⟨rfl, rfl, rfl, by decide +kernel, rfl, by decide +kernel, by decide +kernel⟩
abbrev tS15 : Stmt := topS 15
theorem scS15 : FnScope ["_law_pot_here", "_law_row_here", "_law_tags", "_law_way", "_law_k", "_law_tag", "_law_strength_here"] ["_law_pot_here", "_law_row_here", "_law_tags"] (defScope tS15) := ⟨rfl, rfl, rfl, by decide +kernel, rfl, by decide +kernel, by decide +kernel⟩
abbrev tS16 : Stmt := topS 16
theorem scS16 : FnScope ["_law_one", "_law_other", "_law_is_so", "_law_held", "_law_told"] ["_law_one", "_law_other"] (defScope tS16) := ⟨rfl, rfl, rfl, by decide +kernel, rfl, by decide +kernel, by decide +kernel⟩
abbrev tS17 : Stmt := topS 17
theorem scS17 : FnScope ["_law_row_here", "_law_k"] ["_law_row_here"] (defScope tS17) := ⟨rfl, rfl, rfl, by decide +kernel, rfl, by decide +kernel, by decide +kernel⟩
abbrev tS18 : Stmt := topS 18
theorem scS18 : FnScope ["_law_row_here", "_law_turn"] ["_law_row_here"] (defScope tS18) := ⟨rfl, rfl, rfl, by decide +kernel, rfl, by decide +kernel, by decide +kernel⟩
abbrev tS19 : Stmt := topS 19
theorem scS19 : FnScope ["_law_pot_here", "_law_tags", "_law_row_here", "_law_other", "_law_is_so"] ["_law_pot_here", "_law_tags"] (defScope tS19) := ⟨rfl, rfl, rfl, by decide +kernel, rfl, by decide +kernel, by decide +kernel⟩
abbrev tS20 : Stmt := topS 20
theorem scS20 : FnScope ["_law_script", "_law_k", "_law_pot_here", "_law_tags", "_law_row_here", "_law_other"] ["_law_script"] (defScope tS20) := ⟨rfl, rfl, rfl, by decide +kernel, rfl, by decide +kernel, by decide +kernel⟩
end Fade

namespace Fade
open PySem PySem.Spec PyProof.Rows L2
abbrev Rw := Row Str
/-! ### rows in the heap -/
def LayAt (H : Hp) (v : V) (l : Str × Int) : Prop := ∃ a, v = .ref a ∧ H a = some (.tup [.str l.1, .int l.2])
inductive LaysAt (H : Hp) : List V → Rw → Prop
  | nil : LaysAt H [] []
  | cons {v vs l r} : LayAt H v l → LaysAt H vs r → LaysAt H (v :: vs) (l :: r)
def RowAt (H : Hp) (a : Addr) (r : Rw) : Prop := ∃ vs, H a = some (.tup vs) ∧ LaysAt H vs r
/-- tuples stay -/
def Tups (H H' : Hp) : Prop := ∀ b xs, H b = some (.tup xs) → H' b = some (.tup xs)
theorem Tups.refl (H : Hp) : Tups H H := fun _ _ h => h
theorem Tups.trans {H H1 H2 : Hp} (a : Tups H H1) (b : Tups H1 H2) : Tups H H2 := fun c xs h => b c xs (a c xs h)
theorem Tups.of {H H' : Hp} (s : Same H H') : Tups H H' := fun b xs h => s b _ h
theorem Tups.new {H : Hp} {p : Addr} {o : HO} (h : H p = none) : Tups H (upd H p o) := fun b xs e => by
  rw [upd_ne (ne_of_none e h)]
  exact e
theorem Tups.set {H : Hp} {p : Addr} {o u : HO} (h : H p = some u) (n : ∀ xs, u ≠ .tup xs) : Tups H (upd H p o) := fun b xs e => by
  rw [upd_ne (ne_of e h (Ne.symm (n xs)))]
  exact e
theorem same_new {H : Hp} {p : Addr} {o : HO} (h : H p = none) : Same H (upd H p o) := fun b x e => by
  rw [upd_ne (ne_of_none e h)]
  exact e
theorem LayAt.mono {H H' : Hp} (t : Tups H H') {v : V} {l : Str × Int} (h : LayAt H v l) : LayAt H' v l :=
  let ⟨a, e, q⟩ := h; ⟨a, e, t _ _ q⟩
theorem LaysAt.mono {H H' : Hp} (t : Tups H H') {vs : List V} {r : Rw} (h : LaysAt H vs r) : LaysAt H' vs r := by
  induction h with
  | nil => exact .nil
  | cons a _ ih => exact .cons (a.mono t) ih
theorem RowAt.mono {H H' : Hp} (t : Tups H H') {a : Addr} {r : Rw} (h : RowAt H a r) : RowAt H' a r :=
  let ⟨vs, e, q⟩ := h; ⟨vs, t _ _ e, q.mono t⟩
theorem LaysAt.length {H : Hp} {vs : List V} {r : Rw} (h : LaysAt H vs r) : vs.length = r.length := by
  induction h with
  | nil => rfl
  | cons _ _ ih => rw [List.length_cons, List.length_cons, ih]
theorem LaysAt.get {H : Hp} {vs : List V} {r : Rw} (h : LaysAt H vs r) : ∀ {i : Nat} {l : Str × Int}, r[i]? = some l → ∃ v, vs[i]? = some v ∧ LayAt H v l := by
  induction h with
  | nil => intro i l e; cases e
  | cons a _ ih =>
    intro i l e
    cases i with
    | zero =>
      cases e
      exact ⟨_, rfl, a⟩
    | succ i => exact ih e
theorem LaysAt.app {H : Hp} {vs us : List V} {r q : Rw} (h : LaysAt H vs r) (k : LaysAt H us q) : LaysAt H (vs ++ us) (r ++ q) := by
  induction h with
  | nil => exact k
  | cons a _ ih => exact .cons a ih
theorem LaysAt.take {H : Hp} {vs : List V} {r : Rw} (h : LaysAt H vs r) : ∀ n, LaysAt H (vs.take n) (r.take n) := by
  induction h with
  | nil => intro n; simp only [List.take_nil]; exact .nil
  | cons a _ ih =>
    intro n
    cases n with
    | zero => exact .nil
    | succ n => exact .cons a (ih n)
theorem LaysAt.drop {H : Hp} {vs : List V} {r : Rw} (h : LaysAt H vs r) : ∀ n, LaysAt H (vs.drop n) (r.drop n) := by
  induction h with
  | nil => intro n; simp only [List.drop_nil]; exact .nil
  | cons a h ih =>
    intro n
    cases n with
    | zero => exact .cons a h
    | succ n => exact ih n
theorem LaysAt.inj {H : Hp} {vs : List V} {r q : Rw} (h : LaysAt H vs r) (k : LaysAt H vs q) : r = q := by
  induction h generalizing q with
  | nil => cases k; rfl
  | @cons v vs l r a _ ih =>
    cases k with
    | @cons _ _ l2 r2 b k =>
      obtain ⟨x, e1, e2⟩ := a
      obtain ⟨y, e3, e4⟩ := b
      rw [e1] at e3
      cases e3
      rw [e2] at e4
      injection e4 with e5
      injection e5 with e6
      injection e6 with e7 e8
      injection e7 with e9
      injection e8 with e10 _
      injection e10 with e11
      rw [ih k, show l = l2 from Prod.ext e9 e11]
/-! ### as data -/
def dataL (l : Str × Int) : PyData := .tuple [.str l.1, .int l.2]
def dataR (r : Rw) : PyData := .tuple (r.map dataL)
theorem LayAt.dp {K : PySem.W.Frag} {H : Hp} {v : V} {l : Str × Int} (h : LayAt H v l) : Dp K H v (dataL l) := by
  obtain ⟨a, rfl, e⟩ := h
  exact .tup (SqT.of e) (.cons (.str _) (.cons (.int _) .nil))
theorem LaysAt.dp {K : PySem.W.Frag} {H : Hp} {vs : List V} {r : Rw} (h : LaysAt H vs r) : DpAll K H vs (r.map dataL) := by
  induction h with
  | nil => exact .nil
  | cons a _ ih => exact .cons a.dp ih
theorem RowAt.dp {K : PySem.W.Frag} {H : Hp} {a : Addr} {r : Rw} (h : RowAt H a r) : Dp K H (.ref a) (dataR r) := by
  obtain ⟨vs, e, q⟩ := h
  exact .tup (SqT.of e) q.dp
theorem eqv_lay (x y : Str × Int) : PyData.eqv (dataL x) (dataL y) = decide (x = y) := by
  obtain ⟨t, i⟩ := x
  obtain ⟨u, j⟩ := y
  simp only [dataL, PyData.eqv, PyData.eqvAll, Bool.and_true]
  by_cases h : t = u <;> by_cases k : i = j <;> simp [h, k]
theorem eqv_lays : ∀ a b : Rw, PyData.eqvAll (a.map dataL) (b.map dataL) = decide (a = b)
  | [], [] => rfl
  | [], _ :: _ => rfl
  | _ :: _, [] => rfl
  | x :: a, y :: b => by
    rw [List.map_cons, List.map_cons, PyData.eqvAll, eqv_lay, eqv_lays a b]
    by_cases h : x = y <;> by_cases k : a = b <;> simp [h, k]
theorem eqv_row (a b : Rw) : PyData.eqv (dataR a) (dataR b) = decide (a = b) := by
  unfold dataR
  rw [PyData.eqv]
  exact eqv_lays a b
/-! ### bounds -/
def IsTag (z : Str) : Prop := z.length ≤ 8 ∧ ∀ c ∈ z.cps.toList, c < 128
def LayOk (l : Str × Int) : Prop := IsTag l.1 ∧ 1 ≤ l.2 ∧ l.2 < 2 ^ 220
def RowOk (r : Rw) : Prop := ∀ l ∈ r, LayOk l
theorem IsTag.strOk {z : Str} (h : IsTag z) : PyData.strOk z = true := by
  unfold PyData.strOk
  rw [← Array.all_toList, List.all_eq_true]
  intro c hc
  have := h.2 c hc
  exact decide_eq_true (by omega)
theorem canLay_lay {l : Str × Int} (h : IsTag l.1) : (dataL l).canLay0 = true := by
  simp only [dataL, PyData.canLay0, PyData.canLayAll0, h.strOk, Bool.and_true]
theorem canLay_lays : ∀ {r : Rw}, RowOk r → PyData.canLayAll0 (r.map dataL) = true
  | [], _ => rfl
  | x :: r, h => by
    rw [List.map_cons, PyData.canLayAll0, canLay_lay (h x List.mem_cons_self).1, canLay_lays fun l hl => h l (List.mem_cons_of_mem _ hl)]
    rfl
theorem canLay_row {r : Rw} (h : RowOk r) : (dataR r).canLay0 = true := by
  unfold dataR
  rw [PyData.canLay0]
  exact canLay_lays h
theorem depth_lay (l : Str × Int) : (dataL l).depth = 1 := by
  simp [dataL, PyData.depth, PyData.depthAll]
theorem depth_lays : ∀ r : Rw, PyData.depthAll (r.map dataL) ≤ 1
  | [] => by simp [PyData.depthAll]
  | x :: r => by
    rw [List.map_cons, PyData.depthAll, depth_lay]
    have := depth_lays r
    omega
theorem depth_row (r : Rw) : (dataR r).depth ≤ 2 := by
  unfold dataR
  rw [PyData.depth]
  have := depth_lays r
  omega
theorem shaped_row {r : Rw} (h : RowOk r) : SeqAt.shaped (dataR r) = true := by
  unfold SeqAt.shaped
  rw [canLay_row h, Bool.true_and]
  have := depth_row r
  exact decide_eq_true (by omega)
theorem log2_ok {i : Int} (h1 : 1 ≤ i) (h2 : i < 2 ^ 220) : i.natAbs.log2 < 221 := by
  have h : i.natAbs < 2 ^ 220 := by omega
  have := (Nat.log2_lt (n := i.natAbs) (k := 220) (by omega)).mpr h
  omega
theorem showable_lay {l : Str × Int} (h : LayOk l) : (dataL l).showable = true := by
  have := log2_ok h.2.1 h.2.2
  simp only [dataL, PyData.showable, PyData.showableAll, Bool.and_true, Bool.true_and]
  exact decide_eq_true (by omega)
theorem showable_lays : ∀ {r : Rw}, RowOk r → PyData.showableAll (r.map dataL) = true
  | [], _ => rfl
  | x :: r, h => by
    rw [List.map_cons, PyData.showableAll, showable_lay (h x List.mem_cons_self), showable_lays fun l hl => h l (List.mem_cons_of_mem _ hl)]
    rfl
theorem showable_row {r : Rw} (h : RowOk r) : (dataR r).showable = true := by
  unfold dataR
  rw [PyData.showable]
  exact showable_lays h
theorem noDict_lays : ∀ r : Rw, PyData.hasDictAll (r.map dataL) = false
  | [] => rfl
  | x :: r => by
    rw [List.map_cons, PyData.hasDictAll, noDict_lays r]
    simp [dataL, PyData.hasDict, PyData.hasDictAll]
theorem tup_text (ts : List Str) : (tupleText ts).length ≤ piled ts + 3 := by
  have := fmt_text ts
  omega
theorem list_text (ts : List Str) : (listText ts).length ≤ piled ts + 3 := by
  have hX : (listText ts).length = (textFrom 0 "[" ts).length + 1 := by
    show (textFrom 0 "[" ts ++ "]").length = _
    rw [strLen_append]; rfl
  cases ts with
  | nil =>
    rw [hX]
    show (("[" : String) : Str).length + 1 ≤ _
    have : (("[" : String) : Str).length = 1 := rfl
    omega
  | cons t r =>
    have hY : (textFrom 0 "[" (t :: r)).length = (textFrom 1 (("[" : Str) ++ (if (0 : Nat) > 0 then ", " else "" : String) ++ t) r).length := rfl
    have hZ := textFrom_length_pos r 1 (("[" : Str) ++ (if (0 : Nat) > 0 then ", " else "" : String) ++ t) (Nat.succ_pos 0)
    have e : ((("[" : Str) ++ (if (0 : Nat) > 0 then ", " else "" : String) ++ t)).length = 1 + t.length := by
      rw [strLen_append, strLen_append]; rfl
    rw [hX, hY, hZ, e, piled_cons]
    omega
theorem shown_lay {l : Str × Int} (h : LayOk l) : (dataL l).shown.length ≤ 400 := by
  have h1 := StrLaws.reprText_len l.1 fun c hc => Nat.lt_trans (h.1.2 c hc) (by decide)
  have h2 := int_text_length_le (k := 221) (by decide) (log2_ok h.2.1 h.2.2)
  have h3 : (Str.ofString (toString l.2)).length = (toString l.2).length := PySem.ofString_length _
  have h4 := h.1.1
  simp only [dataL, PyData.shown, PyData.shownAll]
  have h5 := tup_text [reprText l.1, (toString l.2 : String)]
  rw [piled_cons, piled_cons, piled_nil] at h5
  have h6 : ((toString l.2 : String) : Str).length = (toString l.2).length := h3
  omega
theorem shown_lays : ∀ {r : Rw}, RowOk r → piled (PyData.shownAll (r.map dataL)) ≤ 402 * r.length
  | [], _ => Nat.zero_le _
  | x :: r, h => by
    rw [List.map_cons, PyData.shownAll, piled_cons, List.length_cons]
    have h1 := shown_lay (h x List.mem_cons_self)
    have h2 := shown_lays (r := r) fun l hl => h l (List.mem_cons_of_mem _ hl)
    omega
theorem shown_row {r : Rw} (h : RowOk r) : (dataR r).shown.length ≤ 402 * r.length + 3 := by
  unfold dataR
  rw [PyData.shown]
  have h1 := tup_text (PyData.shownAll (r.map dataL))
  have h2 := shown_lays h
  omega
/-- [one, other] -/
def dataP (a b : Rw) : PyData := .list [dataR a, dataR b]
theorem shown_pair {a b : Rw} (h : RowOk a) (k : RowOk b) (la : a.length ≤ 100) (lb : b.length ≤ 100) : (dataP a b).shown.length ≤ sizeLine := by
  unfold dataP
  rw [PyData.shown, PyData.shownAll, PyData.shownAll, PyData.shownAll]
  have h1 := list_text [(dataR a).shown, (dataR b).shown]
  rw [piled_cons, piled_cons, piled_nil] at h1
  have h2 := shown_row h
  have h3 := shown_row k
  rw [sizeLine_eq]
  omega
/-! ### repr of a list, by what it holds -/
section
variable {X : Cx}
def rRepr (K : PySem.W.Frag) : List V → Hp → VK → Prop := fun xs H Q => ∃ a d, xs = [V.ref a] ∧ Dp K H (.ref a) d ∧ d.showable = true ∧ d.hasDict = false ∧ d.depth ≤ 10 ∧ d.shown.length ≤ sizeLine ∧ Q (.str d.shown) H
theorem call_reprD (hg : X.A.guards = some []) (hu : X.A.units + 64 < cLine) : CallR X (.builtin "repr") (rRepr X.K) := by
  intro pins s σ H xs us Q I r h
  obtain ⟨a, d, rfl, hd, hs, hn, hp, hz, q⟩ := h
  obtain ⟨u, rfl, ru⟩ := vals1 r
  obtain rfl : u = Value.ref a := ru
  obtain ⟨as, rd⟩ := Dp.reads I d _ _ hd rfl
  exact repr_of_reads' rd hs (PyData.noDict_hsm hn) hg (by omega) (fun _ _ e => e) (fun h' t tk k => ⟨.str d.shown, H, I.kept k, ⟨_, rfl⟩, q⟩) hz
end
end Fade

namespace Fade
open PySem PySem.Spec PyProof.Rows L2
/-! ### rows as keys -/
def keyL (l : Str × Int) : NestedKey := .tup [.text l.1, .num l.2]
def keyR (r : Rw) : NestedKey := .tup (r.map keyL)
theorem keyL_inj {x y : Str × Int} (h : keyL x = keyL y) : x = y := by
  obtain ⟨t, i⟩ := x
  obtain ⟨u, j⟩ := y
  unfold keyL at h
  injection h with h
  injection h with h1 h2
  injection h2 with h2 _
  injection h1 with h1
  injection h2 with h2
  exact Prod.ext h1 h2
theorem keys_inj : ∀ {a b : Rw}, a.map keyL = b.map keyL → a = b
  | [], [], _ => rfl
  | [], _ :: _, h => by cases h
  | _ :: _, [], h => by cases h
  | x :: a, y :: b, h => by
    rw [List.map_cons, List.map_cons] at h
    injection h with h1 h2
    rw [keyL_inj h1, keys_inj h2]
theorem keyR_inj {a b : Rw} (h : keyR a = keyR b) : a = b := by
  unfold keyR at h
  injection h with h
  exact keys_inj h
theorem keyL_depth (l : Str × Int) : (keyL l).depth = 1 := by
  simp [keyL, NestedKey.depth, NestedKey.depthAll]
theorem keys_depth : ∀ r : Rw, NestedKey.depthAll (r.map keyL) ≤ 1
  | [] => by simp [NestedKey.depthAll]
  | x :: r => by
    rw [List.map_cons, NestedKey.depthAll, keyL_depth]
    have := keys_depth r
    omega
theorem keyR_depth (r : Rw) : (keyR r).depth ≤ 8 := by
  unfold keyR
  rw [NestedKey.depth]
  have := keys_depth r
  omega
section
variable {X : Cx} {pins : List (Addr × Obj)} {σ : L2.St} {H : Hp} {s : Shared}
theorem lay_is (I : Inv X pins σ H s) {v : V} {u : Value} {l : Str × Int} (h : LayAt H v l) (r : RelV v u) : NestedIs s.heap (keyL l) u := by
  obtain ⟨a, rfl, e⟩ := h
  obtain rfl : u = Value.ref a := r
  obtain ⟨its, rv, ⟨o, ho, hc, n, hd⟩, _⟩ := I.tuple (SqT.of e)
  obtain ⟨u1, u2, rfl, ⟨t1, rfl⟩, ⟨t2, rfl⟩⟩ := vals2 rv
  exact .tup ho hc hd (.cons (.text _ _) (.cons (.int _ _) .nil))
theorem lays_are (I : Inv X pins σ H s) {vs : List V} {r : Rw} (h : LaysAt H vs r) : ∀ {us : List Value}, Vals vs us → NestedAll s.heap (r.map keyL) us := by
  induction h with
  | nil =>
    intro us rv
    cases rv
    exact .nil
  | cons a _ ih =>
    intro us rv
    cases rv with
    | cons r1 r2 => exact .cons (lay_is I a r1) (ih r2)
theorem row_is (I : Inv X pins σ H s) {a : Addr} {r : Rw} (h : RowAt H a r) : (nestedKind X.prog X.w).is s.heap (keyR r) a := by
  obtain ⟨vs, e, q⟩ := h
  obtain ⟨its, rv, ⟨o, ho, hc, n, hd⟩, _⟩ := I.tuple (SqT.of e)
  refine ⟨.tup ho hc hd ?_, keyR_depth r⟩
  have z := lays_are I q rv
  simpa using z
end
/-! ### a dict of rows -/
abbrev ent (x : Rw × Addr) : NestedKey × Addr × Value := (keyR x.1, x.2, Value.bool true)
def DctO (P : Program) (w : World) (d : Addr) (kas : List (Rw × Addr)) : HO := .ext fun h => ∃ o es ep, h.get? d = some o ∧ o.ExactDict ∧ o.data = .dict es ep ∧ es.toList = (kas.map ent).map (entryOfKey (nestedKind P w))
structure DctAt (P : Program) (w : World) (H : Hp) (d : Addr) (kas : List (Rw × Addr)) : Prop where
  is : H d = some (DctO P w d kas)
  ne : (d == sysModules) = false
  nd : (kas.map (·.1)).Nodup
  rows : ∀ x ∈ kas, RowAt H x.2 x.1
theorem DctAt.mono {P : Program} {w : World} {H H' : Hp} {d : Addr} {kas : List (Rw × Addr)} (x : DctAt P w H d kas) (s : Same H H') : DctAt P w H' d kas :=
  ⟨s _ _ x.is, x.ne, x.nd, fun y hy => (x.rows y hy).mono (.of s)⟩
theorem ent_keys (kas : List (Rw × Addr)) : (kas.map ent).map (·.1) = (kas.map (·.1)).map keyR := by
  rw [List.map_map, List.map_map]
  rfl
theorem ent_at (r : Rw) : ∀ kas : List (Rw × Addr), (atKey (kas.map ent) (keyR r)).isSome = decide (r ∈ kas.map (·.1))
  | [] => rfl
  | x :: kas => by
    have ih := ent_at r kas
    unfold atKey at ih ⊢
    rw [List.map_cons, List.find?_cons, List.map_cons]
    by_cases h : x.1 = r
    · have e : decide ((ent x).1 = keyR r) = true := decide_eq_true (congrArg keyR h)
      rw [e]
      simp [h]
    · have e : decide ((ent x).1 = keyR r) = false := decide_eq_false fun z => h (keyR_inj z)
      rw [e]
      show (Option.map _ (List.find? _ _)).isSome = _
      rw [ih]
      have : r ≠ x.1 := fun z => h z.symm
      simp [this]
section
variable {X : Cx} {pins : List (Addr × Obj)} {σ : L2.St} {H : Hp} {s : Shared} {d : Addr} {kas : List (Rw × Addr)}
theorem DctAt.ofH (I : Inv X pins σ H s) (x : DctAt X.prog X.w H d kas) : s.heap.DictOfH (nestedKind X.prog X.w) d (kas.map ent) := by
  obtain ⟨⟨o, es, ep, h1, h2, h3, h4⟩, _, _⟩ := I.hok d _ x.is
  refine ⟨o, es, ep, h1, h2, h3, h4, fun y hy => ?_, ?_⟩
  · obtain ⟨z, hz, rfl⟩ := List.mem_map.mp hy
    exact row_is I (x.rows z hz)
  · rw [ent_keys, List.Nodup, List.pairwise_map]
    exact x.nd.imp fun ne e => ne (keyR_inj e)
theorem dct_ok {H' : Hp} {h' : Heap} (m : h'.DictOfH (nestedKind X.prog X.w) d (kas.map ent)) : ObjOk X.prog X.w H' h' d (DctO X.prog X.w d kas) := by
  obtain ⟨o, es, ep, h1, h2, h3, h4, _, _⟩ := m
  exact ⟨⟨o, es, ep, h1, h2, h3, h4⟩, ⟨o, h1⟩, fun h1 h2 ⟨o, es, ep, a, b, c, e⟩ k => ⟨o, es, ep, k _ a, b, c, e⟩⟩
end
/-! ### in, not in, d[row] = True, {row: True} -/
section
variable {X : Cx}
def rDIn (P : Program) (w : World) (neg : Bool) : R2 := fun x y H Q => ∃ a d r kas, x = .ref a ∧ y = .ref d ∧ RowAt H a r ∧ DctAt P w H d kas ∧ Q (.bl (neg ^^ decide (r ∈ kas.map (·.1)))) H
theorem op_rowIn (hu : X.A.units + 64 < cLine) : OpR X (compareOp .In) (rDIn X.prog X.w false) := by
  intro pins s σ H x y v u Q I rx ry h
  obtain ⟨a, d, r, kas, rfl, rfl, hr, hd, q⟩ := h
  obtain rfl : v = Value.ref a := rx
  obtain rfl : u = Value.ref d := ry
  refine wpAny_in_heap (knd := nestedKind X.prog X.w) (by show X.A.units + 1 + 8 < cLine; omega) (row_is I hr) hd.ne (hd.ofH I) ⟨.bl _, H, I.tok _, rfl, ?_⟩
  rw [ent_at]
  simpa using q
theorem op_rowNotIn (hu : X.A.units + 64 < cLine) : OpR X (compareOp .NotIn) (rDIn X.prog X.w true) := by
  intro pins s σ H x y v u Q I rx ry h
  obtain ⟨a, d, r, kas, rfl, rfl, hr, hd, q⟩ := h
  obtain rfl : v = Value.ref a := rx
  obtain rfl : u = Value.ref d := ry
  show wpAny (model X.prog X.w) X.A (do return Value.bool (!(← contains (Value.ref d) (Value.ref a)))) _ X.xe s
  refine wpAny_bind (wpAny_contains_heap (knd := nestedKind X.prog X.w) (by show X.A.units + 1 + 8 < cLine; omega) (row_is I hr) hd.ne (hd.ofH I) (wpAny_pure ⟨.bl _, H, I.tok _, rfl, ?_⟩))
  rw [ent_at]
  simpa using q
def rDPut (P : Program) (w : World) : TSet := fun o i v H Q => ∃ a d r kas, i = .ref a ∧ o = .ref d ∧ v = .bl true ∧ RowAt H a r ∧ DctAt P w H d kas ∧ r ∉ kas.map (·.1) ∧ kas.length ≤ 1000 ∧
  (DctAt P w (upd H d (DctO P w d (kas ++ [(r, a)]))) d (kas ++ [(r, a)]) → Q (upd H d (DctO P w d (kas ++ [(r, a)]))))
theorem set_rowPut (hu : X.A.units + 64 < cLine) : PSet X (rDPut X.prog X.w) := by
  intro pins s σ H o i v ov iv u Q I ro ri rv h
  obtain ⟨a, d, r, kas, rfl, rfl, rfl, hr, hd, hn, hz, q⟩ := h
  obtain rfl : iv = Value.ref a := ri
  obtain rfl : ov = Value.ref d := ro
  obtain rfl : u = Value.bool true := rv
  have nf : atKey (kas.map ent) (keyR r) = none := by
    have e := ent_at r kas
    rw [decide_eq_false hn] at e
    exact Option.not_isSome_iff_eq_none.mp (by rw [e]; exact Bool.false_ne_true)
  have eS : storedH (kas.map ent) (keyR r) a (Value.bool true) = (kas ++ [(r, a)]).map ent := by
    rw [storedH_new nf, List.map_append]
    rfl
  refine wpAny_setItem_heap (knd := nestedKind X.prog X.w) (by show X.A.units + 1 + 8 < cLine; omega) (row_is I hr) (hd.ofH I) (fun h' hm' hs => ?_) (by rw [List.length_map, sizeLine_eq]; omega)
  rw [eS] at hm'
  have tp : Tups H (upd H d (DctO X.prog X.w d (kas ++ [(r, a)]))) := .set hd.is fun xs z => by
    unfold DctO at z
    cases z
  have D' : DctAt X.prog X.w (upd H d (DctO X.prog X.w d (kas ++ [(r, a)]))) d (kas ++ [(r, a)]) := by
    refine ⟨upd_same, hd.ne, ?_, fun y hy => ?_⟩
    · rw [List.map_append, List.nodup_append]
      refine ⟨hd.nd, by simp, fun x hx y hy e => ?_⟩
      rw [e] at hx
      rw [List.mem_singleton.mp hy] at hx
      exact hn hx
    · rcases List.mem_append.mp hy with hy | hy
      · exact (hd.rows y hy).mono tp
      · rw [List.mem_singleton.mp hy]
        exact hr.mono tp
  refine ⟨_, I.write (x := d) (e := d) (o := DctO X.prog X.w d (kas ++ [(r, a)])) (h' := h') (by rw [hd.is]; unfold DctO; trivial) (.inl rfl) (fun b ob hb e => (hs.2 b hb).trans e) ?_ (dct_ok hm'), q D'⟩
  obtain ⟨ob, _, _, e, _⟩ := hm'
  exact ⟨ob, e⟩
/-- {row: True}: the dict stands empty while the row is looked up -/
def tRowDict (P : Program) (w : World) (te : TE) : TE := fun σ H Q => ∀ d, H d = none → te σ (upd H d (DctO P w d [])) fun x H1 => H1 d = some (DctO P w d []) ∧ ∃ a r, x = .ref a ∧ RowAt H1 a r ∧
  (DctAt P w (upd H1 d (DctO P w d [(r, a)])) d [(r, a)] → Q (.ref d) (upd H1 d (DctO P w d [(r, a)])))
theorem pe_rowDict {e : Expr} {te : TE} {j : Nat} {p pos : Pos} (hu : X.A.units + 64 < cLine) (he : PE X e te) : PE X (.Dict [some e] [.Constant (.bool true) j p] pos) (tRowDict X.prog X.w te) := by
  refine ⟨fun pins s σ H Q I h => ?_⟩
  have nz : s.heap.objs.size ≠ sysModules := Ne.symm (Nat.ne_of_lt I.big)
  have ne : (s.heap.objs.size == sysModules) = false := beq_eq_false_iff_ne.mpr nz
  have m0 : (s.heap.push { cls := .type "dict", data := .dict #[] }).DictOfH (nestedKind X.prog X.w) s.heap.objs.size (([] : List (Rw × Addr)).map ent) := Heap.DictOfH.new s.heap
  have I1 := I.laid (a := s.heap.objs.size) (o := DctO X.prog X.w s.heap.objs.size []) (t' := s.toks) (fun b u z => Heap.get?_push_of_some _ z) (Nat.le_refl _) (dct_ok m0)
  have q := h _ (I.hok.fresh (Nat.le_refl _))
  rw [arm_eval_Dict]
  have hz : (evalEachOpt [some e] X.env).zip ((evalEach [.Constant (.bool true) j p] X.env).map fun v => do let x ← v; standAt pos; pure x) =
      (pairTrees [some e] [.Constant (.bool true) j p] X.env pos).map fun y => (some y.1, y.2) := zip_pairTrees [some e] [.Constant (.bool true) j p] X.env pos rfl rfl
  have hl : (pairTrees [some e] [.Constant (.bool true) j p] X.env pos).length = 1 := pairTrees_length [some e] [.Constant (.bool true) j p] X.env pos rfl rfl
  have hn : pairTrees [some e] [.Constant (.bool true) j p] X.env pos ≠ [] := fun z => by
    rw [z] at hl
    cases hl
  rw [hz, dictDisplay_pairs _ hn (by omega)]
  refine wpAny_bind (wpAny_standAt (wpAny_bind (wpAny_subDictH (knd := nestedKind X.prog X.w) (by show X.A.units + 8 < cLine; omega) (by omega) ?_)))
  refine pairTrees_cons_walk (thn (he.run pins _ σ _ _ I1 q) fun u s1 ⟨x, H1, I2, r1, e1, a, r, ex, hr, k⟩ => ?_)
  subst ex
  obtain rfl : u = Value.ref a := r1
  refine Constant_bool (pairTrees_nil_walk ⟨[ent (r, a)], ⟨rfl, rfl, row_is I2 hr, trivial⟩, ?_, fun h' tk hm hs => wpAny_pure ?_⟩)
  · have D0 : DctAt X.prog X.w H1 s.heap.objs.size [] := ⟨e1, ne, by simp, fun y hy => by cases hy⟩
    exact D0.ofH I2
  · have hm' : h'.DictOfH (nestedKind X.prog X.w) s.heap.objs.size ([(r, a)].map ent) := hm
    have tp : Tups H1 (upd H1 s.heap.objs.size (DctO X.prog X.w s.heap.objs.size [(r, a)])) := .set e1 fun xs z => by
      unfold DctO at z
      cases z
    have D1 : DctAt X.prog X.w (upd H1 s.heap.objs.size (DctO X.prog X.w s.heap.objs.size [(r, a)])) s.heap.objs.size [(r, a)] :=
      ⟨upd_same, ne, by simp, fun y hy => by
        rw [List.mem_singleton.mp hy]
        exact hr.mono tp⟩
    refine ⟨.ref s.heap.objs.size, _, I2.write (x := s.heap.objs.size) (e := s.heap.objs.size) (o := DctO X.prog X.w s.heap.objs.size [(r, a)]) (h' := h') (t' := tk) (by rw [e1]; unfold DctO; trivial) (.inl rfl) (fun b ob hb z => (hs.2 b hb).trans z) ?_ (dct_ok hm'), rfl, k D1⟩
    obtain ⟨ob, _, _, z, _⟩ := hm'
    exact ⟨ob, z⟩
end
end Fade

namespace Fade
open PySem PySem.Spec PyProof.Rows L2 LamX
/-! ### a permutation of a mapped list -/
theorem perm_back {α β : Type} {g : α → β} {m n : List β} (h : m.Perm n) : ∀ {l : List α}, n = l.map g → ∃ l' : List α, l'.Perm l ∧ l'.map g = m := by
  induction h with
  | nil =>
    intro l e
    cases l with
    | nil => exact ⟨[], .refl _, rfl⟩
    | cons => cases e
  | cons x _ ih =>
    intro l e
    cases l with
    | nil => cases e
    | cons y l =>
      injection e with e1 e2
      obtain ⟨l', p, q⟩ := ih e2
      exact ⟨y :: l', p.cons y, by rw [List.map_cons, q, e1]⟩
  | swap x y r =>
    intro l e
    cases l with
    | nil => cases e
    | cons a l =>
      cases l with
      | nil => cases e
      | cons b l =>
        injection e with e1 e2
        injection e2 with e2 e3
        exact ⟨b :: a :: l, .swap a b l, by rw [List.map_cons, List.map_cons, ← e1, ← e2, ← e3]⟩
  | trans _ _ ih1 ih2 =>
    intro l e
    obtain ⟨l2, p2, q2⟩ := ih2 e
    obtain ⟨l1, p1, q1⟩ := ih1 q2.symm
    exact ⟨l1, p1.trans p2, q1⟩
/-! ### the heap behind a rule that tells the frame and the news -/
section
variable {X : Cx} {pins : List (Addr × Obj)} {σ : L2.St} {H : Hp} {s : Shared} {m : Str → Option Value} {h' : Heap} {own : List (Addr × Obj)}
theorem stays_by (I : Inv X pins σ H s) (F : Fr X.base X.env.locals h' m) (N : News X.base X.env.locals h' (allNews X.base s.heap X.env.locals ++ own)) {b : Addr} {o : Obj} (hb : b ≠ X.env.locals) (e : s.heap.get? b = some o) : h'.get? b = some o := by
  cases q : X.base.get? b with
  | some u =>
    have e2 := I.bk b u q
    rw [e] at e2
    cases e2
    exact F.keep b _ q
  | none => exact (N (b, o) (List.mem_append_left _ (mem_allNews hb q e))).1
theorem ns_by {L : Addr} {h : Heap} {m m' : Str → Option Value} (a : h.Ns L m) (b : h.Ns L m') : m = m' := by
  obtain ⟨o, es, ep, e1, e2, _, e3⟩ := a
  obtain ⟨o', es', ep', f1, f2, _, f3⟩ := b
  rw [e1] at f1
  cases f1
  rw [e2] at f2
  cases f2
  funext x
  rw [← e3, ← f3]
theorem loc_ne (I : Inv X pins σ H s) {f : Addr} {o : Obj} (e : s.heap.get? f = some o) (hd : ∀ es ep, o.data ≠ .dict es ep) : f ≠ X.env.locals := by
  intro z
  obtain ⟨m, ⟨o', es, ep, ho, hd', _⟩, _⟩ := I.loc
  rw [z, ho] at e
  cases e
  exact hd _ _ hd'
/-- a new object laid at D; all but the frame's own object is kept, the frame's names are -/
theorem laid_by {D : Addr} {ob : HO} {tk : Nat} (I : Inv X pins σ H s) (F : Fr X.base X.env.locals h' m) (N : News X.base X.env.locals h' (allNews X.base s.heap X.env.locals ++ own)) (hm : s.heap.Ns X.env.locals m)
    (fresh : s.heap.get? D = none) (hD : D ≠ X.env.locals) (new : ObjOk X.prog X.w (upd H D ob) h' D ob) : Inv X pins σ (upd H D ob) { s with heap := h', toks := tk } ∧ H D = none := by
  have nD : H D = none := by
    cases q : H D with
    | none => rfl
    | some u =>
      have lt := I.hok.lt q
      have : ∃ x, s.heap.get? D = some x := by
        have ok := I.hok D u q
        cases u with
        | lst xs => obtain ⟨_, _, _, _, e⟩ := ok; exact ⟨_, e⟩
        | tup xs => obtain ⟨_, _, _, ⟨_, e, _⟩⟩ := ok; exact ⟨_, e⟩
        | dK kvs => obtain ⟨_, _, _, _, o, _, _, e, _⟩ := ok; exact ⟨_, e⟩
        | dT kvs => obtain ⟨_, _, _, _, o, _, _, e, _⟩ := ok; exact ⟨_, e⟩
        | set S n => obtain ⟨o, _, _, _, e, _⟩ := ok; exact ⟨_, e⟩
        | ins C dx fs => obtain ⟨_, _, _, e, _⟩ := ok; exact ⟨_, e⟩
        | own y => exact ok
        | xd fs => obtain ⟨_, ⟨_, _, _, e, _⟩, _⟩ := ok; exact ⟨_, e⟩
        | rng lo hi => obtain ⟨_, _, _, e⟩ := ok; exact ⟨_, e⟩
        | frz o u => exact ⟨_, ok.1⟩
        | tbl ps => exact ⟨_, ok⟩
        | met f y => exact ⟨_, ok⟩
        | ext φ => exact ok.2.1
      obtain ⟨x, e⟩ := this
      rw [fresh] at e
      cases e
  have keepL : ∀ b o, b ≠ X.env.locals → s.heap.get? b = some o → h'.get? b = some o := fun b o hb e => stays_by I F N hb e
  have neD : ∀ b o, s.heap.get? b = some o → b ≠ D := fun b o e z => by
    rw [z, fresh] at e
    cases e
  refine ⟨I.step (g' := s.gens) (d' := s.drawn) (ch := []) (fun _ z => nomatch z) (fun b o hb _ _ e _ => keepL b o hb e) (fun b o hb _ _ e _ => ⟨o.slots, keepL b o hb e⟩)
    (fun b o _ e n => by rw [upd_ne (neD b o e)]; exact n) (fun b o _ e => ?_) (fun b xs e => by rw [upd_ne (ne_of_none e nD)]; exact e) (fun b o u e => by rw [upd_ne (ne_of_none e nD)]; exact e)
    (fun b ps e => ⟨#[], by rw [upd_ne (ne_of_none e nD), e]; simp⟩) (fun m' hm' => by rw [← ns_by hm hm']; exact F.ns) (fun b u e => ?_) I.bare, nD⟩
  · by_cases hb : b = X.env.locals
    · subst hb
      obtain ⟨o', _, _, e', _⟩ := F.ns
      exact ⟨o', e'⟩
    · exact ⟨o, keepL b o hb e⟩
  · by_cases hb : b = D
    · subst hb
      rw [upd_same] at e
      cases e
      exact new
    · rw [upd_ne hb] at e
      refine (I.hok b u e).stay (fun c v hc q => keepL c v ?_ q) (fun c q => by rw [upd_ne (ne_of_none q nD)]; exact q) fun c xs q => by rw [upd_ne (ne_of_none q nD)]; exact q
      rintro rfl
      rcases hc with z | z
      · subst z
        rw [I.free] at e
        cases e
      · rw [I.free] at z
        cases z
end
/-! ### lambda x: x[1], called -/
section
variable {P : Program} {w : World} {A : Around} {s : Shared}
theorem second_turn {f c' a : Addr} {qual x : Str} {params : Arguments} {scope : Scope} {p1 p2 p3 : Pos} {j : Nat} {pm ctv u0 : Value} {k : Int} {t : Tok} (room : A.depth < recursionLimit) (lim : s.heap.NoLimit)
    (ho : s.heap.get? f = some (PySem.W.kla_obj "<lambda>" qual params (.Subscript (.Name x p1) (.Constant (.int 1) j p2) p3) scope [] pm c' ctv)) (hcd : s.heap.CodeRec (.ref c') qual) (ht : IsTup s.heap a #[u0, .int k t])
    (hk : scope.kind = .function) (hco : scope.isCoroutine = false) (hgen : scope.isGenerator = false) (hcell : ∀ y ∈ scope.names, y.2 ≠ .cell) (hx : scope.names.lookup x = some .local) (hdb : (x == ("__debug__" : Str)) = false)
    (hbind : bindArgs (PySem.W.kla_fn "<lambda>" qual params (.Subscript (.Name x p1) (.Constant (.int 1) j p2) p3) scope [] pm (.ref c') ctv) ⟨[.ref a], []⟩ = pure [(x, .ref a)]) :
    wpAny (model P w) A (call (.ref f) [.ref a]) (fun v s' => ∃ (h' : Heap) (tk : Nat) (t' : Tok), s' = { s with heap := h', toks := tk } ∧ v = .int k t' ∧ ∀ b o, s.heap.get? b = some o → h'.get? b = some o) (fun _ _ => False) s := by
  have body : codeAny (model P w) A (.call (.ref f) ⟨[.ref a], []⟩) (fun r s' => ∃ (h' : Heap) (tk : Nat) (t' : Tok), s' = { s with heap := h', toks := tk } ∧ r = .ok (.ret (.int k t')) ∧ ∀ b o, s.heap.get? b = some o → h'.get? b = some o) s := by
    refine PySem.W.kla_callFunE room ho rfl hco hgen rfl hcd ?_
    rw [hbind]
    refine wpAny_pure (wpAny_newFunctionEnv hcell (fun y hy => by rw [List.mem_singleton.mp hy]; exact hx) (fun h₁ hns hsb => ⟨lim.fresh _ hsb, ?_⟩) hk)
    have kp : ∀ b o, s.heap.get? b = some o → h₁.get? b = some o := fun b o e => hsb.extBut b o (Nat.ne_of_lt (Heap.lt_size e)) (Heap.get?_push_of_some _ e)
    refine PySem.W.kla_codeExpr ?_
    have kx : Env.kindOf (newEnv scope s.heap.objs.size mainGlobals [] (qual ++ ".<locals>.") (some f) (.ref c') none builtinsNs) x = some .local := hx
    have vx : ([(x, Value.ref a)] : List (Str × Value)).reverse.lookup x = some (Value.ref a) := by simp
    refine Subscript_ (wpAny_Name (wpAny_loadName_local hk kx hns vx ?_) hdb)
    refine wpAny_Constant_int ?_
    have ht1 : IsTup h₁ a #[u0, .int k t] := ht.keeps kp
    refine subscriptTail_builtinR (x := .int k t) ht1.typeIs slot_tuple_getitem.lookup (getItem_tuple (j := 1) (Q := fun r s' => r = Value.int k t ∧ _) ht1 (by decide) (by decide) rfl rfl ⟨rfl, ?_⟩) (by with_unfolding_all rfl)
    exact ⟨h₁, _, t, rfl, rfl, kp⟩
  refine wpAny_call (codeAny_mono body fun r s' hq => ?_)
  obtain ⟨h', tk, t', e1, e2, e3⟩ := hq
  subst e2
  exact ⟨h', tk, t', e1, rfl, e3⟩
end
/-! ### sorted(l, key=lambda x: x[1]) -/
/-- layers, their values in the heap, what they are -/
abbrev Tri := V × Value × (Str × Int)
theorem triples {H : Hp} {xs : List V} {st : Rw} (h : LaysAt H xs st) : ∀ {its : List Value}, Vals xs its → ∃ L : List Tri, (∀ q ∈ L, RelV q.1 q.2.1 ∧ LayAt H q.1 q.2.2) ∧ L.map (·.2.2) = st ∧ (st.map (·.2)).zip its = L.map fun q => (q.2.2.2, q.2.1) := by
  induction h with
  | nil =>
    intro its r
    cases r
    exact ⟨[], by simp, rfl, rfl⟩
  | @cons v vs l r a _ ih =>
    intro its rv
    cases rv with
    | @cons _ u _ us r1 r2 =>
      obtain ⟨L, h1, h2, h3⟩ := ih r2
      refine ⟨(v, u, l) :: L, fun q hq => ?_, by rw [List.map_cons, h2], by rw [List.map_cons, List.zip_cons_cons, List.map_cons, h3]⟩
      rcases List.mem_cons.mp hq with rfl | hq
      · exact ⟨r1, a⟩
      · exact h1 q hq
theorem of_triples {H : Hp} : ∀ {L : List Tri}, (∀ q ∈ L, RelV q.1 q.2.1 ∧ LayAt H q.1 q.2.2) → Vals (L.map (·.1)) (L.map (·.2.1)) ∧ LaysAt H (L.map (·.1)) (L.map (·.2.2))
  | [], _ => ⟨.nil, .nil⟩
  | q :: L, h => by
    obtain ⟨a, b⟩ := h q List.mem_cons_self
    obtain ⟨c, d⟩ := of_triples fun z hz => h z (List.mem_cons_of_mem q hz)
    exact ⟨.cons a c, .cons b d⟩
section
variable {X : Cx} {pins : List (Addr × Obj)} {σ : L2.St} {H : Hp} {s : Shared}
theorem sorted_run2 {l f c' : Addr} {xs : List V} {st : Rw} {qual x : Str} {params : Arguments} {scope : Scope} {p1 p2 p3 : Pos} {j : Nat} {pm ctv : Value} {Q : VK} (I : Inv X pins σ H s) (room : X.A.depth < recursionLimit) (hl : SqL X.K H l xs) (hq : LaysAt H xs st)
    (ho : s.heap.get? f = some (PySem.W.kla_obj "<lambda>" qual params (.Subscript (.Name x p1) (.Constant (.int 1) j p2) p3) scope [] pm c' ctv)) (hcd : H c' = some (CodeO c' qual))
    (hk : scope.kind = .function) (hco : scope.isCoroutine = false) (hgen : scope.isGenerator = false) (hcell : ∀ y ∈ scope.names, y.2 ≠ .cell) (hx : scope.names.lookup x = some .local) (hdb : (x == ("__debug__" : Str)) = false)
    (hbind : ∀ a, bindArgs (PySem.W.kla_fn "<lambda>" qual params (.Subscript (.Name x p1) (.Constant (.int 1) j p2) p3) scope [] pm (.ref c') ctv) ⟨[.ref a], []⟩ = pure [(x, .ref a)])
    (q : ∀ (ys : List V) (st' : Rw) (p : Addr), LaysAt H ys st' → st'.Perm st → st'.Pairwise (fun a b => a.2 ≤ b.2) → H p = none → Q (.ref p) (upd H p (.lst ys))) :
    wpAny (model X.prog X.w) X.A (call (.builtin "sorted") [.ref l] [(Str.ofString "key", .ref f)]) (EP X pins σ Q) X.xe s := by
  obtain ⟨its, rv, pl, hz⟩ := I.list hl
  obtain ⟨L, t1, t2, t3⟩ := triples hq rv
  obtain ⟨m, F⟩ := I.fr
  have len1 := rv.length
  have len2 := hq.length
  have fL : f ≠ X.env.locals := loc_ne I ho fun es ep z => by cases z
  obtain ⟨⟨oc, vs, tq, hoc, hdc, hvc⟩, _, _⟩ := I.hok c' _ hcd
  have cL : c' ≠ X.env.locals := loc_ne I hoc fun es ep z => by
    rw [hdc] at z
    cases z
  refine ksk_sortedSt (kz := st.map (·.2)) (vs := its) F news_all pl.isList (by rw [List.length_map]; omega) (by omega) (ksk_s1 _ _) (fun y => ksk_l1 _ _) (fun y => ksk_t1 f y) (fun i v k hv hki h tk own F' N' => ?_) fun D h' tk out c F' N' hD ko => ?_
  · -- one key
    rw [List.getElem?_map] at hki
    cases hs : st[i]? with
    | none =>
      rw [hs] at hki
      cases hki
    | some y =>
      rw [hs] at hki
      obtain rfl : y.2 = k := Option.some.inj hki
      obtain ⟨vv, e1, a, rfl, ea⟩ := hq.get hs
      obtain ⟨u, eu, ru⟩ := rv.get e1
      rw [hv] at eu
      obtain rfl : v = u := Option.some.inj eu
      obtain rfl : v = Value.ref a := ru
      obtain ⟨us, rus, ⟨o, ho', hc', n, hd'⟩, _⟩ := I.tuple (SqT.of ea)
      obtain ⟨u1, u2, rfl, ⟨t1', rfl⟩, ⟨t2', rfl⟩⟩ := vals2 rus
      have aL : a ≠ X.env.locals := loc_ne I ho' fun es ep z => by
        rw [hd'] at z
        cases z
      have kp : ∀ {b : Addr} {o : Obj}, b ≠ X.env.locals → s.heap.get? b = some o → h.get? b = some o := fun hb e => stays_by I F' N' hb e
      have lim : h.NoLimit := I.ok.mod.nolimit.keeps F'.keep
      refine wpAny_mono (second_turn (s := { s with heap := h, toks := tk }) (show X.A.in1.in1.depth < recursionLimit from room) lim (kp fL ho) ⟨c', oc, vs, tq, rfl, kp cL hoc, hdc, hvc⟩ (u0 := .str y.1 t1') (t := t2') ⟨o, kp aL ho', hc', n, hd'⟩ hk hco hgen hcell hx hdb (hbind a)) (fun w' s' hw => ?_) fun _ _ z => z
      obtain ⟨h2, tk2, t3', rfl, rfl, k2⟩ := hw
      exact ⟨h2, tk2, t3', rfl, rfl, F'.kept k2, N'.grown k2⟩
  · -- the new list
    obtain ⟨ps, hp, hout, hs, _⟩ := ko
    rw [t3] at hp
    obtain ⟨L', p', e'⟩ := perm_back hp rfl
    have t1' : ∀ q ∈ L', RelV q.1 q.2.1 ∧ LayAt H q.1 q.2.2 := fun z hz => t1 z (p'.mem_iff.mp hz)
    obtain ⟨va, la⟩ := of_triples t1'
    have eo : out.toList = L'.map (·.2.1) := by
      rw [hout, ← e', List.map_map]
      rfl
    have pst : (L'.map (·.2.2)).Perm st := by
      rw [← t2]
      exact p'.map _
    have sst : (L'.map (·.2.2)).Pairwise (fun a b => a.2 ≤ b.2) := by
      rw [← e', List.pairwise_map] at hs
      rw [List.pairwise_map]
      exact hs.imp fun z => z
    have NA : News X.base X.env.locals h' (allNews X.base s.heap X.env.locals ++ []) := fun p hp => by
      rw [List.append_nil] at hp
      exact N' p (List.mem_cons_of_mem _ hp)
    obtain ⟨ND, DL, Dbase⟩ := N' (D, seqObj "list" out c) List.mem_cons_self
    have hm : s.heap.Ns X.env.locals m := F.ns
    have fresh : s.heap.get? D = none := by
      cases e : s.heap.get? D with
      | none => rfl
      | some o => exact absurd (hD (D, o) (mem_allNews DL Dbase e)) (Nat.lt_irrefl _)
    have lenO : (L'.map (·.1)).length ≤ sizeLine := by
      have := pst.length_eq
      rw [List.length_map] at this ⊢
      omega
    obtain ⟨I2, nD⟩ := laid_by (D := D) (ob := .lst (L'.map (·.1))) (tk := tk) I F' NA hm fresh DL ⟨lenO, L'.map (·.2.1), c, va, by rw [← eo]; exact ND⟩
    exact ⟨.ref D, _, I2, rfl, q _ _ D la pst sst nD⟩
end
/-- the expression: the tables of code objects that stand are in T -/
def tSorted2 (K : PySem.W.Frag) (T : List (Addr × Str)) (te : TE) : TE := fun σ H Q => te σ H fun v H1 => ∃ l xs st, v = .ref l ∧ SqL K H1 l xs ∧ LaysAt H1 xs st ∧ Tabs T H1 ∧
  ∀ (H2 : Hp) (ys : List V) (st' : Rw) (p : Addr), ExtN H1 H2 → Tabs T H2 → LaysAt H2 ys st' → st'.Perm st → st'.Pairwise (fun a b => a.2 ≤ b.2) → H2 p = none → Q (.ref p) (upd H2 p (.lst ys))
theorem SqL.extN {K : PySem.W.Frag} {H H' : Hp} {a : Addr} {xs : List V} (e : ExtN H H') (h : SqL K H a xs) : SqL K H' a xs := by
  rcases h with (h | ⟨o, h⟩) | h
  · exact .inl (.inl (e _ _ h fun ps z => by cases z))
  · exact .inl (.inr ⟨o, e _ _ h fun ps z => by cases z⟩)
  · exact .inr h
theorem Tups.ext {H H' : Hp} (e : ExtN H H') : Tups H H' := fun b xs h => e b _ h fun ps z => by cases z
section
variable {X : Cx}
theorem pe_sorted2 {T : List (Addr × Str)} {c P : Addr} {e : Expr} {te : TE} {x : Str} {params : Arguments} {scope : Scope} {p p1 p2 p3 lpos kpos pos : Pos} {j k : Nat} (hr : Room k X.A) (hg : Gl X "sorted") (hm : X.mg "sorted" = none) (he : PE X e te)
    (TB : TabB X.base X.mg c P) (hcode : X.env.code = .ref c) (hmT : (P, X.env.qual ++ "<lambda>") ∈ T) (hu : ∀ p ∈ T, p.1 = P → p.2 = X.env.qual ++ "<lambda>") (hdef : defaultsOf params X.env = ([], []))
    (hk : scope.kind = .function) (hco : scope.isCoroutine = false) (hgen : scope.isGenerator = false) (hloc : ∀ y ∈ scope.names, y.2 = .local) (hx : scope.names.lookup x = some .local)
    (hbind : ∀ (q : Str) (pm cv ctv : Value) (a : Addr), bindArgs (PySem.W.kla_fn "<lambda>" q params (.Subscript (.Name x p1) (.Constant (.int 1) j p2) p3) scope [] pm cv ctv) ⟨[.ref a], []⟩ = pure [(x, .ref a)])
    (hs : starEach [e] X.env = (false, eval e X.env) :: starEach [] X.env := by rfl) (hdb : (x == ("__debug__" : Str)) = false := by decide) :
    PE X (.Call (.Name "sorted" p) [e] [⟨some "key", .Lambda params (.Subscript (.Name x p1) (.Constant (.int 1) j p2) p3) scope lpos, kpos⟩] pos) (tSorted2 X.K T te) := by
  refine ⟨fun pins s σ H Q I h => ?_⟩
  refine wpAny_Call_Name_kw (ld_blt (u := .builtin "sorted") I hg hm (by decide +kernel) ?_)
  refine callWith_kw ?_ (by rw [hs]; rfl) (by rw [hs]; rfl)
  rw [hs]
  show wpAny _ _ (spliced ((false, eval e X.env) :: backTo pos (starEach [] X.env))) _ _ s
  refine Calls.spliced_cons (thn (he.run pins s σ H _ I h) fun u s1 ⟨v, H1, I1, r1, l, xs, st, ev, hl, hq, hT, k⟩ => ?_)
  refine Calls.spliced_nil ?_
  subst ev
  obtain rfl : u = Value.ref l := r1
  show wpAny _ _ (evalAll [(do let v ← eval (.Lambda params (.Subscript (.Name x p1) (.Constant (.int 1) j p2) p3) scope lpos) X.env; standAt pos; pure v)]) _ _ s1
  have nofree : ∀ y ∈ scope.names, y.2 = .free → ∃ c, X.env.cells.lookup y.1 = some c := fun y hy z => by
    rw [hloc y hy] at z
    cases z
  refine wpAny_evalAll_cons (wpAny_bind (lam_make2 I1 TB hcode hmT hu hT hdef nofree fun f c' pm ctv H2 s2 I2 eN T2 hf _ _ hc => ?_))
  refine wpAny_bind (wpAny_standAt (wpAny_pure (wpAny_evalAll_nil ?_)))
  have ecl : cloFrom X.env.cells scope.names [] = [] := by
    have all : ∀ names : List (Str × NameKind), (∀ y ∈ names, y.2 = .local) → cloFrom X.env.cells names [] = [] := fun names hn => by
      induction names with
      | nil => rfl
      | cons y r ih =>
        obtain ⟨n, kd⟩ := y
        obtain rfl : kd = .local := hn (n, kd) List.mem_cons_self
        exact ih fun z hz => hn z (List.mem_cons_of_mem _ hz)
    exact all _ hloc
  rw [ecl] at hf
  exact sorted_run2 I2 hr.depth (SqL.extN eN hl) (hq.mono (.ext eN)) hf hc hk hco hgen (fun y hy => by rw [hloc y hy]; decide) hx hdb (fun a => hbind _ _ _ _ a) fun ys st' p h1 h2 h3 h4 => k H2 ys st' p eN T2 h1 h2 h3 h4
end
end Fade

namespace Fade
open PySem PySem.Spec PyProof.Rows L2 LamX
/-! ### what stays -/
/-- all but the object at p stays -/
def But (p : Addr) (H H' : Hp) : Prop := ∀ b o, b ≠ p → H b = some o → H' b = some o
theorem But.refl (p : Addr) (H : Hp) : But p H H := fun _ _ _ h => h
theorem But.trans {p : Addr} {H H1 H2 : Hp} (a : But p H H1) (b : But p H1 H2) : But p H H2 := fun c o n h => b c o n (a c o n h)
theorem But.of {p : Addr} {H H' : Hp} (s : Same H H') : But p H H' := fun b o _ h => s b o h
theorem But.set {p : Addr} {H : Hp} {o : HO} : But p H (upd H p o) := fun b u n h => by
  rw [upd_ne n]
  exact h
theorem But.new {p q : Addr} {H : Hp} {o : HO} (h : H q = none) : But p H (upd H q o) := .of (same_new h)
theorem But.tups {p : Addr} {H H' : Hp} {xs : List V} (e : H p = some (.lst xs)) (b : But p H H') : Tups H H' := fun c ys h =>
  b c _ (ne_of h e (by intro z; cases z)) h
theorem But.tabs {p : Addr} {H H' : Hp} {xs : List V} {T : List (Addr × Str)} (e : H p = some (.lst xs)) (b : But p H H') (t : Tabs T H) : Tabs T H' := fun q hq => by
  obtain ⟨ps, h1, h2, h3⟩ := t q hq
  refine ⟨ps, b _ _ (ne_of h1 e (by intro z; cases z)) h1, h2, fun pos cv hc => ?_⟩
  obtain ⟨c, e1, e2⟩ := h3 pos cv hc
  exact ⟨c, e1, b _ _ (ne_of e2 e (by intro z; unfold CodeO at z; cases z)) e2⟩
theorem Same.tabs {H H' : Hp} {T : List (Addr × Str)} (s : Same H H') (t : Tabs T H) : Tabs T H' := Tabs.ext t fun b o e => s b o e
/-- the pot: two numbers -/
def Pot (H : Hp) (p : Addr) : Prop := ∃ a b : Int, H p = some (.lst [.int a, .int b]) ∧ 0 ≤ a ∧ 0 ≤ b ∧ b < 2 ^ 32
theorem Pot.but {p q : Addr} {H H' : Hp} (h : Pot H p) (b : But q H H') (n : p ≠ q) : Pot H' p :=
  let ⟨x, y, e, r⟩ := h; ⟨x, y, b _ _ n e, r⟩
theorem Pot.same {p : Addr} {H H' : Hp} (h : Pot H p) (s : Same H H') : Pot H' p :=
  let ⟨x, y, e, r⟩ := h; ⟨x, y, s _ _ e, r⟩
theorem Pot.tups {p : Addr} {H H' : Hp} (h : Pot H p) (b : But p H H') : Tups H H' := let ⟨_, _, e, _⟩ := h; b.tups e
theorem Pot.tabs {p : Addr} {H H' : Hp} {T : List (Addr × Str)} (h : Pot H p) (b : But p H H') (t : Tabs T H) : Tabs T H' := let ⟨_, _, e, _⟩ := h; b.tabs e t
/-! ### numbers -/
theorem small_div {i j : Int} (h0 : 0 < j) (h : j < 2 ^ 200) : CDivP i j := by
  refine ⟨h0, ?_⟩
  have hb : j.natAbs.log2 < 200 := (Nat.log2_lt (by omega)).mpr (by omega)
  unfold Builtin.divisionGoesByPylong
  have : decide ((if (j == 0) = true then 0 else j.natAbs.log2 / 30 + 1) > 300) = false := decide_eq_false (by split <;> omega)
  show (decide ((if (j == 0) = true then 0 else j.natAbs.log2 / 30 + 1) > 300) && _) = false
  rw [this, Bool.false_and]
section
variable {P : Program} {w : World} {K : PySem.W.Frag} {mg : Str → Option Value} {base : Heap}
/-! ### _law_cell -/
def spCell (K : PySem.W.Frag) : Sp := fun vs H Q _ => ∃ (a : Addr) (ns : List Int) (k : Int), vs = [.ref a, .int k] ∧ SqL K H a (ns.map V.int) ∧ ns.length ≤ 63 ∧ 0 ≤ k ∧ ∀ c, Q (.int c) H
theorem ok_cell {f : Addr} {fd : FuncData} (F : Fun K "_law_cell" "_law_cell" tS5 f fd) (ml : mg "len" = none) : FnOk P w K mg base CX0 1 f fd ["_law_script", "_law_k"] (spCell K) := by
  refine F.ok scS5 (fun vs H Q E h => ?_) (fun cdv A outer s H vs Q E hr h => ?_)
  · obtain ⟨a, ns, k, rfl, _⟩ := h
    rfl
  · obtain ⟨a, ns, k, rfl, hS, hlen, hk, q⟩ := h
    refine ⟨_, pss_one (ps_ret (pe_ifExp (pt_cmpR op_lt (pv 1) (pe_callB call_len_seq (by rfl) ml PySem.boot_len (pa_cons (pv 0) pa_nil)) (nomark _))
      (pe_ix ix_list (pv 0) (pv 1) (fun _ _ => rfl)) pe_int)), ?_⟩
    refine ⟨.int k, rfl, .ref a, rfl, a, ns.map V.int, rfl, .inl hS, k, _, rfl, rfl, _, rfl, ite2 (fun e => ?_) (fun e => q _)⟩
    have e1 : k < ((ns.map V.int).length : Int) := of_decide_eq_true e
    rw [List.length_map] at e1
    obtain ⟨j, rfl⟩ := Int.eq_ofNat_of_zero_le hk
    have hi : j < ns.length := by omega
    refine ⟨.ref a, rfl, .int j, rfl, a, _, j, .int ns[j], rfl, rfl, hS, ?_, q _⟩
    refine atI_nat ?_
    rw [List.getElem?_map, List.getElem?_eq_getElem hi]
    rfl
/-! ### _law_pot -/
def spPot : Sp := fun vs H Q _ => ∃ c k : Int, vs = [.int c, .int k] ∧ 0 ≤ k ∧ k < 100 ∧ ∀ p H', H p = none → Same H H' → Pot H' p → Q (.ref p) H'
theorem ok_pot {f : Addr} {fd : FuncData} (F : Fun K "_law_pot" "_law_pot" tS6 f fd) (ma : mg "abs" = none) (mm : mg "max" = none) : FnOk P w K mg base CX0 1 f fd ["_law_cell_here", "_law_k"] spPot := by
  refine F.ok scS6 (fun vs H Q E h => ?_) (fun cdv A outer s H vs Q E hr h => ?_)
  · obtain ⟨c, k, rfl, _⟩ := h
    rfl
  · obtain ⟨c, k, rfl, hk, hk2, q⟩ := h
    refine ⟨_, pss_one (ps_ret (pe_lst (pa_cons (pe_callB (call_max2 rfl) (by rfl) mm (by decide +kernel) (pa_cons pe_int (pa_cons (pe_op op_sub (pe_callB call_abs (by rfl) ma (by decide +kernel) (pa_cons (pv 0) pa_nil)) (pe_op op_pow pe_int pe_int)) pa_nil)))
      (pa_cons (pe_op op_add (pe_op op_add (pe_op op_mod (pe_callB call_abs (by rfl) ma (by decide +kernel) (pa_cons (pv 0) pa_nil)) pe_int) (pe_op op_mul pe_int (pv 1))) pe_int) pa_nil)))), ?_⟩
    refine ⟨.int c, rfl, c, rfl, 10, 18, rfl, rfl, ⟨by decide, by decide, by decide⟩, _, _, rfl, rfl, _, _, rfl, ?_⟩
    refine ⟨.int c, rfl, c, rfl, _, 2147483563, rfl, rfl, (by show (0 : Int) < 2147483563; decide), .int k, rfl, 101, k, rfl, rfl, .inl ⟨by decide, by decide⟩, _, _, rfl, rfl, _, 7, rfl, rfl, (by show 2 ≤ sizeLine; decide), fun p hp => ?_⟩
    refine q p _ hp (same_new hp) ⟨_, _, upd_same, ?_, ?_, ?_⟩
    · split <;> omega
    · omega
    · show _ < (4294967296 : Int)
      omega
/-! ### _law_take -/
def spTake : Sp := fun vs H Q _ => ∃ (p : Addr) (many : Int), vs = [.ref p, .int many] ∧ Pot H p ∧ 0 < many ∧ many < 2 ^ 200 ∧ ∀ d H', 0 ≤ d → d < many → But p H H' → Pot H' p → Q (.int d) H'
theorem ok_take {f : Addr} {fd : FuncData} (F : Fun K "_law_take" "_law_take" tS7 f fd) (md : mg "divmod" = none) : FnOk P w K mg base CX0 1 f fd ["_law_pot_here", "_law_many"] spTake := by
  refine F.ok scS7 (fun vs H Q E h => ?_) (fun cdv A outer s H vs Q E hr h => ?_)
  · obtain ⟨p, k, rfl, _⟩ := h
    rfl
  · obtain ⟨p, many, rfl, ⟨a, b, eP, a0, b0, b1⟩, m0, m1, q⟩ := h
    have hi0 : atI [V.int a, V.int b] 0 = some (.int a) := atI_nat (j := 0) rfl
    have hi1 : atI [V.int a, V.int b] 1 = some (.int b) := atI_nat (j := 1) rfl
    refine ⟨_, pss_cons (ps_if (pt_cmpR op_gt (pe_ix ix_list (pv 0) pe_int (fun _ _ => rfl)) pe_int (nomark _))
        (pss_cons (ps_asg (pe_callB call_divmodW (by rfl) md (by decide +kernel) (pa_cons (pe_ix ix_list (pv 0) pe_int (fun _ _ => rfl)) (pa_cons (pv 1) pa_nil)))
            (pg_tup rfl (pgs_cons (pg_sub (pv 0) pe_int set_list) (pgs_cons (pg_name (i := 2) scS7.nd rfl (.inl rfl)) pgs_nil))))
          (pss_one (ps_ret (pv 2)))) pss_nil)
      (pss_cons (ps_asg (pe_op op_mod (pe_op op_add (pe_op op_mul (pe_ix ix_list (pv 0) pe_int (fun _ _ => rfl)) pe_int) pe_int) pe_int) (pg_sub (pv 0) pe_int set_list))
      (pss_one (ps_ret (pe_op op_mod (pe_op op_fdiv (pe_op op_mod (pe_op op_mul (pe_ix ix_list (pv 0) pe_int (fun _ _ => rfl)) (pe_ix ix_list (pv 0) pe_int (fun _ _ => rfl))) pe_int) pe_int) (pv 1))))), ?_⟩
    refine ⟨.ref p, rfl, p, _, 0, .int a, rfl, rfl, SqL.of eP, hi0, a, 0, rfl, rfl, _, rfl, ite2 (fun e => ?_) (fun e => ?_)⟩
    · -- divmod
      refine ⟨.ref p, rfl, p, _, 0, .int a, rfl, rfl, SqL.of eP, hi0, .int many, rfl, a, many, rfl, small_div m0 m1, fun t nt => ?_⟩
      have npt : p ≠ t := ne_of_none eP nt
      refine ⟨t, _, rfl, SqT.of upd_same, rfl, .int (a / many), [.int (a % many)], rfl, .ref p, rfl, p, _, 0, 0, rfl, rfl, by rw [upd_ne npt]; exact eP, rfl, ?_⟩
      refine ⟨.int (a % many), [], rfl, rfl, .int (a % many), rfl, ?_⟩
      refine q _ _ (Int.emod_nonneg _ (by omega)) (Int.emod_lt_of_pos _ m0) ((But.new nt).trans .set) ⟨a / many, b, upd_same, Int.ediv_nonneg a0 (by omega), b0, b1⟩
    · -- mixed
      have hm0 : (0 : Int) ≤ (b * 45991 + 4057) % 2147483647 := Int.emod_nonneg _ (by decide)
      have hm1 : (b * 45991 + 4057) % 2147483647 < 2147483647 := Int.emod_lt_of_pos _ (by decide)
      have b2 : b < 18446744073709551616 := Int.lt_trans b1 (by decide)
      refine ⟨.ref p, rfl, p, _, 1, .int b, rfl, rfl, SqL.of eP, hi1, b, 45991, rfl, rfl, .inr ⟨by decide, by decide⟩, _, 4057, rfl, rfl, _, 2147483647, rfl, rfl, (by show (0 : Int) < 2147483647; decide), ?_⟩
      refine ⟨.ref p, rfl, p, _, 1, 1, rfl, rfl, eP, rfl, ?_⟩
      have hj1 : atI [V.int a, V.int ((b * 45991 + 4057) % 2147483647)] 1 = some (.int ((b * 45991 + 4057) % 2147483647)) := atI_nat (j := 1) rfl
      refine ⟨.ref p, rfl, p, _, 1, .int ((b * 45991 + 4057) % 2147483647), rfl, rfl, SqL.of upd_same, hj1, .ref p, rfl, p, _, 1, .int ((b * 45991 + 4057) % 2147483647), rfl, rfl, SqL.of upd_same, hj1, _, _, rfl, rfl, .inl ⟨?_, ?_⟩, _, 2147483563, rfl, rfl, (by show (0 : Int) < 2147483563; decide), _, 13, rfl, rfl, ⟨by decide, by decide⟩, .int many, rfl, _, many, rfl, rfl, m0, ?_⟩
      · show -(18446744073709551616 : Int) < _
        omega
      · show _ < (18446744073709551616 : Int)
        omega
      · exact q _ _ (Int.emod_nonneg _ (by omega)) (Int.emod_lt_of_pos _ m0) .set ⟨a, _, upd_same, a0, hm0, by show _ < (4294967296 : Int); omega⟩
end
end Fade

namespace Fade
open PySem PySem.Spec PyProof.Rows L2 LamX
/-! ### texts of letters -/
abbrev abc : Str := Str.ofString "abcdefghijklmnopqrstuvwxyz"
theorem abc_size : abc.cps.size = 26 := by decide +kernel
theorem abc_low : ∀ c ∈ abc.cps.toList, c < 128 := by decide +kernel
theorem abc_len : abc.length = 26 := by decide +kernel
theorem join_low : ∀ ys : List Str, (∀ y ∈ ys, ∃ c, y = ⟨#[c]⟩ ∧ c < 128) → (TL.tl (Str.join (Str.ofString "") ys)).length = ys.length ∧ ∀ c ∈ TL.tl (Str.join (Str.ofString "") ys), c < 128 := by
  intro ys h
  have e0 : TL.tl (Str.ofString "") = [] := by decide +kernel
  rw [TL.tl_join, e0]
  have all : ∀ L : List (List Nat), (∀ l ∈ L, ∃ c, l = [c] ∧ c < 128) → (TL.joinL [] L).length = L.length ∧ ∀ c ∈ TL.joinL [] L, c < 128 := by
    intro L
    induction L with
    | nil => exact fun _ => ⟨rfl, fun c hc => by cases hc⟩
    | cons p r ih =>
      intro hL
      obtain ⟨c, rfl, hc⟩ := hL p List.mem_cons_self
      cases r with
      | nil => exact ⟨rfl, fun d hd => by rw [List.mem_singleton.mp hd]; exact hc⟩
      | cons q r =>
        obtain ⟨i1, i2⟩ := ih fun l hl => hL l (List.mem_cons_of_mem _ hl)
        refine ⟨?_, fun d hd => ?_⟩
        · show ([c] ++ ([] ++ TL.joinL [] (q :: r))).length = _
          rw [List.nil_append, List.length_append, i1]
          simp [Nat.add_comm]
        · have hd : d ∈ [c] ++ ([] ++ TL.joinL [] (q :: r)) := hd
          rcases List.mem_append.mp hd with hd | hd
          · rw [List.mem_singleton.mp hd]
            exact hc
          · exact i2 d (by simpa using hd)
  obtain ⟨a, b⟩ := all (ys.map TL.tl) fun l hl => by
    obtain ⟨y, hy, rfl⟩ := List.mem_map.mp hl
    obtain ⟨c, rfl, hc⟩ := h y hy
    exact ⟨c, rfl, hc⟩
  rw [List.length_map] at a
  exact ⟨a, b⟩
/-- the first seven signs -/
abbrev seven (z : Str) : Str := cutS z none (some 7)
theorem tl_seven (z : Str) : TL.tl (seven z) = (TL.tl z).take 7 := by
  unfold seven cutS
  show ((z.cps.toList.drop (HT.sIx z.length 0 none)).take _).toArray.toList = _
  rw [HT.sIx_none, show (some (7 : Int)) = some ((7 : Nat) : Int) from rfl, HT.sIx_nat, List.drop_zero, Nat.sub_zero]
  show z.cps.toList.take (min 7 z.length) = z.cps.toList.take 7
  rw [TL.len_tl]
  show z.cps.toList.take (min 7 z.cps.toList.length) = _
  rcases Nat.le_total 7 z.cps.toList.length with h | h
  · rw [Nat.min_eq_left h]
  · rw [Nat.min_eq_right h, List.take_length, List.take_of_length_le h]
def alts (z : Str) : List Str := abc.cps.toList.map fun c => seven z ++ (⟨#[c]⟩ : Str)
theorem alts_tag {z : Str} (h : IsTag z) : ∀ y ∈ z :: alts z, IsTag y := by
  intro y hy
  rcases List.mem_cons.mp hy with rfl | hy
  · exact h
  · obtain ⟨c, hc, rfl⟩ := List.mem_map.mp hy
    have e : TL.tl (seven z ++ (⟨#[c]⟩ : Str)) = (TL.tl z).take 7 ++ [c] := by
      rw [TL.tl_append, tl_seven]
    refine ⟨?_, fun d hd => ?_⟩
    · rw [TL.len_tl, e, List.length_append, List.length_take]
      simp only [List.length_cons, List.length_nil]
      omega
    · have hd : d ∈ TL.tl (seven z ++ (⟨#[c]⟩ : Str)) := hd
      rw [e] at hd
      rcases List.mem_append.mp hd with hd | hd
      · exact h.2 d (List.mem_of_mem_take hd)
      · rw [List.mem_singleton.mp hd]
        exact abc_low c hc
theorem inV_strs (y : Str) (zs : List Str) : inV (.str y) (zs.map V.str) = decide (y ∈ zs) := by
  unfold inV
  rw [List.any_map]
  induction zs with
  | nil => rfl
  | cons z r ih =>
    rw [List.any_cons, ih]
    show ((z == y) || _) = _
    by_cases e : z = y
    · simp [e]
    · have e2 : y ≠ z := fun q => e q.symm
      simp [e, e2]
/-- of two names and fewer one is left -/
theorem one_left (z : Str) {zs : List Str} (h : zs.length ≤ 2) : ((z :: alts z).filter fun y => !decide (y ∈ zs)) ≠ [] := by
  intro e
  have all : ∀ y ∈ z :: alts z, y ∈ zs := fun y hy => by
    have := List.filter_eq_nil_iff.mp e y hy
    simpa using this
  have three : ∀ c ∈ [97, 98, 99], c ∈ abc.cps.toList := by decide +kernel
  have sub : ∀ y ∈ ([97, 98, 99].map fun c => seven z ++ (⟨#[c]⟩ : Str)), y ∈ zs := fun y hy => by
    obtain ⟨c, hc, rfl⟩ := List.mem_map.mp hy
    exact all _ (List.mem_cons_of_mem _ (List.mem_map.mpr ⟨c, three c hc, rfl⟩))
  have nd : ([97, 98, 99].map fun c => seven z ++ (⟨#[c]⟩ : Str)).Nodup := by
    rw [List.Nodup, List.pairwise_map]
    have : ([97, 98, 99] : List Nat).Pairwise (· ≠ ·) := by decide
    refine this.imp fun {a b} ne q => ne ?_
    have q2 := congrArg TL.tl q
    rw [TL.tl_append, TL.tl_append] at q2
    have q3 := List.append_cancel_left q2
    injection q3
  have := nodup_sub_len nd sub
  simp only [List.length_map, List.length_cons, List.length_nil] at this
  omega
/-- a list of texts is no pot -/
theorem tags_ne {H : Hp} {l p : Addr} {zs : List Str} (h : H l = some (.lst (zs.map V.str))) (n : 0 < zs.length) (hp : Pot H p) : l ≠ p := by
  obtain ⟨a, b, e, _⟩ := hp
  refine ne_of h e fun z => ?_
  injection z with z
  cases zs with
  | nil => cases n
  | cons x r => cases z
/-- a comprehension without a test -/
theorem all_go {σ : L2.St} {H : Hp} {A B : Hp → Prop} (h : A H) : tYes σ H (fun b H3 => if b = true then A H3 else B H3) := by
  show (if true = true then A H else B H)
  rw [if_pos rfl]
  exact h
/-- a comprehension over the signs of a text -/
theorem lc_text {x : Str} {g : TG} {tt : TT} {te : TE} {vs : List Nat} {σ : L2.St} {H1 : Hp} {D : Addr} {Qd : Hp → Prop} (Pv : Nat → Hp → Prop) (start : Pv 0 (upd H1 D (.lst [])))
    (turn : ∀ i c H, x.cps[i]? = some c → Pv i H → g (.str ⟨#[c]⟩) (wipe σ vs) H fun σ2 H2 => wipe σ2 vs = wipe σ vs ∧ tt σ2 H2 fun b H3 =>
      if b = true then te σ2 H3 fun y H4 => ∃ acc, H4 D = some (.lst acc) ∧ acc.length < sizeLine ∧ Pv (i + 1) (upd H4 D (.lst (acc ++ [y]))) else Pv (i + 1) H3) (last : ∀ H, Pv x.cps.size H → Qd H) :
    ∃ W : Nat → Nat → Hp → Prop, (∃ m, W 0 m (upd H1 D (.lst []))) ∧ ∀ i m H, W i m H →
      ((Its x).stop i H ∧ Qd H) ∨ ((Its x).go i H ∧ ∃ Nx : Hp → Prop, (∀ H', Nx H' → ∃ m', m' < m ∧ W (i + 1) m' H') ∧ ∀ v H', (Its x).yld i H v H' → g v (wipe σ vs) H' fun σ2 H2 => wipe σ2 vs = wipe σ vs ∧ tt σ2 H2 fun b H3 =>
        if b = true then te σ2 H3 fun y H4 => ∃ acc, H4 D = some (.lst acc) ∧ acc.length < sizeLine ∧ Nx (upd H4 D (.lst (acc ++ [y]))) else Nx H3) := by
  refine ⟨fun i m H => i + m = x.cps.size ∧ Pv i H, ⟨x.cps.size, Nat.zero_add _, start⟩, fun i m H hW => ?_⟩
  obtain ⟨e, p⟩ := hW
  cases m with
  | zero =>
    have e' : i = x.cps.size := by omega
    subst e'
    exact .inl ⟨Nat.le_refl _, last H p⟩
  | succ m =>
    refine .inr ⟨show i < x.cps.size by omega, Pv (i + 1), fun H' p' => ⟨m, Nat.lt_succ_self _, by omega, p'⟩, fun v H' y => ?_⟩
    obtain ⟨rfl, c, hc, rfl⟩ := y
    exact turn i c _ hc p
section
variable {P : Program} {w : World} {K : PySem.W.Frag} {mg : Str → Option Value} {base : Heap}
/-! ### _law_word -/
def spWord : Sp := fun vs H Q _ => ∃ p : Addr, vs = [.ref p] ∧ Pot H p ∧ ∀ z H', IsTag z → But p H H' → Pot H' p → Q (.str z) H'
theorem ok_word {f fT : Addr} {fd fdT : FuncData} (F : Fun K "_law_word" "_law_word" tS8 f fd) (FT : Fun K "_law_take" "_law_take" tS7 fT fdT) (bT : Binds K fdT ["_law_pot_here", "_law_many"] []) (gT : mg "_law_take" = some (.ref fT))
    (GT : FnOk P w K mg base CX0 1 fT fdT ["_law_pot_here", "_law_many"] spTake) (mr : mg "range" = none) : FnOk P w K mg base CX0 2 f fd ["_law_pot_here"] spWord := by
  refine F.ok scS8 (fun vs H Q E h => ?_) (fun cdv A outer s H vs Q E hr h => ?_)
  · obtain ⟨p, rfl, _⟩ := h
    rfl
  · obtain ⟨p, rfl, hP, q⟩ := h
    refine ⟨_, pss_cons (ps_set (i := 1) scS8.nd rfl (.inr rfl) pe_str)
      (pss_one (ps_ret (pe_join pe_str (pe_lc (own := [("_law_k", 2)]) (g := gName 2) rfl scS8.nd
        (pi_range1 (by rfl) mr (pa_cons (pe_op op_add pe_int (pe_call GT hr (by rfl) gT FT.kp bT .nil pass0 (pa_cons (pv 0) (pa_cons pe_int pa_nil)))) pa_nil))
        (blkOk_by (own := [("_law_k", 2)]) (N := ["_law_pot_here", "_law_letters", "_law_k"]) (sc := defScope tS8) (by decide +kernel))
        (fun _ _ _ _ _ => pg_name (i := 2) scS8.nd rfl (.inl rfl)) (fun _ _ _ _ _ => pts_nil)
        (fun _ _ _ _ _ => pe_ix ix_str (pv 1) (pe_call GT hr (by rfl) gT FT.kp bT .nil pass0 (pa_cons (pv 0) (pa_cons pe_int pa_nil))) (fun _ _ => rfl)))))), ?_⟩
    refine ⟨⟨_, rfl⟩, .ref p, rfl, p, 8, rfl, hP, by decide, by decide, fun d H1 d0 d1 k1 P1 => ⟨1, d, rfl, rfl, 1 + d, rfl, by omega, by omega, fun D nD => ?_⟩⟩
    obtain ⟨a1, b1, eP1, _⟩ := id P1
    have npD : p ≠ D := ne_of_none eP1 nD
    refine lc_range (lo := 0) (n := (1 + d).toNat) (fun i H2 => ∃ ys : List Str, H2 D = some (.lst (ys.map V.str)) ∧ ys.length = i ∧ (∀ y ∈ ys, ∃ c, y = ⟨#[c]⟩ ∧ c < 128) ∧ But p H H2 ∧ Pot H2 p)
      ⟨[], upd_same, rfl, by simp, k1.trans (.new nD), P1.same (same_new nD)⟩ (fun i H2 hi hW => ?_) (fun H2 hW => ?_)
    · obtain ⟨ys, eD, el, hy, k2, P2⟩ := hW
      refine ⟨rfl, all_go ⟨.str abc, rfl, .ref p, rfl, p, 26, rfl, P2, by decide, by decide, fun e H3 e0 e1 k3 P3 => ?_⟩⟩
      obtain ⟨j, rfl⟩ := Int.eq_ofNat_of_zero_le e0
      have hj : j < abc.cps.toList.length := by
        rw [Array.length_toList, abc_size]
        omega
      refine ⟨abc, j, abc.cps.toList[j], rfl, rfl, by rw [abc_len, sizeLine_eq]; decide, atI_nat (List.getElem?_eq_getElem hj), ys.map V.str, k3 D _ npD.symm eD, ?_, ys ++ [⟨#[abc.cps.toList[j]]⟩], ?_, by rw [List.length_append, el]; rfl, fun y hm => ?_, ?_, ?_⟩
      · rw [List.length_map, sizeLine_eq]
        omega
      · rw [upd_same, List.map_append]
        rfl
      · rcases List.mem_append.mp hm with hm | hm
        · exact hy y hm
        · rw [List.mem_singleton.mp hm]
          exact ⟨_, rfl, abc_low _ (List.getElem_mem hj)⟩
      · intro b o nb eb
        have nbD : b ≠ D := fun z => by
          subst z
          have z1 := k1 b o nb eb
          rw [nD] at z1
          cases z1
        rw [upd_ne nbD]
        exact k3 b o nb (k2 b o nb eb)
      · exact P3.but (q := D) .set npD
    · obtain ⟨ys, eD, el, hy, k2, P2⟩ := hW
      obtain ⟨j1, j2⟩ := join_low ys hy
      have hsum : ∀ zs : List Str, (∀ y ∈ zs, ∃ c, y = ⟨#[c]⟩ ∧ c < 128) → (zs.map (·.length)).sum = zs.length := by
        intro zs hz
        induction zs with
        | nil => rfl
        | cons y r ih =>
          obtain ⟨c, rfl, _⟩ := hz y List.mem_cons_self
          rw [List.map_cons, List.sum_cons, ih fun u hu => hz u (List.mem_cons_of_mem _ hu), List.length_cons]
          show 1 + _ = _
          omega
      have e0 : (Str.ofString "").length = 0 := by decide +kernel
      refine ⟨_, D, ys, rfl, rfl, .inl (SqL.of eD), ?_, q _ H2 ⟨?_, by rw [TL.join_eq]; exact j2⟩ k2 P2⟩
      · rw [hsum ys hy, e0]
        omega
      · rw [TL.join_eq, TL.len_tl, j1, el]
        omega
end
end Fade

namespace Fade
open PySem PySem.Spec PyProof.Rows L2 LamX
theorem but_laid {p D : Addr} {H H1 H2 : Hp} (k : But p H H1) (nD : H1 D = none) (k2 : But p H1 H2) {u : HO} : But p H (upd H2 D u) := fun b o nb eb => by
  have nbD : b ≠ D := fun z => by
    subst z
    have z1 := k b o nb eb
    rw [nD] at z1
    cases z1
  rw [upd_ne nbD]
  exact k2 b o nb (k b o nb eb)
section
variable {P : Program} {w : World} {K : PySem.W.Frag} {mg : Str → Option Value} {base : Heap}
/-! ### _law_names -/
def spNames : Sp := fun vs H Q _ => ∃ (p : Addr) (many : Int), vs = [.ref p, .int many] ∧ Pot H p ∧ 1 ≤ many ∧ many ≤ 3 ∧ ∀ l (zs : List Str) H', H l = none → H' l = some (.lst (zs.map V.str)) → 1 ≤ zs.length → zs.length ≤ 3 → (∀ z ∈ zs, IsTag z) → But p H H' → Pot H' p → Q (.ref l) H'
theorem ok_names {f fW : Addr} {fd fdW : FuncData} (F : Fun K "_law_names" "_law_names" tS9 f fd) (FW : Fun K "_law_word" "_law_word" tS8 fW fdW) (bW : Binds K fdW ["_law_pot_here"] []) (gW : mg "_law_word" = some (.ref fW))
    (GW : FnOk P w K mg base CX0 2 fW fdW ["_law_pot_here"] spWord) (mr : mg "range" = none) : FnOk P w K mg base CX0 3 f fd ["_law_pot_here", "_law_many"] spNames := by
  refine F.ok scS9 (fun vs H Q E h => ?_) (fun cdv A outer s H vs Q E hr h => ?_)
  · obtain ⟨p, k, rfl, _⟩ := h
    rfl
  · obtain ⟨p, many, rfl, hP, m1, m3, q⟩ := h
    refine ⟨_, pss_cons (ps_set (i := 2) scS9.nd rfl (.inr rfl) (pe_lst pa_nil))
      (pss_cons (ps_for PassesOwn.never rfl (pi_range1 (by rfl) mr (pa_cons (pv 1) pa_nil)) (pg_name (i := 3) scS9.nd rfl (.inl rfl))
        (pss_cons (ps_set (i := 4) scS9.nd rfl (.inr rfl) (pe_call GW hr (by rfl) gW FW.kp bW .nil pass0 (pa_cons (pv 0) pa_nil)))
        (pss_cons (ps_set (i := 5) scS9.nd rfl (.inl rfl) (pe_op op_cat (pe_lst (pa_cons (pv 4) pa_nil))
          (pe_lc (own := [("_law_letter", 6)]) (g := gName 6) rfl scS9.nd (pi_str pe_str)
            (blkOk_by (own := [("_law_letter", 6)]) (N := ["_law_pot_here", "_law_many", "_law_found", "_law_k", "_law_name", "_law_some", "_law_letter", "_law_one"]) (sc := defScope tS9) (by decide +kernel))
            (fun _ _ _ _ _ => pg_name (i := 6) scS9.nd rfl (.inl rfl)) (fun _ _ _ _ _ => pts_nil)
            (fun _ _ _ _ _ => pe_op op_add_str (pe_slice sl_str (pv 4) po_none (po_some pe_int)) (pv 6)))))
        (pss_one (ps_expr (pe_bm PySem.F.plainAttrs_list PySem.F.slot_list_append PySem.F.type_list_append mt_append (pv 2) (pa_cons
          (pe_ix ix_list (pe_lc (own := [("_law_one", 7)]) (g := gName 7) rfl scS9.nd (pi_list (pv 5))
            (blkOk_by (own := [("_law_one", 7)]) (N := ["_law_pot_here", "_law_many", "_law_found", "_law_k", "_law_name", "_law_some", "_law_letter", "_law_one"]) (sc := defScope tS9) (by decide +kernel))
            (fun _ _ _ _ _ => pg_name (i := 7) scS9.nd rfl (.inl rfl)) (fun _ _ _ _ _ => pts_one (pt_cmpR (r := rIn K true) op_notIn_seq (pv 7) (pv 2) (by rfl)))
            (fun _ _ _ _ _ => pv 7)) pe_int (fun _ _ => rfl)) pa_nil)))))))
      (pss_one (ps_ret (pv 2)))), ?_⟩
    refine ⟨Nat.zero_le _, fun l nl => ?_⟩
    obtain ⟨a0, b0, eP0, _⟩ := id hP
    have npl : p ≠ l := ne_of_none eP0 nl
    refine ⟨.int many, rfl, many, rfl, by omega, by omega, ?_⟩
    refine for_range (lo := 0) (n := many.toNat) (fun i σ H1 => ∃ y3 y4 y5 y6 y7, ∃ zs : List Str, σ = [some (.ref p), some (.int many), some (.ref l), y3, y4, y5, y6, y7] ∧ H1 l = some (.lst (zs.map V.str)) ∧ zs.length = i ∧ (∀ z ∈ zs, IsTag z) ∧ But p H H1 ∧ Pot H1 p)
      ⟨none, none, none, none, none, [], rfl, upd_same, rfl, by simp, .new nl, hP.same (same_new nl)⟩ (fun i σ H1 hi hW => ?_) (fun σ H1 hW => ?_)
    · obtain ⟨y3, y4, y5, y6, y7, zs, rfl, el, ez, hz, k1, P1⟩ := hW
      -- name = word(pot)
      refine ⟨.ref p, rfl, p, rfl, P1, fun z H2 tz k2 P2 => ?_⟩
      have el2 : H2 l = some (.lst (zs.map V.str)) := k2 l _ npl.symm el
      obtain ⟨a2, b2, eP2, _⟩ := id P2
      -- some = [name] + [..]
      refine ⟨.str z, rfl, by show 1 ≤ sizeLine; decide, fun u nu => ?_⟩
      have nul : u ≠ l := (ne_of_none el2 nu).symm
      have npu : p ≠ u := ne_of_none eP2 nu
      refine ⟨abc, rfl, fun D nD => ?_⟩
      have nDu : D ≠ u := fun e => by
        rw [e, upd_same] at nD
        cases nD
      have nD2 : H2 D = none := by
        rw [upd_ne nDu] at nD
        exact nD
      refine lc_text (fun j H3 => H3 = upd (upd H2 u (.lst [V.str z])) D (.lst (((alts z).take j).map V.str))) rfl (fun j c H3 hc hW => ?_) (fun H3 hW => ?_)
      · subst hW
        refine ⟨rfl, all_go ⟨.str z, rfl, 7, rfl, z, rfl, by have := tz.1; rw [sizeLine_eq]; omega, .str ⟨#[c]⟩, rfl, seven z, ⟨#[c]⟩, rfl, rfl, ?_, ((alts z).take j).map V.str, upd_same, ?_, ?_⟩⟩
        · have e1 : (seven z).length ≤ 7 := by
            rw [TL.len_tl, tl_seven, List.length_take]
            omega
          have e2 : (⟨#[c]⟩ : Str).length = 1 := rfl
          rw [e2, sizeLine_eq]
          omega
        · rw [List.length_map, List.length_take, sizeLine_eq]
          have : (alts z).length = 26 := by
            show (abc.cps.toList.map _).length = 26
            rw [List.length_map, Array.length_toList, abc_size]
          omega
        · rw [upd_upd]
          have ea : (alts z)[j]? = some (seven z ++ (⟨#[c]⟩ : Str)) := by
            show (abc.cps.toList.map _)[j]? = _
            rw [List.getElem?_map, Array.getElem?_toList, hc]
            rfl
          rw [List.take_add_one, ea, List.map_append]
          rfl
      · subst hW
        have el26 : (alts z).take abc.cps.size = alts z := List.take_of_length_le (by
          show (abc.cps.toList.map _).length ≤ _
          rw [List.length_map, Array.length_toList]
          exact Nat.le_refl _)
        rw [el26]
        refine ⟨u, D, [V.str z], (alts z).map V.str, rfl, rfl, by rw [upd_ne nDu.symm, upd_same], upd_same, ?_, fun m nm => ?_⟩
        · have : (alts z).length = 26 := by
            show (abc.cps.toList.map _).length = 26
            rw [List.length_map, Array.length_toList, abc_size]
          rw [List.length_map, this, sizeLine_eq]
          show 1 + 26 ≤ 16777216
          decide
        have nml : m ≠ l := fun e => by
          rw [e, upd_ne (fun q => by rw [← q] at nD2; rw [nD2] at el2; cases el2), upd_ne nul.symm, el2] at nm
          cases nm
        have npm : p ≠ m := fun e => by
          rw [← e, upd_ne (fun q => by rw [← q] at nD2; rw [nD2] at eP2; cases eP2), upd_ne npu, eP2] at nm
          cases nm
        have npD : p ≠ D := ne_of_none eP2 nD2
        have nlD : l ≠ D := ne_of_none el2 nD2
        have nmD : m ≠ D := fun e => by
          rw [e, upd_same] at nm
          cases nm
        have nmu : m ≠ u := fun e => by
          rw [e, upd_ne nDu.symm, upd_same] at nm
          cases nm
        have nm2 : H2 m = none := by
          rw [upd_ne nmD, upd_ne nmu] at nm
          exact nm
        generalize eH3 : upd (upd (upd H2 u (.lst [V.str z])) D (.lst ((alts z).map V.str))) m (.lst ([V.str z] ++ (alts z).map V.str)) = H3
        have s3 : Same H2 H3 := fun b o e => by
          rw [← eH3, upd_ne (ne_of_none e nm2), upd_ne (ne_of_none e nD2), upd_ne (ne_of_none e nu)]
          exact e
        have em : H3 m = some (.lst ((z :: alts z).map V.str)) := by
          rw [← eH3, upd_same]
          rfl
        have el3 := s3 _ _ el2
        -- found.append(..[0])
        refine ⟨.ref l, rfl, .inl ⟨rfl, _, SqL.of el3⟩, .ref m, rfl, m, rfl, ⟨_, SqL.of em⟩, fun D2 nD3 => ?_⟩
        have nlD2 : l ≠ D2 := ne_of_none el3 nD3
        have nmD2 : m ≠ D2 := ne_of_none em nD3
        refine lc_list (K := K) (a := m) (xs := (z :: alts z).map V.str) (fun j H4 => H4 = upd H3 D2 (.lst ((((z :: alts z).take j).filter fun y => !decide (y ∈ zs)).map V.str))) rfl (fun j H4 _ hW => ?_) (fun j x H4 hx hW => ?_) (fun H4 hW => ?_)
        · subst hW
          exact SqL.of (by rw [upd_ne nmD2]; exact em)
        · subst hW
          obtain ⟨y, hy, rfl⟩ : ∃ y, (z :: alts z)[j]? = some y ∧ x = V.str y := by
            rw [List.getElem?_map] at hx
            cases e : (z :: alts z)[j]? with
            | none => rw [e] at hx; cases hx
            | some y => rw [e] at hx; exact ⟨y, rfl, (Option.some.inj hx).symm⟩
          refine ⟨rfl, .str y, rfl, .ref l, rfl, l, zs.map V.str, rfl, .inl (SqL.of (by rw [upd_ne nlD2]; exact el3)), rfl, ?_, _, rfl, ?_⟩
          · rw [List.all_map]
            exact List.all_eq_true.mpr fun _ _ => rfl
          · rw [if_pos rfl, inV_strs]
            have tk : (z :: alts z).take (j + 1) = (z :: alts z).take j ++ [y] := by
              rw [List.take_add_one, hy]
              rfl
            by_cases hin : y ∈ zs
            · rw [decide_eq_true hin]
              refine iteF ?_
              rw [tk, List.filter_append]
              simp [hin]
            · rw [decide_eq_false hin]
              refine iteT ⟨.str y, rfl, _, upd_same, ?_, ?_⟩
              · rw [List.length_map, sizeLine_eq]
                have h1 := List.length_filter_le (fun y => !decide (y ∈ zs)) ((z :: alts z).take j)
                have h2 : ((z :: alts z).take j).length ≤ (z :: alts z).length := by
                  rw [List.length_take]
                  omega
                have : (alts z).length = 26 := by
                  show (abc.cps.toList.map _).length = 26
                  rw [List.length_map, Array.length_toList, abc_size]
                rw [List.length_cons] at h2
                omega
              · rw [upd_upd, tk, List.filter_append]
                simp [hin]
        · subst hW
          rw [List.length_map, List.take_of_length_le (Nat.le_refl _)]
          have hi3 : i < 3 := by omega
          have ne := one_left z (zs := zs) (by omega)
          obtain ⟨y, r, ey⟩ : ∃ y r, ((z :: alts z).filter fun y => !decide (y ∈ zs)) = y :: r := by
            cases e : (z :: alts z).filter fun y => !decide (y ∈ zs) with
            | nil => exact absurd e ne
            | cons y r => exact ⟨y, r, rfl⟩
          have hyT : IsTag y := alts_tag tz y (List.mem_filter.mp (show y ∈ (z :: alts z).filter fun y => !decide (y ∈ zs) by rw [ey]; exact List.mem_cons_self)).1
          rw [ey]
          refine ⟨D2, _, 0, .str y, rfl, rfl, SqL.of upd_same, atI_nat (j := 0) rfl, l, zs.map V.str, .str y, rfl, rfl, by rw [upd_ne nlD2]; exact el3, by rw [List.length_map, sizeLine_eq]; omega, ?_⟩
          refine ⟨_, _, _, _, _, zs ++ [y], rfl, by rw [upd_same, List.map_append]; rfl, by rw [List.length_append, ez]; rfl, fun x hx => ?_, ?_, ?_⟩
          · rcases List.mem_append.mp hx with hx | hx
            · exact hz x hx
            · rw [List.mem_singleton.mp hx]
              exact hyT
          · have k4 : But p H (upd H3 D2 (.lst ((y :: r).map V.str))) := (k1.trans k2).trans ((But.of s3).trans (.new nD3))
            intro b o nb eb
            have nbl : b ≠ l := ne_of_none eb nl
            rw [upd_ne nbl]
            exact k4 b o nb eb
          · have P4 : Pot (upd H3 D2 (.lst ((y :: r).map V.str))) p := (P2.same s3).same (same_new nD3)
            exact P4.but (q := l) .set npl
    · obtain ⟨y3, y4, y5, y6, y7, zs, rfl, el, ez, hz, k1, P1⟩ := hW
      exact ⟨.ref l, rfl, q l zs H1 nl el (by omega) (by omega) hz k1 P1⟩
end
end Fade

namespace Fade
open PySem PySem.Spec PyProof.Rows L2 LamX
section
variable {P : Program} {w : World} {K : PySem.W.Frag} {mg : Str → Option Value} {base : Heap}
/-! ### _law_strength -/
def spStrength : Sp := fun vs H Q _ => ∃ p : Addr, vs = [.ref p] ∧ Pot H p ∧ ∀ d H', 1 ≤ d → d < 2 ^ 210 → But p H H' → Pot H' p → Q (.int d) H'
theorem of_three {a b c i : Int} (h0 : 0 ≤ i) (h1 : i < 3) {R : Int → Prop} (ha : R a) (hb : R b) (hc : R c) : ∃ v, atI [V.int a, V.int b, V.int c] i = some (.int v) ∧ R v := by
  obtain ⟨j, rfl⟩ := Int.eq_ofNat_of_zero_le h0
  have : j = 0 ∨ j = 1 ∨ j = 2 := by omega
  rcases this with rfl | rfl | rfl
  · exact ⟨a, atI_nat rfl, ha⟩
  · exact ⟨b, atI_nat rfl, hb⟩
  · exact ⟨c, atI_nat rfl, hc⟩
theorem ok_strength {f fT : Addr} {fd fdT : FuncData} (F : Fun K "_law_strength" "_law_strength" tS10 f fd) (FT : Fun K "_law_take" "_law_take" tS7 fT fdT) (bT : Binds K fdT ["_law_pot_here", "_law_many"] []) (gT : mg "_law_take" = some (.ref fT))
    (GT : FnOk P w K mg base CX0 1 fT fdT ["_law_pot_here", "_law_many"] spTake) : FnOk P w K mg base CX0 2 f fd ["_law_pot_here"] spStrength := by
  refine F.ok scS10 (fun vs H Q E h => ?_) (fun cdv A outer s H vs Q E hr h => ?_)
  · obtain ⟨p, rfl, _⟩ := h
    rfl
  · obtain ⟨p, rfl, hP, q⟩ := h
    refine ⟨_, pss_one (ps_ret (pe_ix ix_list (pe_lst
        (pa_cons (pe_op op_add pe_int (pe_call GT hr (by rfl) gT FT.kp bT .nil pass0 (pa_cons (pv 0) (pa_cons pe_int pa_nil))))
        (pa_cons (pe_op op_add pe_int (pe_call GT hr (by rfl) gT FT.kp bT .nil pass0 (pa_cons (pv 0) (pa_cons pe_int pa_nil))))
        (pa_cons (pe_op op_add pe_int (pe_call GT hr (by rfl) gT FT.kp bT .nil pass0 (pa_cons (pv 0) (pa_cons (pe_op op_sub (pe_op op_pow pe_int pe_int) pe_int) pa_nil)))) pa_nil))))
      (pe_op op_fdiv (pe_call GT hr (by rfl) gT FT.kp bT .nil pass0 (pa_cons (pv 0) (pa_cons pe_int pa_nil))) pe_int) (fun _ _ => rfl))), ?_⟩
    have t1 : (10 : Int) ^ (60 : Int).toNat - 1 < 2 ^ 200 := by decide +kernel
    have t0 : (0 : Int) < (10 : Int) ^ (60 : Int).toNat - 1 := by decide +kernel
    refine ⟨.ref p, rfl, p, 4, rfl, hP, by decide, by decide, fun d1 H1 a1 b1 k1 P1 => ⟨1, d1, rfl, rfl, ?_⟩⟩
    refine ⟨.ref p, rfl, p, 9, rfl, P1, by decide, by decide, fun d2 H2 a2 b2 k2 P2 => ⟨1, d2, rfl, rfl, ?_⟩⟩
    refine ⟨.ref p, rfl, 10, 60, rfl, rfl, ⟨by decide, by decide, by decide⟩, _, 1, rfl, rfl, p, _, rfl, P2, t0, t1, fun d3 H3 a3 b3 k3 P3 => ⟨1, d3, rfl, rfl, by show 3 ≤ sizeLine; decide, fun l nl => ?_⟩⟩
    have b3' := Int.lt_trans b3 t1
    obtain ⟨x, y, eP3, _⟩ := id P3
    have npl : p ≠ l := ne_of_none eP3 nl
    refine ⟨.ref p, rfl, p, 8, rfl, P3.same (same_new nl), by decide, by decide, fun d4 H4 a4 b4 k4 P4 => ⟨d4, 3, rfl, rfl, ⟨by decide, by decide⟩, ?_⟩⟩
    have e4 := k4 l _ npl.symm (upd_same (o := .lst [V.int (1 + d1), V.int (1 + d2), V.int (1 + d3)]))
    obtain ⟨v, ev, v1, v2⟩ := of_three (a := 1 + d1) (b := 1 + d2) (c := 1 + d3) (i := d4 / 3) (by omega) (by omega) (R := fun d => 1 ≤ d ∧ d < 2 ^ 210) ⟨by omega, by omega⟩ ⟨by omega, by omega⟩ ⟨by omega, by omega⟩
    exact ⟨l, _, d4 / 3, .int v, rfl, rfl, SqL.of e4, ev, q v H4 v1 v2 (((k1.trans k2).trans k3).trans ((But.new nl).trans k4)) P4⟩
/-! ### _law_row -/
def TagsAt (H : Hp) (l : Addr) (zs : List Str) : Prop := H l = some (.lst (zs.map V.str)) ∧ 1 ≤ zs.length ∧ zs.length ≤ 3 ∧ ∀ z ∈ zs, IsTag z
theorem TagsAt.ne {H : Hp} {l p : Addr} {zs : List Str} (h : TagsAt H l zs) (hp : Pot H p) : l ≠ p := tags_ne h.1 h.2.1 hp
theorem TagsAt.but {H H' : Hp} {l p : Addr} {zs : List Str} (h : TagsAt H l zs) (hp : Pot H p) (k : But p H H') : TagsAt H' l zs := ⟨k _ _ (h.ne hp) h.1, h.2⟩
theorem TagsAt.same {H H' : Hp} {l : Addr} {zs : List Str} (h : TagsAt H l zs) (k : Same H H') : TagsAt H' l zs := ⟨k _ _ h.1, h.2⟩
/-- as the drawn rows are -/
def RowLow (r : Rw) : Prop := ∀ l ∈ r, IsTag l.1 ∧ 1 ≤ l.2 ∧ l.2 < 2 ^ 210
theorem RowLow.ok {r : Rw} (h : RowLow r) : RowOk r := fun l hl => ⟨(h l hl).1, (h l hl).2.1, Int.lt_trans (h l hl).2.2 (by decide +kernel)⟩
def spRow : Sp := fun vs H Q _ => ∃ (p l : Addr) (zs : List Str) (most : Int), vs = [.ref p, .ref l, .int most] ∧ Pot H p ∧ TagsAt H l zs ∧ 0 ≤ most ∧ most ≤ 100 ∧
  ∀ a r H', RowAt H' a r → RowLow r → (r.length : Int) ≤ most → But p H H' → Pot H' p → Q (.ref a) H'
theorem ok_row {f fT fS : Addr} {fd fdT fdS : FuncData} (F : Fun K "_law_row" "_law_row" tS11 f fd) (FT : Fun K "_law_take" "_law_take" tS7 fT fdT) (bT : Binds K fdT ["_law_pot_here", "_law_many"] []) (gT : mg "_law_take" = some (.ref fT))
    (GT : FnOk P w K mg base CX0 1 fT fdT ["_law_pot_here", "_law_many"] spTake) (FS : Fun K "_law_strength" "_law_strength" tS10 fS fdS) (bS : Binds K fdS ["_law_pot_here"] []) (gS : mg "_law_strength" = some (.ref fS))
    (GS : FnOk P w K mg base CX0 2 fS fdS ["_law_pot_here"] spStrength) (mr : mg "range" = none) (ml : mg "len" = none) (mt : mg "tuple" = none) : FnOk P w K mg base CX0 3 f fd ["_law_pot_here", "_law_tags", "_law_most"] spRow := by
  refine F.ok scS11 (fun vs H Q E h => ?_) (fun cdv A outer s H vs Q E hr h => ?_)
  · obtain ⟨p, l, zs, m, rfl, _⟩ := h
    rfl
  · obtain ⟨p, l, zs, most, rfl, hP, hT, m0, m1, q⟩ := h
    have hr1 : Room 1 (A.deeper (envOfC "_law_row" (defScope tS11) s.heap.objs.size f cdv)) := hr.mono (by decide)
    refine ⟨_, pss_one (ps_ret (pe_callTy call_tuple_of (by rfl) mt (by decide +kernel) (pa_cons (pe_lc (own := [("_law_k", 3)]) (g := gName 3) rfl scS11.nd
        (pi_range1 (by rfl) mr (pa_cons (pe_call GT hr1 (by rfl) gT FT.kp bT .nil pass0 (pa_cons (pv 0) (pa_cons (pe_op op_add (pv 2) pe_int) pa_nil))) pa_nil))
        (blkOk_by (own := [("_law_k", 3)]) (N := ["_law_pot_here", "_law_tags", "_law_most", "_law_k"]) (sc := defScope tS11) (by decide +kernel))
        (fun _ _ _ _ _ => pg_name (i := 3) scS11.nd rfl (.inl rfl)) (fun _ _ _ _ _ => pts_nil)
        (fun _ _ _ _ _ => pe_tup (pa_cons (pe_ix (r := rIxL K) ix_list (pv 1) (pe_call GT hr1 (by rfl) gT FT.kp bT .nil pass0 (pa_cons (pv 0) (pa_cons
            (pe_callB (r := fun xs H Q => ∃ p ys, xs = [.ref p] ∧ (SqL K H p ys ∨ SqT K H p ys) ∧ Q (.int ys.length) H) call_len_seq (by rfl) ml PySem.boot_len (pa_cons (pv 1) pa_nil)) pa_nil))) (fun _ _ => rfl))
          (pa_cons (pe_call GS hr (by rfl) gS FS.kp bS .nil pass0 (pa_cons (pv 0) pa_nil)) pa_nil)))) pa_nil))), ?_⟩
    refine ⟨.ref p, rfl, .int most, rfl, most, 1, rfl, rfl, p, most + 1, rfl, hP, by omega, Int.lt_of_le_of_lt (show most + 1 ≤ 101 by omega) (by decide), fun d H1 d0 d1 k1 P1 => ⟨d, rfl, by omega, by omega, fun D nD => ?_⟩⟩
    have hT1 : TagsAt H1 l zs := hT.but hP k1
    obtain ⟨a1, b1, eP1, _⟩ := id P1
    have npD : p ≠ D := ne_of_none eP1 nD
    have nlD : l ≠ D := ne_of_none hT1.1 nD
    refine lc_range (lo := 0) (n := d.toNat) (fun i H2 => ∃ vs r, H2 D = some (.lst vs) ∧ LaysAt H2 vs r ∧ r.length = i ∧ RowLow r ∧ But p H1 H2 ∧ Pot H2 p ∧ TagsAt H2 l zs)
      ⟨[], [], upd_same, .nil, rfl, (fun x hx => by cases hx), .new nD, P1.same (same_new nD), hT1.same (same_new nD)⟩ (fun i H2 hi hW => ?_) (fun H2 hW => ?_)
    · obtain ⟨us, r, eD, hL, el, ho, k2, P2, hT2⟩ := hW
      refine ⟨rfl, all_go ⟨.ref l, rfl, .ref p, rfl, .ref l, rfl, l, zs.map V.str, rfl, .inl (SqL.of hT2.1), p, _, rfl, P2, ?_, ?_, fun e H3 e0 e1 k3 P3 => ?_⟩⟩
      · rw [List.length_map]
        have := hT2.2.1
        omega
      · rw [List.length_map]
        have := hT2.2.2.1
        exact Int.lt_of_le_of_lt (show (zs.length : Int) ≤ 3 by omega) (by decide)
      rw [List.length_map] at e1
      obtain ⟨j, rfl⟩ := Int.eq_ofNat_of_zero_le e0
      have hj : j < zs.length := by omega
      have hT3 : TagsAt H3 l zs := hT2.but P2 k3
      refine ⟨l, zs.map V.str, j, .str zs[j], rfl, rfl, SqL.of hT3.1, atI_nat (by rw [List.getElem?_map, List.getElem?_eq_getElem hj]; rfl), .ref p, rfl, p, rfl, P3, fun g H4 g0 g1 k4 P4 => ?_⟩
      refine ⟨by show 2 ≤ sizeLine; decide, fun t nt => ?_⟩
      have eD3 := k3 D _ npD.symm eD
      have eD4 := k4 D _ npD.symm eD3
      have ntD : D ≠ t := ne_of_none eD4 nt
      have tp : Tups H2 (upd H4 t (.tup [V.str zs[j], V.int g])) := (P2.tups k3).trans ((P3.tups k4).trans (.new nt))
      have tp2 : Tups (upd H4 t (.tup [V.str zs[j], V.int g])) (upd (upd H4 t (.tup [V.str zs[j], V.int g])) D (.lst (us ++ [V.ref t]))) := .set (by rw [upd_ne ntD]; exact eD4) fun xs z => by cases z
      have hT4 : TagsAt H4 l zs := hT3.but P3 k4
      refine ⟨us, by rw [upd_ne ntD]; exact eD4, ?_, us ++ [V.ref t], r ++ [(zs[j], g)], upd_same, ?_, by rw [List.length_append, el]; rfl, ?_, ?_, ?_, ?_⟩
      · rw [hL.length, sizeLine_eq]
        omega
      · exact (hL.mono (tp.trans tp2)).app (.cons ⟨t, rfl, by rw [upd_ne ntD.symm, upd_same]⟩ .nil)
      · intro y hy
        rcases List.mem_append.mp hy with hy | hy
        · exact ho y hy
        · rw [List.mem_singleton.mp hy]
          exact ⟨hT2.2.2.2 _ (List.getElem_mem hj), g0, g1⟩
      · exact but_laid (.refl p H1) nD (k2.trans (k3.trans (k4.trans (.new nt))))
      · exact ((P4.same (same_new nt)).but (q := D) .set npD)
      · exact ⟨by rw [upd_ne nlD]; exact same_new nt _ _ hT4.1, hT4.2⟩
    · obtain ⟨us, r, eD, hL, el, ho, k2, P2, hT2⟩ := hW
      refine ⟨D, us, rfl, .inl ⟨SqL.of eD, fun t nt => q t r _ ⟨us, upd_same, hL.mono (.new nt)⟩ ho (by omega) ((k1.trans k2).trans (.new nt)) (P2.same (same_new nt))⟩⟩
end
end Fade

namespace Fade
open PySem PySem.Spec PyProof.Rows L2 LamX
/-! ### parts of tuples -/
theorem cut_take (xs : List V) (k : Nat) : cutV xs none (some (k : Int)) = xs.take k := by
  unfold cutV
  rw [HT.sIx_none, HT.sIx_nat, List.drop_zero, Nat.sub_zero]
  rcases Nat.le_total k xs.length with h | h
  · rw [Nat.min_eq_left h]
  · rw [Nat.min_eq_right h, List.take_length, List.take_of_length_le h]
theorem cut_drop (xs : List V) (k : Nat) : cutV xs (some (k : Int)) none = xs.drop k := by
  unfold cutV
  rw [HT.sIx_none, HT.sIx_nat]
  rcases Nat.le_total k xs.length with h | h
  · rw [Nat.min_eq_left h, List.take_of_length_le (by rw [List.length_drop]; exact Nat.le_refl _)]
  · rw [Nat.min_eq_right h, List.drop_eq_nil_of_le (Nat.le_refl _), List.drop_eq_nil_of_le h, List.take_nil]
/-- a slice of a tuple, new or itself -/
theorem slice_any {K : PySem.W.Frag} {H : Hp} {a : Addr} {xs : List V} {lo hi : Option Int} {Q : VK} (h : H a = some (.tup xs)) (q : ∀ p H', Same H H' → H' p = some (.tup (cutV xs lo hi)) → Q (.ref p) H') : rSlA K (.ref a) lo hi H Q := by
  refine ⟨a, xs, rfl, SqT.of h, fun hw => ?_, fun _ p np => q p _ (same_new np) upd_same⟩
  have e : cutV xs lo hi = xs := by
    unfold cutV
    rw [hw.1, hw.2, List.drop_zero, Nat.sub_zero, List.take_length]
  exact q a H (.refl H) (by rw [e]; exact h)
theorem cat_any {K : PySem.W.Frag} {H : Hp} {a b : Addr} {xs ys : List V} {Q : VK} (h : H a = some (.tup xs)) (k : H b = some (.tup ys)) (z : xs.length + ys.length ≤ sizeLine) (q : ∀ p H', Same H H' → H' p = some (.tup (xs ++ ys)) → Q (.ref p) H') :
    rCatA K (.ref a) (.ref b) H Q := by
  refine ⟨a, b, xs, ys, rfl, rfl, SqT.of h, SqT.of k, z, fun e => ?_, fun _ e => ?_, fun _ _ p np => q p _ (same_new np) upd_same⟩
  · exact q b H (.refl H) (by rw [e, List.nil_append]; exact k)
  · exact q a H (.refl H) (by rw [e, List.append_nil]; exact h)
theorem same_laid {H H1 H2 : Hp} {D : Addr} (k : Same H H1) (nD : H1 D = none) (k2 : Same H H2) {u : HO} : Same H (upd H2 D u) := fun b o eb => by
  have nbD : b ≠ D := ne_of_none (k b o eb) nD
  rw [upd_ne nbD]
  exact k2 b o eb
section
variable {P : Program} {w : World} {K : PySem.W.Frag} {mg : Str → Option Value} {base : Heap}
/-! ### _law_exchanged -/
def spExch : Sp := fun vs H Q _ => ∃ (a : Addr) (r : Rw) (k : Nat) (x y : Str × Int), vs = [.ref a, .int k] ∧ RowAt H a r ∧ r[k]? = some x ∧ r[k + 1]? = some y ∧ r.length ≤ 1000 ∧
  ∀ p H', Same H H' → RowAt H' p (exch r k) → Q (.ref p) H'
theorem ok_exch {f : Addr} {fd : FuncData} (F : Fun K "_law_exchanged" "_law_exchanged" tS12 f fd) : FnOk P w K mg base CX0 1 f fd ["_law_row_here", "_law_k"] spExch := by
  refine F.ok scS12 (fun vs H Q E h => ?_) (fun cdv A outer s H vs Q E hr h => ?_)
  · obtain ⟨a, r, k, x, y, rfl, _⟩ := h
    rfl
  · obtain ⟨a, r, k, x, y, rfl, ⟨xs, ea, hL⟩, h1, h2, hlen, q⟩ := h
    refine ⟨_, pss_one (ps_ret (pe_op op_catA (pe_op op_catA (pe_slice sl_tupA (pv 0) po_none (po_some (pv 1)))
        (pe_tup (pa_cons (pe_ix ix_tup (pv 0) (pe_op op_add (pv 1) pe_int) (fun _ _ => rfl)) (pa_cons (pe_ix ix_tup (pv 0) (pv 1) (fun _ _ => rfl)) pa_nil))))
      (pe_slice sl_tupA (pv 0) (po_some (pe_op op_add (pv 1) pe_int)) po_none))), ?_⟩
    obtain ⟨v1, g1, l1⟩ := hL.get h1
    obtain ⟨v2, g2, l2⟩ := hL.get h2
    have lx := hL.length
    refine ⟨.ref a, rfl, .int k, rfl, k, rfl, slice_any ea fun p1 H1 s1 e1 => ?_⟩
    have ea1 := s1 _ _ ea
    refine ⟨.ref a, rfl, .int k, rfl, k, 1, rfl, rfl, a, xs, (k : Int) + 1, v2, rfl, rfl, SqT.of ea1, ?_, .ref a, rfl, .int k, rfl, a, xs, k, v1, rfl, rfl, SqT.of ea1, atI_nat g1, ?_⟩
    · rw [show ((k : Int) + 1) = ((k + 1 : Nat) : Int) by omega]
      exact atI_nat g2
    refine ⟨by show 2 ≤ sizeLine; decide, fun p2 n2 => ?_⟩
    have s2 : Same H1 (upd H1 p2 (.tup [v2, v1])) := same_new n2
    rw [cut_take] at e1
    refine cat_any (s2 _ _ e1) upd_same ?_ fun p3 H3 s3 e3 => ?_
    · rw [List.length_take, sizeLine_eq]
      simp only [List.length_cons, List.length_nil]
      omega
    have ea3 := s3 _ _ (s2 _ _ ea1)
    refine ⟨.ref a, rfl, .int k, rfl, k, 2, rfl, rfl, (k : Int) + 2, rfl, ?_⟩
    unfold tNoPart
    simp only []
    refine slice_any ea3 fun p4 H4 s4 e4 => ?_
    rw [show ((k : Int) + 2) = ((k + 2 : Nat) : Int) by omega, cut_drop] at e4
    refine cat_any (s4 _ _ e3) e4 ?_ fun p5 H5 s5 e5 => ?_
    · rw [List.length_append, List.length_take, List.length_drop, sizeLine_eq]
      simp only [List.length_cons, List.length_nil]
      omega
    have sAll : Same H H5 := ((s1.trans s2).trans s3).trans (s4.trans s5)
    refine q p5 H5 sAll ⟨_, e5, ?_⟩
    rw [exch_at h1 h2]
    have m := hL.mono (.of sAll)
    have tp : Tups H H5 := .of sAll
    exact ((m.take k).app (.cons (l2.mono tp) (.cons (l1.mono tp) .nil))).app (m.drop (k + 2))
/-! ### _law_next -/
def spNext : Sp := fun vs H Q _ => ∃ (a : Addr) (r : Rw), vs = [.ref a] ∧ RowAt H a r ∧ r.length ≤ 1000 ∧ ∀ p H', Same H H' → RowAt H' p (next r) → Q (.ref p) H'
theorem atI_last_two {xs : List V} {j : Nat} {v : V} (h : xs[j + 1]? = some v) : atI xs ((j : Int) + 1) = some v := by
  rw [show ((j : Int) + 1) = ((j + 1 : Nat) : Int) by omega]
  exact atI_nat h
theorem ok_next {f fE : Addr} {fd fdE : FuncData} (F : Fun K "_law_next" "_law_next" tS17 f fd) (FE : Fun K "_law_exchanged" "_law_exchanged" tS12 fE fdE) (bE : Binds K fdE ["_law_row_here", "_law_k"] []) (gE : mg "_law_exchanged" = some (.ref fE))
    (GE : FnOk P w K mg base CX0 1 fE fdE ["_law_row_here", "_law_k"] spExch) (mr : mg "range" = none) (ml : mg "len" = none) : FnOk P w K mg base CX0 2 f fd ["_law_row_here"] spNext := by
  refine F.ok scS17 (fun vs H Q E h => ?_) (fun cdv A outer s H vs Q E hr h => ?_)
  · obtain ⟨a, r, rfl, _⟩ := h
    rfl
  · obtain ⟨a, r, rfl, ⟨xs, ea, hL⟩, hlen, q⟩ := h
    have lx := hL.length
    refine ⟨_, pss_cons (ps_for PassesOwn.never rfl (pi_range1 (by rfl) mr (pa_cons (pe_op op_sub (pe_callB call_len_seq (by rfl) ml PySem.boot_len (pa_cons (pv 0) pa_nil)) pe_int) pa_nil)) (pg_name (i := 1) scS17.nd rfl (.inl rfl))
        (pss_one (ps_if (PW.pt (pw_and (pt_cmpR op_eq (pe_ix ix_tup (pe_ix ix_tup (pv 0) (pv 1) (fun _ _ => rfl)) pe_int (fun _ _ => rfl)) (pe_ix ix_tup (pe_ix ix_tup (pv 0) (pe_op op_add (pv 1) pe_int) (fun _ _ => rfl)) pe_int (fun _ _ => rfl)) (nomark _))
            (pw_and1 (pt_cmpR op_gt (pe_ix ix_tup (pe_ix ix_tup (pv 0) (pv 1) (fun _ _ => rfl)) pe_int (fun _ _ => rfl)) (pe_ix ix_tup (pe_ix ix_tup (pv 0) (pe_op op_add (pv 1) pe_int) (fun _ _ => rfl)) pe_int (fun _ _ => rfl)) (nomark _)))))
          (pss_one (ps_ret (pe_call GE hr (by rfl) gE FE.kp bE .nil pass0 (pa_cons (pv 0) (pa_cons (pv 1) pa_nil))))) pss_nil)))
      (pss_one (ps_ret (pv 0))), ?_⟩
    refine ⟨.ref a, rfl, a, xs, rfl, .inr (SqT.of ea), xs.length, 1, rfl, rfl, (xs.length : Int) - 1, rfl, by omega, by omega, ?_⟩
    refine for_range (lo := 0) (n := ((xs.length : Int) - 1).toNat) (fun i σ H1 => ∃ y1, σ = [some (.ref a), y1] ∧ Same H H1 ∧ ∀ j, j < i → ¬ IsInv r j) ⟨none, rfl, .refl H, fun j hj => by omega⟩ (fun i σ H1 hi hW => ?_) (fun σ H1 hW => ?_)
    · obtain ⟨y1, rfl, s1, hn⟩ := hW
      have i1 : i < r.length := by omega
      have i2 : i + 1 < r.length := by omega
      obtain ⟨v1, g1, l1⟩ := hL.get (List.getElem?_eq_getElem i1)
      obtain ⟨v2, g2, l2⟩ := hL.get (List.getElem?_eq_getElem i2)
      obtain ⟨b1, rfl, e1⟩ := l1
      obtain ⟨b2, rfl, e2⟩ := l2
      have ea1 := s1 _ _ ea
      have f1 := s1 _ _ e1
      have f2 := s1 _ _ e2
      have z : (0 : Int) + (i : Int) = (i : Int) := by omega
      rw [z]
      have nx : ¬ IsInv r i → ∃ y1, [some (V.ref a), some (.int (i : Int))] = [some (V.ref a), y1] ∧ Same H H1 ∧ ∀ j, j < i + 1 → ¬ IsInv r j := fun hni =>
        ⟨_, rfl, s1, fun j hj => by
          rcases Nat.lt_succ_iff_lt_or_eq.mp hj with h | h
          · exact hn j h
          · rw [h]
            exact hni⟩
      refine ⟨.ref a, rfl, .int i, rfl, a, xs, i, .ref b1, rfl, rfl, SqT.of ea1, atI_nat g1, b1, _, 0, .str r[i].1, rfl, rfl, SqT.of f1, atI_nat (j := 0) rfl,
        .ref a, rfl, .int i, rfl, i, 1, rfl, rfl, a, xs, (i : Int) + 1, .ref b2, rfl, rfl, SqT.of ea1, atI_last_two g2, b2, _, 0, .str r[i + 1].1, rfl, rfl, SqT.of f2, atI_nat (j := 0) rfl, rfl, _, rfl, ite2 (fun e => ?_) (fun e => ?_)⟩
      · have eT : r[i].1 = r[i + 1].1 := V.str.inj (of_decide_eq_true e)
        refine ⟨.ref a, rfl, .int i, rfl, a, xs, i, .ref b1, rfl, rfl, SqT.of ea1, atI_nat g1, b1, _, 1, .int r[i].2, rfl, rfl, SqT.of f1, atI_nat (j := 1) rfl,
          .ref a, rfl, .int i, rfl, i, 1, rfl, rfl, a, xs, (i : Int) + 1, .ref b2, rfl, rfl, SqT.of ea1, atI_last_two g2, b2, _, 1, .int r[i + 1].2, rfl, rfl, SqT.of f2, atI_nat (j := 1) rfl, _, _, rfl, rfl, _, rfl, ite2 (fun e3 => ?_) (fun e3 => ?_)⟩
        · have e3' : r[i + 1].2 < r[i].2 := of_decide_eq_true e3
          refine ⟨.ref a, rfl, .int i, rfl, a, r, i, r[i], r[i + 1], rfl, ⟨xs, ea1, hL.mono (.of s1)⟩, List.getElem?_eq_getElem i1, List.getElem?_eq_getElem i2, hlen, fun p H2 s2 hR => ?_⟩
          refine q p H2 (s1.trans s2) ?_
          rw [next_at hn ⟨r[i], r[i + 1], List.getElem?_eq_getElem i1, List.getElem?_eq_getElem i2, eT, e3'⟩]
          exact hR
        · refine nx fun ⟨u, v, a1, a2, _, a4⟩ => ?_
          rw [List.getElem?_eq_getElem i1] at a1
          rw [List.getElem?_eq_getElem i2] at a2
          cases a1
          cases a2
          exact e3 (decide_eq_true a4)
      · refine iteF (nx fun ⟨u, v, a1, a2, a3, _⟩ => ?_)
        rw [List.getElem?_eq_getElem i1] at a1
        rw [List.getElem?_eq_getElem i2] at a2
        cases a1
        cases a2
        exact e (decide_eq_true (congrArg V.str a3))
    · obtain ⟨y1, rfl, s1, hn⟩ := hW
      refine ⟨.ref a, rfl, q a H1 s1 ?_⟩
      have : next r = r := next_same (noInv_of fun j hj => by
        by_cases h : j < ((xs.length : Int) - 1).toNat
        · exact hn j h hj
        · obtain ⟨u, v, a1, a2, _⟩ := hj
          have := (List.getElem?_eq_some_iff.mp a2).1
          omega)
      rw [this]
      exact ⟨xs, s1 _ _ ea, hL.mono (.of s1)⟩
/-! ### _law_settled -/
def spSettled : Sp := fun vs H Q _ => ∃ (a : Addr) (r : Rw), vs = [.ref a] ∧ RowAt H a r ∧ r.length ≤ 1000 ∧ ∀ p H', Same H H' → RowAt H' p (norm r) → Q (.ref p) H'
theorem ok_settled {f fN : Addr} {fd fdN : FuncData} (F : Fun K "_law_settled" "_law_settled" tS18 f fd) (FN : Fun K "_law_next" "_law_next" tS17 fN fdN) (bN : Binds K fdN ["_law_row_here"] []) (gN : mg "_law_next" = some (.ref fN))
    (GN : FnOk P w K mg base CX0 2 fN fdN ["_law_row_here"] spNext) (mr : mg "range" = none) (ml : mg "len" = none) : FnOk P w K mg base CX0 3 f fd ["_law_row_here"] spSettled := by
  refine F.ok scS18 (fun vs H Q E h => ?_) (fun cdv A outer s H vs Q E hr h => ?_)
  · obtain ⟨a, r, rfl, _⟩ := h
    rfl
  · obtain ⟨a, r, rfl, hR, hlen, q⟩ := h
    obtain ⟨xs, ea, hL⟩ := id hR
    have lx := hL.length
    refine ⟨_, pss_cons (ps_for PassesOwn.never rfl (pi_range1 (by rfl) mr (pa_cons (pe_op op_mul (pe_callB call_len_seq (by rfl) ml PySem.boot_len (pa_cons (pv 0) pa_nil)) (pe_callB call_len_seq (by rfl) ml PySem.boot_len (pa_cons (pv 0) pa_nil))) pa_nil)) (pg_name (i := 1) scS18.nd rfl (.inl rfl))
        (pss_one (ps_set (i := 0) scS18.nd rfl (.inl rfl) (pe_call GN hr (by rfl) gN FN.kp bN .nil pass0 (pa_cons (pv 0) pa_nil)))))
      (pss_one (ps_ret (pv 0))), ?_⟩
    have sq : (xs.length : Int) * (xs.length : Int) = ((r.length * r.length : Nat) : Int) := by
      rw [lx, Int.natCast_mul]
    have sq2 : r.length * r.length ≤ 1000 * 1000 := Nat.mul_le_mul hlen hlen
    refine ⟨.ref a, rfl, a, xs, rfl, .inr (SqT.of ea), .ref a, rfl, a, xs, rfl, .inr (SqT.of ea), xs.length, xs.length, rfl, rfl, .inl ⟨by show -(18446744073709551616 : Int) < _; omega, by show _ < (18446744073709551616 : Int); omega⟩, _, rfl, by omega, by rw [sq]; omega, ?_⟩
    rw [sq, Int.toNat_natCast]
    refine for_range (lo := 0) (n := r.length * r.length) (fun i σ H1 => ∃ b y1, σ = [some (.ref b), y1] ∧ Same H H1 ∧ RowAt H1 b (iter i r)) ⟨a, none, rfl, .refl H, hR⟩ (fun i σ H1 hi hW => ?_) (fun σ H1 hW => ?_)
    · obtain ⟨b, y1, rfl, s1, hB⟩ := hW
      refine ⟨.ref b, rfl, b, iter i r, rfl, hB, by rw [(reach_iter i r).perm.length_eq]; exact hlen, fun p H2 s2 h2 => ?_⟩
      exact ⟨p, _, rfl, s1.trans s2, h2⟩
    · obtain ⟨b, y1, rfl, s1, hB⟩ := hW
      refine ⟨.ref b, rfl, q b H1 s1 ?_⟩
      rw [iter_norm] at hB
      exact hB
end
end Fade

namespace Fade
open PySem PySem.Spec PyProof.Rows L2 LamX
/-! ### what is found, what waits, what is in hand -/
structure Fnd (r : Rw) (ks ws hs : List Rw) : Prop where
  has : r ∈ ks
  re : ∀ a ∈ ks, Reach r a
  nd : ks.Nodup
  cl : ∀ a ∈ ks, a ∈ hs ∨ a ∈ ws ∨ ∀ b, Step a b → b ∈ ks
  sub : ∀ a ∈ ws, a ∈ ks
  le : ws.length ≤ ks.length
theorem Fnd.start (r : Rw) : Fnd r [r] [r] [] :=
  ⟨by simp, fun a h => by rw [List.mem_singleton.mp h]; exact .refl r, by simp, fun a h => .inr (.inl h), fun a h => h, Nat.le_refl _⟩
theorem Fnd.pop {r x : Rw} {ks ws : List Rw} (f : Fnd r ks (ws ++ [x]) []) : Fnd r ks ws [x] where
  has := f.has
  re := f.re
  nd := f.nd
  cl := fun a h => by
    rcases f.cl a h with z | z | z
    · cases z
    · rcases List.mem_append.mp z with z | z
      · exact .inr (.inl z)
      · exact .inl z
    · exact .inr (.inr z)
  sub := fun a h => f.sub a (List.mem_append_left _ h)
  le := by
    have := f.le
    rw [List.length_append] at this
    omega
theorem Fnd.add {r t : Rw} {ks ws hs : List Rw} (f : Fnd r ks ws hs) (n : t ∉ ks) (h : Reach r t) : Fnd r (ks ++ [t]) (ws ++ [t]) hs where
  has := List.mem_append_left _ f.has
  re := fun a ha => by
    rcases List.mem_append.mp ha with ha | ha
    · exact f.re a ha
    · rw [List.mem_singleton.mp ha]
      exact h
  nd := by
    rw [List.nodup_append]
    refine ⟨f.nd, by simp, fun x hx y hy e => n ?_⟩
    rw [List.mem_singleton.mp hy] at e
    rw [← e]
    exact hx
  cl := fun a ha => by
    rcases List.mem_append.mp ha with ha | ha
    · rcases f.cl a ha with z | z | z
      · exact .inl z
      · exact .inr (.inl (List.mem_append_left _ z))
      · exact .inr (.inr fun b s => List.mem_append_left _ (z b s))
    · exact .inr (.inl (List.mem_append_right _ ha))
  sub := fun a ha => by
    rcases List.mem_append.mp ha with ha | ha
    · exact List.mem_append_left _ (f.sub a ha)
    · exact List.mem_append_right _ ha
  le := by
    rw [List.length_append, List.length_append]
    have := f.le
    simp only [List.length_cons, List.length_nil]
    omega
theorem Fnd.done {r x : Rw} {ks ws : List Rw} (f : Fnd r ks ws [x]) (h : ∀ b, Step x b → b ∈ ks) : Fnd r ks ws [] where
  has := f.has
  re := f.re
  nd := f.nd
  cl := fun a ha => by
    rcases f.cl a ha with z | z | z
    · rw [List.mem_singleton.mp z]
      exact .inr (.inr h)
    · exact .inr (.inl z)
    · exact .inr (.inr z)
  sub := f.sub
  le := f.le
theorem Fnd.last {r : Rw} {ks : List Rw} (f : Fnd r ks [] []) (b : Rw) : b ∈ ks ↔ Reach r b :=
  closed_all f.has f.re (fun a ha => by
    rcases f.cl a ha with z | z | z
    · cases z
    · cases z
    · exact z) b
/-! ### lists of rows -/
inductive RowsAt (H : Hp) : List V → List Rw → Prop
  | nil : RowsAt H [] []
  | cons {a vs r rs} : RowAt H a r → RowsAt H vs rs → RowsAt H (.ref a :: vs) (r :: rs)
theorem RowsAt.mono {H H' : Hp} (t : Tups H H') {vs : List V} {rs : List Rw} (h : RowsAt H vs rs) : RowsAt H' vs rs := by
  induction h with
  | nil => exact .nil
  | cons a _ ih => exact .cons (a.mono t) ih
theorem RowsAt.app {H : Hp} {vs us : List V} {r q : List Rw} (h : RowsAt H vs r) (k : RowsAt H us q) : RowsAt H (vs ++ us) (r ++ q) := by
  induction h with
  | nil => exact k
  | cons a _ ih => exact .cons a ih
theorem RowsAt.length {H : Hp} {vs : List V} {rs : List Rw} (h : RowsAt H vs rs) : vs.length = rs.length := by
  induction h with
  | nil => rfl
  | cons _ _ ih => rw [List.length_cons, List.length_cons, ih]
theorem RowsAt.split {H : Hp} : ∀ {vs : List V} {rs : List Rw}, RowsAt H vs rs → vs ≠ [] → ∃ us a qs x, vs = us ++ [.ref a] ∧ rs = qs ++ [x] ∧ RowsAt H us qs ∧ RowAt H a x
  | _, _, .nil, h => absurd rfl h
  | _, _, .cons (vs := []) (rs := []) a .nil, _ => ⟨[], _, [], _, rfl, rfl, .nil, a⟩
  | _, _, .cons (vs := v :: vs) (a := b) (r := r) a k, _ => by
    obtain ⟨us, c, qs, x, e1, e2, e3, e4⟩ := RowsAt.split k (by simp)
    exact ⟨.ref b :: us, c, r :: qs, x, by rw [e1]; rfl, by rw [e2]; rfl, .cons a e3, e4⟩
theorem RowsAt.dp {K : PySem.W.Frag} {H : Hp} {vs : List V} {rs : List Rw} (h : RowsAt H vs rs) : DpAll K H vs (rs.map dataR) := by
  induction h with
  | nil => exact .nil
  | cons a _ ih => exact .cons a.dp ih
theorem canLay_rows : ∀ {rs : List Rw}, (∀ r ∈ rs, RowOk r) → PyData.canLayAll0 (rs.map dataR) = true
  | [], _ => rfl
  | r :: rs, h => by
    rw [List.map_cons, PyData.canLayAll0, canLay_row (h r List.mem_cons_self), canLay_rows fun x hx => h x (List.mem_cons_of_mem _ hx)]
    rfl
theorem depth_rows : ∀ rs : List Rw, PyData.depthAll (rs.map dataR) ≤ 2
  | [] => by simp [PyData.depthAll]
  | r :: rs => by
    rw [List.map_cons, PyData.depthAll]
    have h1 := depth_row r
    have h2 := depth_rows rs
    omega
theorem shaped_rows {rs : List Rw} (h : ∀ r ∈ rs, RowOk r) : SeqAt.shaped (.list (rs.map dataR)) = true := by
  unfold SeqAt.shaped
  rw [PyData.canLay0, canLay_rows h, Bool.true_and, PyData.depth]
  have := depth_rows rs
  exact decide_eq_true (by omega)
theorem eqv_none (ds : List PyData) : PyData.eqv (.list ds) (.list []) = decide (ds = []) := by
  rw [PyData.eqv]
  cases ds with
  | nil => rfl
  | cons d ds => rfl
theorem rowOk_reach {r a : Rw} (h : RowOk r) (k : Reach r a) : RowOk a := fun l hl => h l (k.perm.mem_iff.mp hl)
abbrev ksOf (kas : List (Rw × Addr)) : List Rw := kas.map fun x => x.1
theorem ksOf_app (kas more : List (Rw × Addr)) : ksOf (kas ++ more) = ksOf kas ++ ksOf more := List.map_append
section
variable {P : Program} {w : World} {K : PySem.W.Frag} {mg : Str → Option Value} {base : Heap}
/-! ### _law_all_alike -/
def spAll (P : Program) (w : World) : Sp := fun vs H Q _ => ∃ (a : Addr) (r : Rw), vs = [.ref a] ∧ RowAt H a r ∧ RowOk r ∧ r.length ≤ 6 ∧
  ∀ d kas H', Same H H' → DctAt P w H' d kas → (∀ b, b ∈ kas.map (·.1) ↔ Reach r b) → Q (.ref d) H'
theorem ok_all {f fE : Addr} {fd fdE : FuncData} (F : Fun K "_law_all_alike" "_law_all_alike" tS13 f fd) (FE : Fun K "_law_exchanged" "_law_exchanged" tS12 fE fdE) (bE : Binds K fdE ["_law_row_here", "_law_k"] []) (gE : mg "_law_exchanged" = some (.ref fE))
    (GE : FnOk P w K mg base CX0 1 fE fdE ["_law_row_here", "_law_k"] spExch) (mr : mg "range" = none) (ml : mg "len" = none) : FnOk P w K mg base CX0 2 f fd ["_law_row_here"] (spAll P w) := by
  refine F.ok scS13 (fun vs H Q E h => ?_) (fun cdv A outer s H vs Q E hr h => ?_)
  · obtain ⟨a, r, rfl, _⟩ := h
    rfl
  · obtain ⟨a, r, rfl, hR, ho, hlen, q⟩ := h
    have hu := hr.units
    refine ⟨_, pss_cons (ps_set (i := 1) scS13.nd rfl (.inl rfl) (pe_rowDict hu (pv 0)))
      (pss_cons (ps_set (i := 2) scS13.nd rfl (.inl rfl) (pe_lst (pa_cons (pv 0) pa_nil)))
      (pss_cons (ps_while PassesOwn.never (pt_cmpR (op_neD hu) (pv 2) (pe_lst pa_nil) (nomark _))
        (pss_cons (ps_set (i := 3) scS13.nd rfl (.inl rfl) (pe_bm0 PySem.F.plainAttrs_list PySem.F.slot_list_pop PySem.F.type_list_pop mt_pop (pv 2)))
        (pss_one (ps_for PassesOwn.never rfl (pi_range1 (by rfl) mr (pa_cons (pe_op op_sub (pe_callB call_len_seq (by rfl) ml PySem.boot_len (pa_cons (pv 3) pa_nil)) pe_int) pa_nil)) (pg_name (i := 4) scS13.nd rfl (.inl rfl))
          (pss_cons (ps_set (i := 5) scS13.nd rfl (.inl rfl) (pe_call GE hr (by rfl) gE FE.kp bE .nil pass0 (pa_cons (pv 3) (pa_cons (pv 4) pa_nil))))
          (pss_one (ps_if (PW.pt (pw_and (pt_cmpR op_eq (pe_ix ix_tup (pe_ix ix_tup (pv 3) (pv 4) (fun _ _ => rfl)) pe_int (fun _ _ => rfl)) (pe_ix ix_tup (pe_ix ix_tup (pv 3) (pe_op op_add (pv 4) pe_int) (fun _ _ => rfl)) pe_int (fun _ _ => rfl)) (nomark _))
              (pw_and1 (pt_cmpR (op_rowNotIn hu) (pv 5) (pv 1) (by rfl)))))
            (pss_cons (ps_asg pe_bl (pg_sub (pv 1) (pv 5) (set_rowPut hu)))
            (pss_one (ps_expr (pe_bm PySem.F.plainAttrs_list PySem.F.slot_list_append PySem.F.type_list_append mt_append (pv 2) (pa_cons (pv 5) pa_nil))))) pss_nil)))))))
      (pss_one (ps_ret (pv 1))))), ?_⟩
    -- found = {row: True}
    intro d nd
    refine ⟨.ref a, rfl, upd_same, a, r, rfl, hR.mono (.new nd), fun D1 => ?_⟩
    rw [upd_upd] at D1 ⊢
    have D1 : DctAt P w (upd H d (DctO P w d [(r, a)])) d [(r, a)] := D1
    have s1 : Same H (upd H d (DctO P w d [(r, a)])) := same_new nd
    -- waiting = [row]
    refine ⟨.ref a, rfl, by show 1 ≤ sizeLine; decide, fun wl nw => ?_⟩
    have nw : upd H d (DctO P w d [(r, a)]) wl = none := nw
    have s2 := s1.trans (same_new (o := .lst [V.ref a]) nw)
    refine ⟨fun m σ H1 => ∃ (kas : List (Rw × Addr)) (ws : List Rw) (us : List V) (y3 y4 y5 : Option V), σ = [some (.ref a), some (.ref d), some (.ref wl), y3, y4, y5] ∧ DctAt P w H1 d kas ∧ H1 wl = some (.lst us) ∧ RowsAt H1 us ws ∧ Fnd r (ksOf kas) ws [] ∧ m = 2 * (720 - kas.length) + ws.length ∧ Same H H1,
      ⟨_, [(r, a)], [r], [V.ref a], none, none, none, rfl, D1.mono (same_new nw), upd_same, .cons ((hR.mono (.of s1)).mono (.new nw)) .nil, Fnd.start r, rfl, s2⟩, fun m σ H1 hW => ?_⟩
    obtain ⟨kas, ws, us, y3, y4, y5, rfl, hD, eW, hU, hF, em, sH⟩ := hW
    have okW : ∀ x ∈ ws, RowOk x := fun x hx => rowOk_reach ho (hF.re x (hF.sub x hx))
    -- waiting != []
    refine ⟨.ref wl, rfl, Nat.zero_le _, fun e ne => ?_⟩
    have ewe : wl ≠ e := ne_of_none eW ne
    have sE : Same H1 (upd H1 e (.lst [])) := same_new ne
    refine ⟨.list (ws.map dataR), .list [], .lst (SqL.of (sE _ _ eW)) (hU.mono (.of sE)).dp, .lst (SqL.of upd_same) .nil, shaped_rows okW, rfl, _, rfl, ?_⟩
    rw [eqv_none]
    by_cases hws : ws = []
    · -- the end
      subst hws
      refine iteF ⟨.ref d, rfl, q d kas _ (sH.trans sE) (hD.mono sE) hF.last⟩
    · have : (!decide (ws.map dataR = [])) = true := by
        simp [hws]
      rw [this]
      refine iteT ?_
      have hus : us ≠ [] := fun z => by
        have := hU.length
        rw [z] at this
        exact hws (List.length_eq_zero_iff.mp this.symm)
      obtain ⟨us', ha, qs, x, rfl, rfl, hU', hX⟩ := RowsAt.split hU hus
      have hF2 := hF.pop
      have reX : Reach r x := hF.re x (hF.sub x (List.mem_append_right _ (List.mem_singleton.mpr rfl)))
      have lenX : x.length ≤ 6 := by rw [reX.perm.length_eq]; exact hlen
      have eW2 := sE _ _ eW
      -- here = waiting.pop()
      refine ⟨fun σ' H' => ∃ (kas : List (Rw × Addr)) (ws : List Rw) (us : List V) (y3 y4 y5 : Option V), σ' = [some (.ref a), some (.ref d), some (.ref wl), y3, y4, y5] ∧ DctAt P w H' d kas ∧ H' wl = some (.lst us) ∧ RowsAt H' us ws ∧ Fnd r (ksOf kas) ws [] ∧ 2 * (720 - kas.length) + ws.length < m ∧ Same H H',
        fun σ' H' ⟨k2, w2, u2, z3, z4, z5, h1, h2, h3, h4, h5, h6, h7⟩ => ⟨_, h6, k2, w2, u2, z3, z4, z5, h1, h2, h3, h4, h5, rfl, h7⟩, ?_⟩
      refine ⟨.ref wl, rfl, .inl ⟨rfl, _, SqL.of eW2⟩, wl, us' ++ [.ref ha], .ref ha, rfl, rfl, eW2, by simp, ?_⟩
      rw [List.dropLast_concat]
      generalize eH2 : upd (upd H1 e (.lst [])) wl (.lst us') = H2
      have nwH : H wl = none := by
        cases z : H wl with
        | none => rfl
        | some o => rw [s1 wl o z] at nw; cases nw
      have sH2 : Same H H2 := by
        rw [← eH2]
        exact same_laid (Same.refl H) nwH (sH.trans sE)
      have tp2 : Tups H1 H2 := by
        rw [← eH2]
        exact (Tups.of sE).trans (.set eW2 fun _ z => by cases z)
      have ndw : d ≠ wl := ne_of hD.is eW (by intro z; unfold DctO at z; cases z)
      have nde : d ≠ e := ne_of_none hD.is ne
      have D2 : DctAt P w H2 d kas := by
        refine ⟨?_, hD.ne, hD.nd, fun y hy => (hD.rows y hy).mono tp2⟩
        rw [← eH2, upd_ne ndw, upd_ne nde]
        exact hD.is
      have W2 : H2 wl = some (.lst us') := by rw [← eH2, upd_same]
      have X2 := hX.mono tp2
      obtain ⟨xs, ex, hL⟩ := id X2
      have lx := hL.length
      refine ⟨.ref ha, rfl, ha, xs, rfl, .inr (SqT.of ex), xs.length, 1, rfl, rfl, (xs.length : Int) - 1, rfl, by omega, by omega, ?_⟩
      rw [List.length_append] at em
      refine for_range (lo := 0) (n := ((xs.length : Int) - 1).toNat) (fun i σ H3 => ∃ (kas : List (Rw × Addr)) (ws : List Rw) (us : List V) (y4 y5 : Option V), σ = [some (.ref a), some (.ref d), some (.ref wl), some (.ref ha), y4, y5] ∧ DctAt P w H3 d kas ∧ H3 wl = some (.lst us) ∧ RowsAt H3 us ws ∧ Fnd r (ksOf kas) ws [x] ∧
          2 * (720 - kas.length) + ws.length < m ∧ Same H H3 ∧ Tups H2 H3 ∧ ∀ j, j < i → ∀ u v, x[j]? = some u → x[j + 1]? = some v → u.1 = v.1 → exch x j ∈ ksOf kas)
        ⟨kas, qs, us', _, _, rfl, D2, W2, hU'.mono tp2, hF2, by rw [em]; simp only [List.length_cons, List.length_nil]; omega, sH2, .refl _, fun j hj => by omega⟩ (fun i σ H3 hi hW => ?_) (fun σ H3 hW => ?_)
      · obtain ⟨kas, ws, us, y4, y5, rfl, hD, eW, hU, hF, hm, sH3, tp3, hx⟩ := hW
        have z : (0 : Int) + (i : Int) = (i : Int) := by omega
        rw [z]
        have i1 : i < x.length := by omega
        have i2 : i + 1 < x.length := by omega
        have X3 : RowAt H3 ha x := X2.mono tp3
        -- there = exchanged(here, k)
        refine ⟨.ref ha, rfl, .int i, rfl, ha, x, i, x[i], x[i + 1], rfl, X3, List.getElem?_eq_getElem i1, List.getElem?_eq_getElem i2, by omega, fun t H4 s4 hT => ?_⟩
        have ex4 : H4 ha = some (.tup xs) := s4 _ _ (tp3 _ _ ex)
        have hL4 : LaysAt H4 xs x := (hL.mono tp3).mono (.of s4)
        obtain ⟨v1, g1, l1⟩ := hL4.get (List.getElem?_eq_getElem i1)
        obtain ⟨v2, g2, l2⟩ := hL4.get (List.getElem?_eq_getElem i2)
        obtain ⟨b1, rfl, e1⟩ := l1
        obtain ⟨b2, rfl, e2⟩ := l2
        have D4 := hD.mono s4
        have W4 := s4 _ _ eW
        have U4 := hU.mono (.of s4)
        have nx : (x[i].1 = x[i + 1].1 → exch x i ∈ ksOf kas) → ∃ (kas' : List (Rw × Addr)) (ws' : List Rw) (us' : List V) (y4 y5 : Option V), [some (V.ref a), some (V.ref d), some (V.ref wl), some (V.ref ha), some (V.int (i : Int)), some (V.ref t)] = [some (.ref a), some (.ref d), some (.ref wl), some (.ref ha), y4, y5] ∧ DctAt P w H4 d kas' ∧ H4 wl = some (.lst us') ∧ RowsAt H4 us' ws' ∧ Fnd r (ksOf kas') ws' [x] ∧
            2 * (720 - kas'.length) + ws'.length < m ∧ Same H H4 ∧ Tups H2 H4 ∧ ∀ j, j < i + 1 → ∀ u v, x[j]? = some u → x[j + 1]? = some v → u.1 = v.1 → exch x j ∈ ksOf kas' := fun hin =>
          ⟨kas, ws, us, _, _, rfl, D4, W4, U4, hF, hm, sH3.trans s4, tp3.trans (.of s4), fun j hj u v h1 h2 h3 => by
            rcases Nat.lt_succ_iff_lt_or_eq.mp hj with h | h
            · exact hx j h u v h1 h2 h3
            · subst h
              rw [List.getElem?_eq_getElem i1] at h1
              rw [List.getElem?_eq_getElem i2] at h2
              cases h1
              cases h2
              exact hin h3⟩
        refine ⟨.ref ha, rfl, .int i, rfl, ha, xs, i, .ref b1, rfl, rfl, SqT.of ex4, atI_nat g1, b1, _, 0, .str x[i].1, rfl, rfl, SqT.of e1, atI_nat (j := 0) rfl,
          .ref ha, rfl, .int i, rfl, i, 1, rfl, rfl, ha, xs, (i : Int) + 1, .ref b2, rfl, rfl, SqT.of ex4, atI_last_two g2, b2, _, 0, .str x[i + 1].1, rfl, rfl, SqT.of e2, atI_nat (j := 0) rfl, rfl, _, rfl, ite2 (fun e => ?_) (fun e => ?_)⟩
        · have eT : x[i].1 = x[i + 1].1 := V.str.inj (of_decide_eq_true e)
          refine ⟨.ref t, rfl, .ref d, rfl, t, d, exch x i, kas, rfl, rfl, hT, D4, _, rfl, ?_⟩
          by_cases hin : exch x i ∈ ksOf kas
          · rw [decide_eq_true hin]
            exact iteF (nx fun _ => hin)
          · rw [decide_eq_false hin]
            refine iteT ?_
            have reT : Reach r (exch x i) := reX.trans (exch_step (List.getElem?_eq_getElem i1) (List.getElem?_eq_getElem i2) eT).reach
            have F5 := hF.add hin reT
            have le5 := keys_le hlen F5.nd F5.re
            rw [List.length_append, List.length_map] at le5
            simp only [List.length_cons, List.length_nil] at le5
            -- found[there] = True
            refine ⟨.ref d, rfl, .ref t, rfl, t, d, exch x i, kas, rfl, rfl, rfl, hT, D4, hin, by omega, fun D5 => ?_⟩
            have ndw4 : wl ≠ d := fun z => ndw z.symm
            have W5 : (upd H4 d (DctO P w d (kas ++ [(exch x i, t)]))) wl = some (.lst us) := by
              rw [upd_ne ndw4]
              exact W4
            have lws := hF.le
            rw [List.length_map] at lws
            have lus := hU.length
            -- waiting.append(there)
            refine ⟨.ref wl, rfl, .inl ⟨rfl, _, SqL.of W5⟩, .ref t, rfl, wl, us, .ref t, rfl, rfl, W5, by rw [sizeLine_eq]; omega, ?_⟩
            have tpA : Tups H4 (upd H4 d (DctO P w d (kas ++ [(exch x i, t)]))) := .set D4.is fun xs z => by
              unfold DctO at z
              cases z
            have tpB : Tups (upd H4 d (DctO P w d (kas ++ [(exch x i, t)]))) (upd (upd H4 d (DctO P w d (kas ++ [(exch x i, t)]))) wl (.lst (us ++ [V.ref t]))) := .set W5 fun xs z => by cases z
            refine ⟨kas ++ [(exch x i, t)], ws ++ [exch x i], us ++ [V.ref t], _, _, rfl, ?_, upd_same, ?_, ?_, ?_, ?_, ?_, fun j hj u v h1 h2 h3 => ?_⟩
            · exact ⟨by rw [upd_ne ndw]; exact D5.is, D5.ne, D5.nd, fun y hy => (D5.rows y hy).mono tpB⟩
            · exact (U4.mono (tpA.trans tpB)).app (.cons (hT.mono (tpA.trans tpB)) .nil)
            · rw [ksOf_app]
              exact F5
            · rw [List.length_append, List.length_append]
              simp only [List.length_cons, List.length_nil]
              omega
            · have ndH : H d = none := nd
              exact same_laid (Same.refl H) nwH (same_laid (Same.refl H) ndH (sH3.trans s4))
            · exact (tp3.trans (.of s4)).trans (tpA.trans tpB)
            · rw [ksOf_app]
              rcases Nat.lt_succ_iff_lt_or_eq.mp hj with h | h
              · exact List.mem_append_left _ (hx j h u v h1 h2 h3)
              · subst h
                exact List.mem_append_right _ (List.mem_singleton.mpr rfl)
        · refine iteF (nx fun z => ?_)
          exact absurd (decide_eq_true (congrArg V.str z)) e
      · obtain ⟨kas, ws, us, y4, y5, rfl, hD, eW, hU, hF, hm, sH3, tp3, hx⟩ := hW
        refine ⟨kas, ws, us, _, _, _, rfl, hD, eW, hU, hF.done fun b hb => ?_, hm, sH3⟩
        obtain ⟨j, u, v, h1, h2, h3, rfl⟩ := step_exch hb
        have := (List.getElem?_eq_some_iff.mp h2).1
        exact hx j (by omega) u v h1 h2 h3
end
end Fade

namespace Fade
open PySem PySem.Spec PyProof.Rows L2 LamX
/-! ### lists of lists of layers -/
inductive StsAt (H : Hp) : List V → List Rw → Prop
  | nil : StsAt H [] []
  | cons {b us st vs sts} : H b = some (.lst us) → LaysAt H us st → StsAt H vs sts → StsAt H (.ref b :: vs) (st :: sts)
theorem StsAt.mono {H H' : Hp} {vs : List V} {sts : List Rw} (h : StsAt H vs sts) : (∀ b o, V.ref b ∈ vs → H b = some o → H' b = some o) → Tups H H' → StsAt H' vs sts := by
  induction h with
  | nil => exact fun _ _ => .nil
  | cons e l _ ih => exact fun k t => .cons (k _ _ List.mem_cons_self e) (l.mono t) (ih (fun b o hb => k b o (List.mem_cons_of_mem _ hb)) t)
theorem StsAt.app {H : Hp} {vs us : List V} {r q : List Rw} (h : StsAt H vs r) (k : StsAt H us q) : StsAt H (vs ++ us) (r ++ q) := by
  induction h with
  | nil => exact k
  | cons e a _ ih => exact .cons e a ih
theorem StsAt.length {H : Hp} {vs : List V} {sts : List Rw} (h : StsAt H vs sts) : vs.length = sts.length := by
  induction h with
  | nil => rfl
  | cons _ _ _ ih => rw [List.length_cons, List.length_cons, ih]
theorem StsAt.get {H : Hp} {vs : List V} {sts : List Rw} (h : StsAt H vs sts) : ∀ {i : Nat} {v : V}, vs[i]? = some v → ∃ b us st, v = .ref b ∧ sts[i]? = some st ∧ H b = some (.lst us) ∧ LaysAt H us st := by
  induction h with
  | nil => intro i v e; cases e
  | cons e a _ ih =>
    intro i v h
    cases i with
    | zero =>
      cases h
      exact ⟨_, _, _, rfl, rfl, e, a⟩
    | succ i => exact ih h
theorem StsAt.split {H : Hp} : ∀ {vs : List V} {sts : List Rw}, StsAt H vs sts → sts ≠ [] → ∃ us b ls qs x, vs = us ++ [.ref b] ∧ sts = qs ++ [x] ∧ StsAt H us qs ∧ H b = some (.lst ls) ∧ LaysAt H ls x
  | _, _, .nil, h => absurd rfl h
  | _, _, .cons (vs := []) (sts := []) e a .nil, _ => ⟨[], _, _, [], _, rfl, rfl, .nil, e, a⟩
  | _, _, .cons (vs := v :: vs) (sts := s :: sts) (b := b) (st := st) e a k, _ => by
    obtain ⟨us, c, ls, qs, x, e1, e2, e3, e4, e5⟩ := StsAt.split k (by simp)
    exact ⟨.ref b :: us, c, ls, st :: qs, x, by rw [e1]; rfl, by rw [e2]; rfl, .cons e a e3, e4, e5⟩
def dataS (st : Rw) : PyData := .list (st.map dataL)
theorem StsAt.dp {K : PySem.W.Frag} {H : Hp} {vs : List V} {sts : List Rw} (h : StsAt H vs sts) : DpAll K H vs (sts.map dataS) := by
  induction h with
  | nil => exact .nil
  | cons e a _ ih => exact .cons (.lst (SqL.of e) a.dp) ih
theorem canLay_sts : ∀ {sts : List Rw}, (∀ r ∈ sts, RowOk r) → PyData.canLayAll0 (sts.map dataS) = true
  | [], _ => rfl
  | r :: rs, h => by
    rw [List.map_cons, PyData.canLayAll0, canLay_sts fun x hx => h x (List.mem_cons_of_mem _ hx)]
    unfold dataS
    rw [PyData.canLay0, canLay_lays (h r List.mem_cons_self)]
    rfl
theorem depth_sts : ∀ sts : List Rw, PyData.depthAll (sts.map dataS) ≤ 2
  | [] => by simp [PyData.depthAll]
  | r :: rs => by
    rw [List.map_cons, PyData.depthAll]
    have h1 := depth_lays r
    have h2 := depth_sts rs
    unfold dataS
    rw [PyData.depth]
    unfold dataS at h2
    omega
theorem shaped_sts {sts : List Rw} (h : ∀ r ∈ sts, RowOk r) : SeqAt.shaped (.list (sts.map dataS)) = true := by
  unfold SeqAt.shaped
  rw [PyData.canLay0, canLay_sts h, Bool.true_and, PyData.depth]
  have := depth_sts sts
  exact decide_eq_true (by omega)
section
variable {P : Program} {w : World} {K : PySem.W.Frag} {mg : Str → Option Value} {base : Heap}
/-! ### stretches -/
def spStretch : Sp := fun vs H Q _ => ∃ (a : Addr) (r : Rw), vs = [.ref a] ∧ RowAt H a r ∧ RowOk r ∧ r.length ≤ 1000 ∧
  ∀ fl fvs sts H', Same H H' → H' fl = some (.lst fvs) → StsAt H' fvs sts → Blocks sts → sts.flatten = r → (∀ b, V.ref b ∈ (V.ref fl :: fvs) → H b = none) → Q (.ref fl) H'
theorem ok_stretch {f : Addr} {fd : FuncData} (F : Fun K "stretches" "stretches" tS1 f fd) : FnOk P w K mg base CX0 1 f fd ["row"] spStretch := by
  refine F.ok scS1 (fun vs H Q E h => ?_) (fun cdv A outer s H vs Q E hr h => ?_)
  · obtain ⟨a, r, rfl, _⟩ := h
    rfl
  · obtain ⟨a, r, rfl, ⟨xs, ea, hL⟩, ho, hlen, q⟩ := h
    have hu := hr.units
    have lx := hL.length
    refine ⟨_, pss_cons (ps_set (i := 1) scS1.nd rfl (.inl rfl) (pe_lst pa_nil))
      (pss_cons (ps_for PassesOwn.never rfl (pi_tup (pv 0)) (pg_name (i := 2) scS1.nd rfl (.inl rfl))
        (pss_one (ps_if (PW.pt (pw_and (pt_cmpR (op_neD hu) (pv 1) (pe_lst pa_nil) (nomark _))
            (pw_and1 (pt_cmpR op_eq (pe_ix ix_tup (pe_ix ix_list (pe_ix ix_list (pv 1) (pe_un un_neg pe_int) (fun _ _ => rfl)) pe_int (fun _ _ => rfl)) pe_int (fun _ _ => rfl)) (pe_ix ix_tup (pv 2) pe_int (fun _ _ => rfl)) (nomark _)))))
          (pss_one (ps_expr (pe_bm PySem.F.plainAttrs_list PySem.F.slot_list_append PySem.F.type_list_append mt_append (pe_ix ix_list (pv 1) (pe_un un_neg pe_int) (fun _ _ => rfl)) (pa_cons (pv 2) pa_nil))))
          (pss_one (ps_expr (pe_bm PySem.F.plainAttrs_list PySem.F.slot_list_append PySem.F.type_list_append mt_append (pv 1) (pa_cons (pe_lst (pa_cons (pv 2) pa_nil)) pa_nil)))))))
      (pss_one (ps_ret (pv 1)))), ?_⟩
    refine ⟨Nat.zero_le _, fun fl nf => ?_⟩
    refine ⟨.ref a, rfl, a, rfl, ⟨xs, SqT.of (same_new nf _ _ ea)⟩, ?_⟩
    refine for_tup (K := K) (a := a) (xs := xs) (fun i σ H1 => ∃ (fvs : List V) (sts : List Rw) (y2 : Option V), σ = [some (.ref a), some (.ref fl), y2] ∧ Same H H1 ∧ H1 fl = some (.lst fvs) ∧ StsAt H1 fvs sts ∧ Blocks sts ∧ sts.flatten = r.take i ∧
        (V.ref fl :: fvs).Nodup ∧ ∀ b, V.ref b ∈ (V.ref fl :: fvs) → H b = none)
      ⟨[], [], none, rfl, same_new nf, upd_same, .nil, trivial, rfl, by simp, fun b hb => by
        rcases List.mem_cons.mp hb with z | z
        · cases z
          exact nf
        · cases z⟩ (fun i σ H1 _ hW => ?_) (fun i v σ H1 hv hW => ?_) (fun σ H1 hW => ?_)
    · obtain ⟨fvs, sts, y2, rfl, s1, _⟩ := hW
      exact SqT.of (s1 _ _ ea)
    · obtain ⟨fvs, sts, y2, rfl, s1, ef, hS, hB, hfl, nd, new⟩ := hW
      have il : i < r.length := by
        have := (List.getElem?_eq_some_iff.mp hv).1
        omega
      obtain ⟨v', hv', hl⟩ := hL.get (List.getElem?_eq_getElem il)
      rw [hv] at hv'
      cases hv'
      obtain ⟨la, rfl, el⟩ := hl
      have elH1 := s1 _ _ el
      have okS : ∀ st ∈ sts, RowOk st := fun st hst l hl => ho l (List.mem_of_mem_take (by rw [← hfl]; exact List.mem_flatten.mpr ⟨st, hst, hl⟩))
      have tk : r.take (i + 1) = r.take i ++ [r[i]] := by
        rw [List.take_add_one, List.getElem?_eq_getElem il]
        rfl
      -- found != []
      refine ⟨.ref fl, rfl, Nat.zero_le _, fun e ne => ?_⟩
      have sE : Same H1 (upd H1 e (.lst [])) := same_new ne
      have nfe : fl ≠ e := ne_of_none ef ne
      have efE := sE _ _ ef
      have hSE : StsAt (upd H1 e (.lst [])) fvs sts := hS.mono (fun b o _ h => sE b o h) (.of sE)
      generalize eHE : upd H1 e (.lst []) = HE at *
      have addNew : (∀ b, sts.getLast? = some b → ∀ x, b.head? = some x → x.1 ≠ r[i].1) → (tDrop (tBM K "list" rAppend (tVar 1) (tCons (tLst (tCons (tVar 2) tNil)) tNil))) { nx := fun σ' H' => ∃ (fvs : List V) (sts : List Rw) (y2 : Option V), σ' = [some (.ref a), some (.ref fl), y2] ∧ Same H H' ∧ H' fl = some (.lst fvs) ∧ StsAt H' fvs sts ∧ Blocks sts ∧ sts.flatten = r.take (i + 1) ∧ (V.ref fl :: fvs).Nodup ∧ ∀ b, V.ref b ∈ (V.ref fl :: fvs) → H b = none, rt := Q } [some (V.ref a), some (V.ref fl), some (V.ref la)] HE := fun hlast => by
        refine ⟨.ref fl, rfl, .inl ⟨rfl, _, SqL.of efE⟩, .ref la, rfl, by show 1 ≤ sizeLine; decide, fun nb nn => ?_⟩
        have nfb : fl ≠ nb := ne_of_none efE nn
        have sN : Same HE (upd HE nb (.lst [V.ref la])) := same_new nn
        have efN := sN _ _ efE
        refine ⟨fl, fvs, .ref nb, rfl, rfl, efN, ?_, ?_⟩
        · rw [sizeLine_eq, hS.length]
          have : sts.length ≤ sts.flatten.length := by
            have nz : ∀ l : List Rw, (∀ x ∈ l, x ≠ []) → l.length ≤ l.flatten.length := by
              intro l
              induction l with
              | nil => exact fun _ => Nat.zero_le _
              | cons x l ih =>
                intro h
                have h1 := ih fun y hy => h y (List.mem_cons_of_mem _ hy)
                have h2 : 0 < x.length := List.length_pos_iff.mpr (h x List.mem_cons_self)
                rw [List.flatten_cons, List.length_append, List.length_cons]
                omega
            exact nz sts (Blocks.ne hB)
          rw [hfl, List.length_take] at this
          omega
        · have nH : ∀ b, V.ref b ∈ (V.ref fl :: fvs) → H b = none := new
          have tpN : Tups (upd HE nb (.lst [V.ref la])) (upd (upd HE nb (.lst [V.ref la])) fl (.lst (fvs ++ [V.ref nb]))) := .set efN fun _ z => by cases z
          have nbH : H nb = none := by
            cases z : H nb with
            | none => rfl
            | some o => rw [(s1.trans sE) nb o z] at nn; cases nn
          have nbf : V.ref nb ∉ fvs := fun hm => by
            obtain ⟨j, hj, ej⟩ := List.mem_iff_getElem.mp hm
            obtain ⟨b, us, st, e1, _, e2, _⟩ := hSE.get (List.getElem?_eq_getElem hj)
            rw [ej] at e1
            cases e1
            rw [e2] at nn
            cases nn
          refine ⟨fvs ++ [V.ref nb], sts ++ [[r[i]]], _, rfl, ?_, upd_same, ?_, blocks_snoc hB hlast, ?_, ?_, fun b hb => ?_⟩
          · exact same_laid (Same.refl H) nf ((s1.trans sE).trans sN)
          · refine StsAt.app (hSE.mono (fun b o hb h => ?_) ((Tups.of sN).trans tpN)) (.cons (us := [V.ref la]) ?_ (.cons ⟨la, rfl, ?_⟩ .nil) .nil)
            · have nbfl : b ≠ fl := fun z => by
                subst z
                exact (List.nodup_cons.mp nd).1 hb
              rw [upd_ne nbfl]
              exact sN b o h
            · rw [upd_ne nfb.symm, upd_same]
            · exact tpN _ _ (sN _ _ (sE _ _ elH1))
          · rw [List.flatten_append, hfl, tk]
            simp
          · have h1 := List.nodup_cons.mp nd
            rw [List.nodup_cons, List.nodup_append]
            refine ⟨fun hm => ?_, h1.2, by simp, fun x hx y hy z => ?_⟩
            · rcases List.mem_append.mp hm with hm | hm
              · exact h1.1 hm
              · have := List.mem_singleton.mp hm
                cases this
                exact nfb rfl
            · rw [List.mem_singleton.mp hy] at z
              rw [z] at hx
              exact nbf hx
          · rcases List.mem_cons.mp hb with hb | hb
            · cases hb
              exact nf
            · rcases List.mem_append.mp hb with hb | hb
              · exact new b (List.mem_cons_of_mem _ hb)
              · have := List.mem_singleton.mp hb
                cases this
                exact nbH
      refine ⟨.list (sts.map dataS), .list [], .lst (SqL.of efE) hSE.dp, .lst (SqL.of (by rw [← eHE, upd_same])) .nil, shaped_sts okS, rfl, _, rfl, ?_⟩
      rw [eqv_none]
      by_cases hs : sts = []
      · have : (!decide (sts.map dataS = [])) = false := by simp [hs]
        rw [this]
        refine iteF (iteF (addNew fun b hb => ?_))
        rw [hs] at hb
        cases hb
      · have : (!decide (sts.map dataS = [])) = true := by simp [hs]
        rw [this]
        refine iteT ?_
        obtain ⟨us, b, ls, qs, st, rfl, rfl, hU, eb, hLs⟩ := StsAt.split hSE hs
        have stne : st ≠ [] := Blocks.ne hB st (by simp)
        obtain ⟨x, st', rfl⟩ : ∃ x st', st = x :: st' := by
          cases st with
          | nil => exact absurd rfl stne
          | cons x st' => exact ⟨x, st', rfl⟩
        cases hLs with
        | @cons v0 vs0 _ _ h0 hr0 =>
        obtain ⟨xa, rfl, ex⟩ := h0
        refine ⟨.ref fl, rfl, 1, rfl, fl, us ++ [.ref b], -1, .ref b, rfl, rfl, SqL.of efE, atI_last _ _, b, _, 0, .ref xa, rfl, rfl, SqL.of eb, atI_nat (j := 0) rfl, xa, _, 0, .str x.1, rfl, rfl, SqT.of ex, atI_nat (j := 0) rfl,
          .ref la, rfl, la, _, 0, .str r[i].1, rfl, rfl, SqT.of (sE _ _ elH1), atI_nat (j := 0) rfl, rfl, _, rfl, ite2 (fun e => ?_) (fun e => ?_)⟩
        · have eT : x.1 = r[i].1 := V.str.inj (of_decide_eq_true e)
          refine ⟨.ref fl, rfl, 1, rfl, fl, us ++ [.ref b], -1, .ref b, rfl, rfl, SqL.of efE, atI_last _ _, .inl ⟨rfl, _, SqL.of eb⟩, .ref la, rfl, b, _, .ref la, rfl, rfl, eb, ?_, ?_⟩
          · have h1 := hr0.length
            have h2 : (x :: st').length ≤ r.length := by
              have z := congrArg List.length hfl
              rw [List.flatten_append, List.length_append, List.length_take] at z
              have z2 : ([x :: st'] : List Rw).flatten.length = (x :: st').length := by simp
              omega
            rw [List.length_cons] at h2 ⊢
            rw [sizeLine_eq]
            omega
          · have nbfl : b ≠ fl := fun z => by
              subst z
              exact (List.nodup_cons.mp nd).1 (by simp)
            have bH : H b = none := new b (by simp)
            have tpS : Tups HE (upd HE b (.lst (V.ref xa :: vs0 ++ [V.ref la]))) := .set eb fun _ z => by cases z
            refine ⟨us ++ [.ref b], qs ++ [x :: st' ++ [r[i]]], _, rfl, same_laid (Same.refl H) bH (s1.trans sE), by rw [upd_ne nbfl.symm]; exact efE, ?_, blocks_grow (x := x) rfl eT hB, ?_, nd, new⟩
            · refine StsAt.app (hU.mono (fun c o hc h => ?_) tpS) (.cons upd_same ?_ .nil)
              · have ncb : c ≠ b := fun z => by
                  subst z
                  have h1 := (List.nodup_cons.mp nd).2
                  rw [List.nodup_append] at h1
                  exact h1.2.2 _ hc _ (List.mem_singleton.mpr rfl) rfl
                rw [upd_ne ncb]
                exact h
              · have hx0 : LaysAt HE (V.ref xa :: vs0) (x :: st') := .cons ⟨xa, rfl, ex⟩ hr0
                exact (hx0.mono tpS).app (.cons ⟨la, rfl, tpS _ _ (sE _ _ elH1)⟩ .nil)
            · rw [tk, ← hfl, List.flatten_append, List.flatten_append]
              simp
        · refine addNew fun c hc y hy z => ?_
          rw [List.getLast?_concat] at hc
          cases hc
          cases hy
          exact e (decide_eq_true (congrArg V.str z))
    · obtain ⟨fvs, sts, y2, rfl, s1, ef, hS, hB, hfl, nd, new⟩ := hW
      refine ⟨.ref fl, rfl, q fl fvs sts H1 s1 ef hS hB ?_ new⟩
      rw [hfl, lx, List.take_length]
end
end Fade

namespace Fade
open PySem PySem.Spec PyProof.Rows L2 LamX
/-- all but g and the tables stays -/
def ExtB (g : Addr) (H H' : Hp) : Prop := ∀ b o, b ≠ g → H b = some o → (∀ ps, o ≠ .tbl ps) → H' b = some o
theorem ExtB.trans {g : Addr} {H H1 H2 : Hp} (a : ExtB g H H1) (b : ExtB g H1 H2) : ExtB g H H2 := fun c o n h t => b c o n (a c o n h t) t
theorem ExtB.ext {g : Addr} {H H' : Hp} (e : ExtN H H') : ExtB g H H' := fun b o _ h t => e b o h t
theorem ExtB.set {g : Addr} {H : Hp} {o : HO} : ExtB g H (upd H g o) := fun b u n h _ => by
  rw [upd_ne n]
  exact h
theorem ExtN.same {H H' : Hp} (s : Same H H') : ExtN H H' := fun b o h _ => s b o h
theorem ExtB.tups {g : Addr} {H H' : Hp} {xs : List V} (e : ExtB g H H') (h : H g = some (.lst xs)) : Tups H H' := fun b ys k => e b _ (ne_of k h (by intro z; cases z)) k fun ps z => by cases z
theorem Tabs.set {T : List (Addr × Str)} {H : Hp} {g : Addr} {xs : List V} {u : HO} (t : Tabs T H) (h : H g = some (.lst xs)) : Tabs T (upd H g u) := (But.set (p := g)).tabs h t
section
variable {P : Program} {w : World} {K : PySem.W.Frag} {mg : Str → Option Value} {base : Heap}
/-! ### normal -/
/-- the name that the lambda's code object has -/
abbrev qLam : Str := (Str.ofString "normal" ++ Str.ofString ".<locals>.") ++ Str.ofString "<lambda>"
def spNormal (T : List (Addr × Str)) : Sp := fun vs H Q _ => ∃ (a : Addr) (r : Rw), vs = [.ref a] ∧ RowAt H a r ∧ RowOk r ∧ r.length ≤ 1000 ∧ Tabs T H ∧ ∀ p H', ExtN H H' → Tabs T H' → RowAt H' p (norm r) → Q (.ref p) H'
theorem ok_normal {f fS c Pt : Addr} {fdS : FuncData} {oc kV doc pm ct : Value} {od an : Option Addr} {osl : Array (Option Value)}
    (lk : K.lookup f = some ⟨oc, od, .func (PySem.W.fnOf "normal" "normal" (defArgs tS2) (defBody tS2) (defScope tS2) .none kV doc pm an (.ref c) ct), osl⟩) (hcd : PySem.W.codeIn K (.ref c) "normal" = true)
    (FS : Fun K "stretches" "stretches" tS1 fS fdS) (bS : Binds K fdS ["row"] []) (gS : mg "stretches" = some (.ref fS)) (GS : FnOk P w K mg base CX0 1 fS fdS ["row"] spStretch) (ms : mg "sorted" = none) (mt : mg "tuple" = none) (TB : TabB base mg c Pt) :
    FnOk P w K mg base CX0 2 f (PySem.W.fnOf "normal" "normal" (defArgs tS2) (defBody tS2) (defScope tS2) .none kV doc pm an (.ref c) ct) ["row"] (spNormal [(Pt, qLam)]) := by
  refine fn_of lk hcd scS2 (fun vs H Q E h => ?_) (fun A outer s H vs Q E hr h => ?_)
  · obtain ⟨a, r, rfl, _⟩ := h
    rfl
  · obtain ⟨a, r, rfl, hR, ho, hlen, hT, q⟩ := h
    refine ⟨_, PSs.nox (pss_cons (ps_set (i := 1) scS2.nd rfl (.inl rfl) (pe_lst pa_nil))
      (pss_cons (ps_for PassesOwn.never rfl (pi_list (pe_call GS hr (by rfl) gS FS.kp bS .nil pass0 (pa_cons (pv 0) pa_nil))) (pg_name (i := 2) scS2.nd rfl (.inl rfl))
        (pss_one (ps_expr (pe_bm PySem.F.plainAttrs_list PySem.F.slot_list_extend PySem.F.type_list_extend mt_extend (pv 1) (pa_cons
          (pe_sorted2 (T := [(Pt, qLam)]) (c := c) (P := Pt) hr (by rfl) ms (pv 2) TB rfl (List.mem_singleton.mpr rfl) (fun p hp _ => by rw [List.mem_singleton.mp hp]; rfl) rfl rfl rfl rfl (by decide +kernel) rfl (fun _ _ _ _ _ => rfl)) pa_nil)))))
      (pss_one (ps_ret (pe_callTy call_tuple_of (by rfl) mt (by decide +kernel) (pa_cons (pv 1) pa_nil)))))), ?_⟩
    -- found = []
    refine ⟨Nat.zero_le _, fun g ng => ?_⟩
    have sg : Same H (upd H g (.lst [])) := same_new ng
    refine ⟨.ref a, rfl, a, r, rfl, hR.mono (.of sg), ho, hlen, fun fl fvs sts H1 s1 ef hS hB hfl new => ?_⟩
    have eg1 : H1 g = some (.lst []) := s1 _ _ upd_same
    have nfg : fl ≠ g := fun z => by
      have := new fl List.mem_cons_self
      rw [z, upd_same] at this
      cases this
    refine ⟨fl, rfl, ⟨fvs, SqL.of ef⟩, ?_⟩
    have T1 : Tabs [(Pt, qLam)] H1 := Same.tabs (sg.trans s1) hT
    refine for_list (K := K) (a := fl) (xs := fvs) (fun i σ H2 => ∃ (vs : List V) (done : Rw) (y2 : Option V), σ = [some (.ref a), some (.ref g), y2] ∧ H2 g = some (.lst vs) ∧ LaysAt H2 vs done ∧ done ++ norm ((sts.drop i).flatten) = norm r ∧ ExtB g H1 H2 ∧ Tabs [(Pt, qLam)] H2)
      ⟨[], [], none, rfl, eg1, .nil, by rw [List.drop_zero, hfl]; rfl, fun _ _ _ h _ => h, T1⟩ (fun i σ H2 _ hW => ?_) (fun i v σ H2 hv hW => ?_) (fun σ H2 hW => ?_)
    · obtain ⟨vs, done, y2, rfl, _, _, _, k2, _⟩ := hW
      exact SqL.of (k2 _ _ nfg ef fun ps z => by cases z)
    · obtain ⟨vs, done, y2, rfl, eg, hD, en, k2, T2⟩ := hW
      obtain ⟨b, us, st, rfl, hst, eb, hL⟩ := hS.get hv
      have nbg : b ≠ g := fun z => by
        have := new b (List.mem_cons_of_mem _ (List.mem_of_getElem? hv))
        rw [z, upd_same] at this
        cases this
      have tp2 : Tups H1 H2 := k2.tups eg1
      have eb2 := k2 _ _ nbg eb fun ps z => by cases z
      have hL2 := hL.mono tp2
      have ed : sts.drop i = st :: sts.drop (i + 1) := by
        obtain ⟨hi, e⟩ := List.getElem?_eq_some_iff.mp hst
        rw [List.drop_eq_getElem_cons hi, e]
      refine ⟨.ref g, rfl, .inl ⟨rfl, _, SqL.of eg⟩, .ref b, rfl, b, us, st, rfl, SqL.of eb2, hL2, T2, fun H3 ys st' p e3 T3 hY hp hs np => ?_⟩
      have eg3 : H3 g = some (.lst vs) := e3 _ _ eg fun ps z => by cases z
      have ngp : g ≠ p := ne_of_none eg3 np
      have eg4 : (upd H3 p (.lst ys)) g = some (.lst vs) := by
        rw [upd_ne ngp]
        exact eg3
      have lsum : st.length ≤ r.length := by
        have h1 := congrArg List.length hfl
        have h2 : st.length ≤ sts.flatten.length := by
          have : st ∈ sts := List.mem_of_getElem? hst
          obtain ⟨A1, B1, rfl⟩ := List.append_of_mem this
          rw [List.flatten_append, List.flatten_cons, List.length_append, List.length_append]
          omega
        omega
      have ldone : done.length ≤ r.length := by
        have h1 := congrArg List.length en
        rw [List.length_append, norm_len, norm_len] at h1
        omega
      refine ⟨g, p, vs, ys, rfl, rfl, eg4, upd_same, ?_, ?_⟩
      · rw [hD.length, hY.length, hp.length_eq, sizeLine_eq]
        omega
      · have tpA : Tups H2 (upd H3 p (.lst ys)) := (Tups.ext e3).trans (.new np)
        have tpB : Tups (upd H3 p (.lst ys)) (upd (upd H3 p (.lst ys)) g (.lst (vs ++ ys))) := .set eg4 fun _ z => by cases z
        refine ⟨vs ++ ys, done ++ st', _, rfl, upd_same, ?_, ?_, ?_, ?_⟩
        · exact (hD.mono (tpA.trans tpB)).app ((hY.mono (.new np)).mono tpB)
        · have hbl : Blocks (st :: sts.drop (i + 1)) := by
            have all : ∀ (l : List Rw) (n : Nat), Blocks l → Blocks (l.drop n) := by
              intro l
              induction l with
              | nil => intro n _; simp; trivial
              | cons x l ih =>
                intro n h
                cases n with
                | zero => exact h
                | succ n => exact ih n h.2
            rw [← ed]
            exact all sts i hB
          obtain ⟨⟨t, _, u, hd⟩, _⟩ := hbl
          rw [← en, ed, List.flatten_cons, norm_block u hp hs hd, List.append_assoc]
        · exact k2.trans ((ExtB.ext e3).trans ((ExtB.ext (ExtN.same (same_new np))).trans .set))
        · exact Tabs.set (Same.tabs (same_new np) T3) eg4
    · obtain ⟨vs, done, y2, rfl, eg, hD, en, k2, T2⟩ := hW
      have ez : norm ((sts.drop fvs.length).flatten) = [] := by
        rw [hS.length, List.drop_eq_nil_of_le (Nat.le_refl _)]
        rfl
      rw [ez, List.append_nil] at en
      subst en
      refine ⟨.ref g, rfl, g, vs, rfl, .inl ⟨SqL.of eg, fun l nl => ?_⟩⟩
      refine q l _ (fun b o hb ht => ?_) (Same.tabs (same_new nl) T2) ⟨vs, upd_same, hD.mono (.new nl)⟩
      have nbg : b ≠ g := ne_of_none hb ng
      exact same_new nl _ _ (k2 b o nbg (s1 _ _ (sg _ _ hb)) ht)
/-! ### alike -/
def spAlike (T : List (Addr × Str)) : Sp := fun vs H Q _ => ∃ (a b : Addr) (r t : Rw), vs = [.ref a, .ref b] ∧ RowAt H a r ∧ RowAt H b t ∧ RowOk r ∧ RowOk t ∧ r.length ≤ 1000 ∧ t.length ≤ 1000 ∧ Tabs T H ∧
  ∀ H', ExtN H H' → Tabs T H' → Q (.bl (decide (norm r = norm t))) H'
theorem ok_alike {T : List (Addr × Str)} {f fN : Addr} {fd fdN : FuncData} (F : Fun K "alike" "alike" tS3 f fd) (kN : PySem.W.keepIn K (.ref fN) = true) (bN : Binds K fdN ["row"] []) (gN : mg "normal" = some (.ref fN))
    (GN : FnOk P w K mg base CX0 2 fN fdN ["row"] (spNormal T)) : FnOk P w K mg base CX0 3 f fd ["one", "other"] (spAlike T) := by
  refine F.ok scS3 (fun vs H Q E h => ?_) (fun cdv A outer s H vs Q E hr h => ?_)
  · obtain ⟨a, b, r, t, rfl, _⟩ := h
    rfl
  · obtain ⟨a, b, r, t, rfl, hR, hU, ho, hp, lr, lt, hT, q⟩ := h
    refine ⟨_, pss_one (ps_ret (pe_cmpR (op_eqD hr.units) (pe_call GN hr (by rfl) gN kN bN .nil pass0 (pa_cons (pv 0) pa_nil)) (pe_call GN hr (by rfl) gN kN bN .nil pass0 (pa_cons (pv 1) pa_nil)) (nomark _))), ?_⟩
    refine ⟨.ref a, rfl, a, r, rfl, hR, ho, lr, hT, fun p1 H1 e1 T1 h1 => ?_⟩
    refine ⟨.ref b, rfl, b, t, rfl, hU.mono (.ext e1), hp, lt, T1, fun p2 H2 e2 T2 h2 => ?_⟩
    refine ⟨dataR (norm r), dataR (norm t), (h1.mono (.ext e2)).dp, h2.dp, shaped_row (rowOk_reach ho (reach_norm r)), shaped_row (rowOk_reach hp (reach_norm t)), ?_⟩
    rw [eqv_row]
    exact q H2 (e1.trans e2) T2
end
end Fade

namespace Fade
open PySem PySem.Spec PyProof.Rows L2 LamX
theorem cut_one (xs : List V) (k : Nat) : cutV xs (some (k : Int)) (some ((k : Int) + 1)) = (xs.drop k).take 1 := by
  unfold cutV
  rw [show ((k : Int) + 1) = ((k + 1 : Nat) : Int) by omega, HT.sIx_nat, HT.sIx_nat]
  rcases Nat.lt_or_ge k xs.length with h | h
  · rw [Nat.min_eq_left (by omega : k ≤ xs.length), Nat.min_eq_left (by omega : k + 1 ≤ xs.length), Nat.add_sub_cancel_left]
  · rw [Nat.min_eq_right h, Nat.min_eq_right (by omega), List.drop_eq_nil_of_le (Nat.le_refl _), List.drop_eq_nil_of_le h, List.take_nil, List.take_nil]
section
variable {P : Program} {w : World} {K : PySem.W.Frag} {mg : Str → Option Value} {base : Heap}
/-! ### _law_moved -/
def spMoved : Sp := fun vs H Q _ => ∃ (p a : Addr) (r : Rw), vs = [.ref p, .ref a] ∧ Pot H p ∧ RowAt H a r ∧ r.length ≤ 100 ∧
  ∀ b t H', RowAt H' b t → (∀ l ∈ t, l ∈ r) → t.length = r.length → But p H H' → Pot H' p → Q (.ref b) H'
theorem ok_moved {f fT fE : Addr} {fd fdT fdE : FuncData} (F : Fun K "_law_moved" "_law_moved" tS14 f fd) (FT : Fun K "_law_take" "_law_take" tS7 fT fdT) (bT : Binds K fdT ["_law_pot_here", "_law_many"] []) (gT : mg "_law_take" = some (.ref fT))
    (GT : FnOk P w K mg base CX0 1 fT fdT ["_law_pot_here", "_law_many"] spTake) (FE : Fun K "_law_exchanged" "_law_exchanged" tS12 fE fdE) (bE : Binds K fdE ["_law_row_here", "_law_k"] []) (gE : mg "_law_exchanged" = some (.ref fE))
    (GE : FnOk P w K mg base CX0 1 fE fdE ["_law_row_here", "_law_k"] spExch) (mr : mg "range" = none) (ml : mg "len" = none) : FnOk P w K mg base CX0 2 f fd ["_law_pot_here", "_law_row_here"] spMoved := by
  refine F.ok scS14 (fun vs H Q E h => ?_) (fun cdv A outer s H vs Q E hr h => ?_)
  · obtain ⟨p, a, r, rfl, _⟩ := h
    rfl
  · obtain ⟨p, a, r, rfl, hP, hR, hlen, q⟩ := h
    refine ⟨_, pss_cons (ps_set (i := 2) scS14.nd rfl (.inl rfl) (pe_cmpR op_eq (pe_call GT hr (by rfl) gT FT.kp bT .nil pass0 (pa_cons (pv 0) (pa_cons pe_int pa_nil))) pe_int (nomark _)))
      (pss_cons (ps_for PassesOwn.never rfl (pi_range1 (by rfl) mr (pa_cons (pe_call GT hr (by rfl) gT FT.kp bT .nil pass0 (pa_cons (pv 0) (pa_cons pe_int pa_nil))) pa_nil)) (pg_name (i := 3) scS14.nd rfl (.inl rfl))
        (pss_one (ps_if (pt_cmpR op_gt (pe_callB call_len_seq (by rfl) ml PySem.boot_len (pa_cons (pv 1) pa_nil)) pe_int (nomark _))
          (pss_cons (ps_set (i := 4) scS14.nd rfl (.inl rfl) (pe_call GT hr (by rfl) gT FT.kp bT .nil pass0 (pa_cons (pv 0) (pa_cons (pe_op op_sub (pe_callB call_len_seq (by rfl) ml PySem.boot_len (pa_cons (pv 1) pa_nil)) pe_int) pa_nil))))
          (pss_one (ps_if (PW.pt (pw_or (pt_val (pv 2)) (pw_or1 (pt_cmpR op_eq (pe_ix ix_tup (pe_ix ix_tup (pv 1) (pv 4) (fun _ _ => rfl)) pe_int (fun _ _ => rfl)) (pe_ix ix_tup (pe_ix ix_tup (pv 1) (pe_op op_add (pv 4) pe_int) (fun _ _ => rfl)) pe_int (fun _ _ => rfl)) (nomark _)))))
            (pss_one (ps_set (i := 1) scS14.nd rfl (.inl rfl) (pe_call GE hr (by rfl) gE FE.kp bE .nil pass0 (pa_cons (pv 1) (pa_cons (pv 4) pa_nil))))) pss_nil)))
          pss_nil)))
      (pss_one (ps_ret (pv 1)))), ?_⟩
    refine ⟨.ref p, rfl, p, 3, rfl, hP, by decide, by decide, fun d H1 _ _ k1 P1 => ⟨rfl, ?_⟩⟩
    generalize (decide (V.int d = V.int 0)) = free
    refine ⟨.ref p, rfl, p, 9, rfl, P1, by decide, by decide, fun n H2 n0 n1 k2 P2 => ⟨n, rfl, by omega, by omega, ?_⟩⟩
    have R2 : RowAt H2 a r := hR.mono (hP.tups (k1.trans k2))
    refine for_range (lo := 0) (n := n.toNat) (fun i σ H3 => ∃ (b : Addr) (t : Rw) (y3 y4 : Option V), σ = [some (.ref p), some (.ref b), some (.bl free), y3, y4] ∧ RowAt H3 b t ∧ (∀ l ∈ t, l ∈ r) ∧ t.length = r.length ∧ But p H H3 ∧ Pot H3 p)
      ⟨a, r, none, none, rfl, R2, fun _ h => h, rfl, k1.trans k2, P2⟩ (fun i σ H3 hi hW => ?_) (fun σ H3 hW => ?_)
    · obtain ⟨b, t, y3, y4, rfl, hB, ht, el, k3, P3⟩ := hW
      obtain ⟨xs, eb, hL⟩ := id hB
      have lx := hL.length
      refine ⟨.ref b, rfl, b, xs, rfl, .inr (SqT.of eb), xs.length, 1, rfl, rfl, _, rfl, ite2 (fun e => ?_) (fun e => ⟨b, t, _, _, rfl, hB, ht, el, k3, P3⟩)⟩
      have e1 : (1 : Int) < (xs.length : Int) := of_decide_eq_true e
      refine ⟨.ref p, rfl, .ref b, rfl, b, xs, rfl, .inr (SqT.of eb), xs.length, 1, rfl, rfl, p, (xs.length : Int) - 1, rfl, P3, by omega, Int.lt_of_le_of_lt (show (xs.length : Int) - 1 ≤ 100 by omega) (by decide), fun k H4 k0 kk k4 P4 => ?_⟩
      obtain ⟨j, rfl⟩ := Int.eq_ofNat_of_zero_le k0
      have j1 : j < t.length := by omega
      have j2 : j + 1 < t.length := by omega
      have tp4 := P3.tups k4
      have hB4 := hB.mono tp4
      have eb4 := tp4 _ _ eb
      have hL4 := hL.mono tp4
      have stay : ∃ (b' : Addr) (t' : Rw) (y3 y4 : Option V), [some (V.ref p), some (V.ref b), some (V.bl free), some (V.int (0 + (i : Int))), some (V.int (j : Int))] = [some (.ref p), some (.ref b'), some (.bl free), y3, y4] ∧ RowAt H4 b' t' ∧ (∀ l ∈ t', l ∈ r) ∧ t'.length = r.length ∧ But p H H4 ∧ Pot H4 p :=
        ⟨b, t, _, _, rfl, hB4, ht, el, k3.trans k4, P4⟩
      have go : (tAsg (tCall spExch [] E0 (tCons (tVar 1) (tCons (tVar 4) tNil))) (gName 1)) { nx := fun σ' H' => ∃ (b' : Addr) (t' : Rw) (y3 y4 : Option V), σ' = [some (.ref p), some (.ref b'), some (.bl free), y3, y4] ∧ RowAt H' b' t' ∧ (∀ l ∈ t', l ∈ r) ∧ t'.length = r.length ∧ But p H H' ∧ Pot H' p, rt := Q }
          [some (V.ref p), some (V.ref b), some (V.bl free), some (V.int (0 + (i : Int))), some (V.int (j : Int))] H4 := by
        refine ⟨.ref b, rfl, .int j, rfl, b, t, j, t[j], t[j + 1], rfl, hB4, List.getElem?_eq_getElem j1, List.getElem?_eq_getElem j2, by omega, fun u H5 s5 hU => ?_⟩
        exact ⟨u, exch t j, _, _, rfl, hU, fun l hl => ht l (exch_mem (List.getElem?_eq_getElem j1) (List.getElem?_eq_getElem j2) l hl), by rw [exch_len (List.getElem?_eq_getElem j1) (List.getElem?_eq_getElem j2)]; exact el, (k3.trans k4).trans (.of s5), P4.same s5⟩
      refine ⟨.bl free, rfl, free, rfl, ?_⟩
      cases free with
      | true => exact iteT (iteT go)
      | false =>
        refine iteF ?_
        obtain ⟨v1, g1, b1, rfl, e1'⟩ := hL4.get (List.getElem?_eq_getElem j1)
        obtain ⟨v2, g2, b2, rfl, e2'⟩ := hL4.get (List.getElem?_eq_getElem j2)
        refine ⟨.ref b, rfl, .int j, rfl, b, xs, j, .ref b1, rfl, rfl, SqT.of eb4, atI_nat g1, b1, _, 0, .str t[j].1, rfl, rfl, SqT.of e1', atI_nat (j := 0) rfl,
          .ref b, rfl, .int j, rfl, j, 1, rfl, rfl, b, xs, (j : Int) + 1, .ref b2, rfl, rfl, SqT.of eb4, atI_last_two g2, b2, _, 0, .str t[j + 1].1, rfl, rfl, SqT.of e2', atI_nat (j := 0) rfl, rfl, _, rfl, ite2 (fun _ => go) (fun _ => stay)⟩
    · obtain ⟨b, t, y3, y4, rfl, hB, ht, el, k3, P3⟩ := hW
      exact ⟨.ref b, rfl, q b t H3 hB ht el k3 P3⟩
/-! ### _law_changed -/
def spChanged : Sp := fun vs H Q _ => ∃ (p a l : Addr) (r : Rw) (zs : List Str), vs = [.ref p, .ref a, .ref l] ∧ Pot H p ∧ RowAt H a r ∧ RowLow r ∧ r.length ≤ 100 ∧ TagsAt H l zs ∧
  ∀ b t H', RowAt H' b t → RowOk t → t.length ≤ r.length + 1 → But p H H' → Pot H' p → Q (.ref b) H'
theorem ok_changed {f fT : Addr} {fd fdT : FuncData} (F : Fun K "_law_changed" "_law_changed" tS15 f fd) (FT : Fun K "_law_take" "_law_take" tS7 fT fdT) (bT : Binds K fdT ["_law_pot_here", "_law_many"] []) (gT : mg "_law_take" = some (.ref fT))
    (GT : FnOk P w K mg base CX0 1 fT fdT ["_law_pot_here", "_law_many"] spTake) (mx : mg "max" = none) (ml : mg "len" = none) : FnOk P w K mg base CX0 2 f fd ["_law_pot_here", "_law_row_here", "_law_tags"] spChanged := by
  refine F.ok scS15 (fun vs H Q E h => ?_) (fun cdv A outer s H vs Q E hr h => ?_)
  · obtain ⟨p, a, l, r, zs, rfl, _⟩ := h
    rfl
  · obtain ⟨p, a, l, r, zs, rfl, hP, hR, hlow, hlen, hT, q⟩ := h
    have hu := hr.units
    refine ⟨_, pss_cons (ps_par (i := 3) (j := 4) rfl scS15.nd rfl rfl (by decide) rfl rfl (pa_cons (pe_call GT hr (by rfl) gT FT.kp bT .nil pass0 (pa_cons (pv 0) (pa_cons pe_int pa_nil)))
        (pa_cons (pe_call GT hr (by rfl) gT FT.kp bT .nil pass0 (pa_cons (pv 0) (pa_cons (pe_callB (call_max2 rfl) (by rfl) mx (by decide +kernel) (pa_cons pe_int (pa_cons (pe_callB call_len_seq (by rfl) ml PySem.boot_len (pa_cons (pv 1) pa_nil)) pa_nil))) pa_nil))) pa_nil)) (by rfl))
      (pss_cons (ps_if (PW.pt (pw_or (pt_cmpR op_gt (pv 3) pe_int (nomark _)) (pw_or1 (pt_cmpR (op_eqD hu) (pv 1) (pe_tup pa_nil) (nomark _))))) (pss_one (ps_ret (pv 1))) pss_nil)
      (pss_cons (ps_asg (pe_ix ix_tup (pv 1) (pv 4) (fun _ _ => rfl)) (pg_tup rfl (pgs_cons (pg_name (i := 5) scS15.nd rfl (.inl rfl)) (pgs_cons (pg_name (i := 6) scS15.nd rfl (.inl rfl)) pgs_nil))))
      (pss_cons (ps_if (pt_cmpR op_eq (pv 3) pe_int (nomark _))
        (pss_one (ps_ret (pe_op op_catA (pe_op op_catA (pe_slice sl_tupA (pv 1) po_none (po_some (pv 4)))
          (pe_tup (pa_cons (pe_tup (pa_cons (pv 5) (pa_cons (pe_op op_add (pe_op op_add (pv 6) pe_int) (pe_call GT hr (by rfl) gT FT.kp bT .nil pass0 (pa_cons (pv 0) (pa_cons pe_int pa_nil)))) pa_nil))) pa_nil)))
          (pe_slice sl_tupA (pv 1) (po_some (pe_op op_add (pv 4) pe_int)) po_none)))) pss_nil)
      (pss_cons (ps_if (pt_cmpR op_eq (pv 3) pe_int (nomark _))
        (pss_cons (ps_set (i := 5) scS15.nd rfl (.inl rfl) (pe_ix ix_list (pv 2) (pe_call GT hr (by rfl) gT FT.kp bT .nil pass0 (pa_cons (pv 0) (pa_cons (pe_callB call_len_seq (by rfl) ml PySem.boot_len (pa_cons (pv 2) pa_nil)) pa_nil))) (fun _ _ => rfl)))
        (pss_one (ps_ret (pe_op op_catA (pe_op op_catA (pe_slice sl_tupA (pv 1) po_none (po_some (pv 4))) (pe_tup (pa_cons (pe_tup (pa_cons (pv 5) (pa_cons (pv 6) pa_nil))) pa_nil)))
          (pe_slice sl_tupA (pv 1) (po_some (pe_op op_add (pv 4) pe_int)) po_none))))) pss_nil)
      (pss_cons (ps_if (pt_cmpR op_eq (pv 3) pe_int (nomark _))
        (pss_one (ps_ret (pe_op op_catA (pe_slice sl_tupA (pv 1) po_none (po_some (pv 4))) (pe_slice sl_tupA (pv 1) (po_some (pe_op op_add (pv 4) pe_int)) po_none)))) pss_nil)
      (pss_one (ps_ret (pe_op op_catA (pe_op op_catA (pe_slice sl_tupA (pv 1) po_none (po_some (pv 4))) (pe_slice sl_tupA (pv 1) (po_some (pv 4)) (po_some (pe_op op_add (pv 4) pe_int))))
        (pe_slice sl_tupA (pv 1) (po_some (pv 4)) po_none))))))))), ?_⟩
    obtain ⟨xs, ea, hL⟩ := id hR
    have lx := hL.length
    refine ⟨.ref p, rfl, p, 8, rfl, hP, by decide, by decide, fun way H1 w0 w1 k1 P1 => ?_⟩
    have tp1 := hP.tups k1
    have ea1 := tp1 _ _ ea
    refine ⟨.ref p, rfl, .ref a, rfl, a, xs, rfl, .inr (SqT.of ea1), 1, xs.length, rfl, p, _, rfl, P1, ?_, ?_, fun k H2 k0 kk k2 P2 => ?_⟩
    · split <;> omega
    · refine Int.lt_of_le_of_lt (b := 101) ?_ (by decide)
      split <;> omega
    obtain ⟨j, rfl⟩ := Int.eq_ofNat_of_zero_le k0
    have tp2 : Tups H H2 := hP.tups (k1.trans k2)
    have kA := k1.trans k2
    have ea2 := tp2 _ _ ea
    have R2 := hR.mono tp2
    have hL2 := hL.mono tp2
    refine ⟨_, _, rfl, ?_⟩
    have out : ∀ H3, Same H2 H3 → Q (.ref a) H3 := fun H3 s3 => q a r H3 (R2.mono (.of s3)) hlow.ok (Nat.le_succ _) (kA.trans (.of s3)) (P2.same s3)
    refine ⟨.int way, rfl, way, 3, rfl, rfl, _, rfl, ite2 (fun e => iteT ⟨.ref a, rfl, out H2 (.refl _)⟩) (fun e => ?_)⟩
    have wy : way ≤ 3 := by
      have : ¬ (3 < way) := fun z => e (decide_eq_true z)
      omega
    refine ⟨.ref a, rfl, Nat.zero_le _, fun te nte => ?_⟩
    have s3 : Same H2 (upd H2 te (.tup [])) := same_new nte
    generalize eH3 : upd H2 te (.tup []) = H3 at *
    have ete : H3 te = some (.tup []) := by rw [← eH3, upd_same]
    refine ⟨dataR r, dataR [], (R2.mono (.of s3)).dp, .tup (SqT.of ete) .nil, shaped_row hlow.ok, rfl, _, rfl, ?_⟩
    rw [eqv_row]
    by_cases hr0 : r = []
    · rw [decide_eq_true hr0]
      exact iteT ⟨.ref a, rfl, out _ s3⟩
    rw [decide_eq_false hr0]
    refine iteF ?_
    have pos : 0 < r.length := List.length_pos_iff.mpr hr0
    have hj : j < r.length := by
      split at kk <;> omega
    have kA3 : But p H H3 := kA.trans (.of s3)
    have P3 := P2.same s3
    have ea3 := s3 _ _ ea2
    have hL3 := hL2.mono (.of s3)
    obtain ⟨v, gv, la, rfl, el⟩ := hL3.get (List.getElem?_eq_getElem hj)
    obtain ⟨tg1, tg2, tg3⟩ := hlow r[j] (List.getElem_mem hj)
    -- tag, strength = row[k]
    refine ⟨.ref a, rfl, .int j, rfl, a, xs, j, .ref la, rfl, rfl, SqT.of ea3, atI_nat gv, la, _, rfl, SqT.of el, rfl, .str r[j].1, [.int r[j].2], rfl, .int r[j].2, [], rfl, rfl, ?_⟩
    have okT : ∀ n, RowOk (r.take n) := fun n l hl => hlow.ok l (List.mem_of_mem_take hl)
    have okD : ∀ n, RowOk (r.drop n) := fun n l hl => hlow.ok l (List.mem_of_mem_drop hl)
    have okA : ∀ {x y : Rw}, RowOk x → RowOk y → RowOk (x ++ y) := fun hx hy l hl => (List.mem_append.mp hl).elim (hx l) (hy l)
    have j1 : ((j : Int) + 1) = ((j + 1 : Nat) : Int) := by omega
    -- way == 0
    refine ⟨.int way, rfl, rfl, _, rfl, ite2 (fun _ => ?_) (fun _ => ?_)⟩
    · refine ⟨.ref a, rfl, .int j, rfl, j, rfl, slice_any ea3 fun p4 H4 s4 e4 => ?_⟩
      rw [cut_take] at e4
      refine ⟨.str r[j].1, rfl, .int r[j].2, rfl, r[j].2, 1, rfl, rfl, .ref p, rfl, p, 3, rfl, P3.same s4, by decide, by decide, fun d H5 d0 d1 k5 P5 => ⟨r[j].2 + 1, d, rfl, rfl, by show 2 ≤ sizeLine; decide, fun lb nlb => ⟨by show 1 ≤ sizeLine; decide, fun tb ntb => ?_⟩⟩⟩
      have tp5 : Tups H4 H5 := (P3.same s4).tups k5
      have s6 : Same H5 (upd H5 lb (.tup [V.str r[j].1, V.int (r[j].2 + 1 + d)])) := same_new nlb
      have s7 : Same (upd H5 lb (.tup [V.str r[j].1, V.int (r[j].2 + 1 + d)])) (upd (upd H5 lb (.tup [V.str r[j].1, V.int (r[j].2 + 1 + d)])) tb (.tup [V.ref lb])) := same_new ntb
      generalize eH7 : upd (upd H5 lb (.tup [V.str r[j].1, V.int (r[j].2 + 1 + d)])) tb (.tup [V.ref lb]) = H7 at *
      have etb : H7 tb = some (.tup [V.ref lb]) := by rw [← eH7, upd_same]
      have elb : H7 lb = some (.tup [V.str r[j].1, V.int (r[j].2 + 1 + d)]) := s7 _ _ upd_same
      have tp7 : Tups H4 H7 := tp5.trans ((Tups.of s6).trans (.of s7))
      refine cat_any (tp7 _ _ e4) etb ?_ fun p8 H8 s8 e8 => ?_
      · rw [List.length_take, sizeLine_eq]
        simp only [List.length_cons, List.length_nil]
        omega
      have ea8 := s8 _ _ (tp7 _ _ (s4 _ _ ea3))
      refine ⟨.ref a, rfl, .int j, rfl, j, 1, rfl, rfl, (j : Int) + 1, rfl, ?_⟩
      unfold tNoPart
      simp only []
      refine slice_any ea8 fun p9 H9 s9 e9 => ?_
      rw [j1, cut_drop] at e9
      refine cat_any (s9 _ _ e8) e9 ?_ fun pA HA sA eA => ?_
      · rw [List.length_append, List.length_take, List.length_drop, sizeLine_eq]
        simp only [List.length_cons, List.length_nil]
        omega
      have tpA : Tups H3 HA := (Tups.of s4).trans (tp7.trans ((Tups.of s8).trans ((Tups.of s9).trans (.of sA))))
      have kF : But p H HA := kA3.trans ((But.of s4).trans (k5.trans ((But.of s6).trans ((But.of s7).trans ((But.of s8).trans ((But.of s9).trans (.of sA)))))))
      have hLA := hL3.mono tpA
      refine q pA (r.take j ++ [(r[j].1, r[j].2 + 1 + d)] ++ r.drop (j + 1)) HA ⟨_, eA, ?_⟩ ?_ ?_ kF ((((P5.same s6).same s7).same s8).same (s9.trans sA))
      · exact ((hLA.take j).app (.cons ⟨lb, rfl, sA _ _ (s9 _ _ (s8 _ _ elb))⟩ .nil)).app (hLA.drop (j + 1))
      · refine okA (okA (okT j) fun l hl => ?_) (okD (j + 1))
        rw [List.mem_singleton.mp hl]
        refine ⟨tg1, by show 1 ≤ r[j].2 + 1 + d; omega, ?_⟩
        have z : (2 : Int) ^ 210 + 4 < 2 ^ 220 := by decide +kernel
        show r[j].2 + 1 + d < 2 ^ 220
        omega
      · rw [List.length_append, List.length_append, List.length_take, List.length_drop]
        simp only [List.length_cons, List.length_nil]
        omega
    -- way == 1
    refine ⟨.int way, rfl, rfl, _, rfl, ite2 (fun _ => ?_) (fun _ => ?_)⟩
    · have T3 : TagsAt H3 l zs := (hT.but hP kA3)
      refine ⟨.ref l, rfl, .ref p, rfl, .ref l, rfl, l, zs.map V.str, rfl, .inl (SqL.of T3.1), p, _, rfl, P3, ?_, ?_, fun d H4 d0 d1 k4 P4 => ?_⟩
      · rw [List.length_map]
        have := T3.2.1
        omega
      · rw [List.length_map]
        have := T3.2.2.1
        exact Int.lt_of_le_of_lt (show (zs.length : Int) ≤ 3 by omega) (by decide)
      rw [List.length_map] at d1
      obtain ⟨i, rfl⟩ := Int.eq_ofNat_of_zero_le d0
      have hi : i < zs.length := by omega
      have T4 : TagsAt H4 l zs := T3.but P3 k4
      refine ⟨l, zs.map V.str, i, .str zs[i], rfl, rfl, SqL.of T4.1, atI_nat (by rw [List.getElem?_map, List.getElem?_eq_getElem hi]; rfl), ?_⟩
      have tp4 : Tups H3 H4 := P3.tups k4
      refine ⟨.ref a, rfl, .int j, rfl, j, rfl, slice_any (tp4 _ _ ea3) fun p5 H5 s5 e5 => ?_⟩
      rw [cut_take] at e5
      refine ⟨.str zs[i], rfl, .int r[j].2, rfl, by show 2 ≤ sizeLine; decide, fun lb nlb => ⟨by show 1 ≤ sizeLine; decide, fun tb ntb => ?_⟩⟩
      have s6 : Same H5 (upd H5 lb (.tup [V.str zs[i], V.int r[j].2])) := same_new nlb
      have s7 : Same (upd H5 lb (.tup [V.str zs[i], V.int r[j].2])) (upd (upd H5 lb (.tup [V.str zs[i], V.int r[j].2])) tb (.tup [V.ref lb])) := same_new ntb
      generalize eH7 : upd (upd H5 lb (.tup [V.str zs[i], V.int r[j].2])) tb (.tup [V.ref lb]) = H7 at *
      have etb : H7 tb = some (.tup [V.ref lb]) := by rw [← eH7, upd_same]
      have elb : H7 lb = some (.tup [V.str zs[i], V.int r[j].2]) := s7 _ _ upd_same
      have s57 := s6.trans s7
      refine cat_any (s57 _ _ e5) etb ?_ fun p8 H8 s8 e8 => ?_
      · rw [List.length_take, sizeLine_eq]
        simp only [List.length_cons, List.length_nil]
        omega
      have ea8 := s8 _ _ (s57 _ _ (s5 _ _ (tp4 _ _ ea3)))
      refine ⟨.ref a, rfl, .int j, rfl, j, 1, rfl, rfl, (j : Int) + 1, rfl, ?_⟩
      unfold tNoPart
      simp only []
      refine slice_any ea8 fun p9 H9 s9 e9 => ?_
      rw [j1, cut_drop] at e9
      refine cat_any (s9 _ _ e8) e9 ?_ fun pA HA sA eA => ?_
      · rw [List.length_append, List.length_take, List.length_drop, sizeLine_eq]
        simp only [List.length_cons, List.length_nil]
        omega
      have sL : Same H4 HA := s5.trans (s57.trans (s8.trans (s9.trans sA)))
      have hLA := hL3.mono (tp4.trans (.of sL))
      refine q pA (r.take j ++ [(zs[i], r[j].2)] ++ r.drop (j + 1)) HA ⟨_, eA, ?_⟩ ?_ ?_ (kA3.trans (k4.trans (.of sL))) (P4.same sL)
      · exact ((hLA.take j).app (.cons ⟨lb, rfl, sA _ _ (s9 _ _ (s8 _ _ elb))⟩ .nil)).app (hLA.drop (j + 1))
      · refine okA (okA (okT j) fun x hx => ?_) (okD (j + 1))
        rw [List.mem_singleton.mp hx]
        exact ⟨T3.2.2.2 _ (List.getElem_mem hi), tg2, Int.lt_trans tg3 (by decide +kernel)⟩
      · rw [List.length_append, List.length_append, List.length_take, List.length_drop]
        simp only [List.length_cons, List.length_nil]
        omega
    -- way == 2
    refine ⟨.int way, rfl, rfl, _, rfl, ite2 (fun _ => ?_) (fun _ => ?_)⟩
    · refine ⟨.ref a, rfl, .int j, rfl, j, rfl, slice_any ea3 fun p4 H4 s4 e4 => ?_⟩
      rw [cut_take] at e4
      refine ⟨.ref a, rfl, .int j, rfl, j, 1, rfl, rfl, (j : Int) + 1, rfl, ?_⟩
      unfold tNoPart
      simp only []
      refine slice_any (s4 _ _ ea3) fun p5 H5 s5 e5 => ?_
      rw [j1, cut_drop] at e5
      refine cat_any (s5 _ _ e4) e5 ?_ fun p6 H6 s6 e6 => ?_
      · rw [List.length_take, List.length_drop, sizeLine_eq]
        omega
      have sL : Same H3 H6 := s4.trans (s5.trans s6)
      have hLA := hL3.mono (.of sL)
      refine q p6 (r.take j ++ r.drop (j + 1)) H6 ⟨_, e6, (hLA.take j).app (hLA.drop (j + 1))⟩ (okA (okT j) (okD (j + 1))) ?_ (kA3.trans (.of sL)) (P3.same sL)
      rw [List.length_append, List.length_take, List.length_drop]
      omega
    -- else
    refine ⟨.ref a, rfl, .int j, rfl, j, rfl, slice_any ea3 fun p4 H4 s4 e4 => ?_⟩
    rw [cut_take] at e4
    refine ⟨.ref a, rfl, .int j, rfl, j, rfl, .int j, rfl, j, 1, rfl, rfl, (j : Int) + 1, rfl, slice_any (s4 _ _ ea3) fun p5 H5 s5 e5 => ?_⟩
    rw [cut_one] at e5
    refine cat_any (s5 _ _ e4) e5 ?_ fun p6 H6 s6 e6 => ?_
    · rw [List.length_take, List.length_take, List.length_drop, sizeLine_eq]
      omega
    have s46 : Same H3 H6 := s4.trans (s5.trans s6)
    refine ⟨.ref a, rfl, .int j, rfl, j, rfl, ?_⟩
    unfold tNoPart
    simp only []
    refine slice_any (s46 _ _ ea3) fun p7 H7 s7 e7 => ?_
    rw [cut_drop] at e7
    refine cat_any (s7 _ _ e6) e7 ?_ fun p8 H8 s8 e8 => ?_
    · rw [List.length_append, List.length_take, List.length_take, List.length_drop, sizeLine_eq]
      omega
    have sL : Same H3 H8 := s46.trans (s7.trans s8)
    have hLA := hL3.mono (.of sL)
    refine q p8 (r.take j ++ (r.drop j).take 1 ++ r.drop j) H8 ⟨_, e8, ((hLA.take j).app ((hLA.drop j).take 1)).app (hLA.drop j)⟩ (okA (okA (okT j) fun x hx => okD j x (List.mem_of_mem_take hx)) (okD j)) ?_ (kA3.trans (.of sL)) (P3.same sL)
    rw [List.length_append, List.length_append, List.length_take, List.length_take, List.length_drop]
    omega
end
end Fade

namespace Fade
open PySem PySem.Spec PyProof.Rows L2 LamX
/-! ### defs that ask that no repr is under way around them -/
structure FnG (P : Program) (w : World) (K : PySem.W.Frag) (mg : Str → Option Value) (base : Heap) (k : Nat) (f : Addr) (fd : FuncData) (ps : List Str) (sp : Sp) : Prop where
  len : ∀ vs H Q E, sp vs H Q E → vs.length = ps.length
  go : ∀ (A : Around) (outer : List Env) (s : Shared) (H : Hp) (args : Args) (us : List Value) (vs : List V) (Q : VK), Room k A → A.guards = some [] → Env0 P w K mg base A outer s H → BindsTo s fd args (ps.zip us) → Vals vs us → sp vs H Q E0 →
    codeAny (model P w) A (.call (.ref f) args) (CR CX0 outer P w H s Q E0) s
section
variable {P : Program} {w : World} {K : PySem.W.Frag} {mg : Str → Option Value} {base : Heap}
/-- such a def by its body -/
theorem fnG_of {x qual : Str} {st : Stmt} {f : Addr} {fd : FuncData} {N ps : List Str} {k : Nat} {sp : Sp} (F : Fun K x qual st f fd) (S : FnScope N ps (defScope st)) (len : ∀ vs H Q E, sp vs H Q E → vs.length = ps.length)
    (body : ∀ (cdv : Value) (A : Around) (outer : List Env) (s : Shared) (H : Hp) (vs : List V) (Q : VK), Room k (A.deeper (envOfC qual (defScope st) s.heap.objs.size f cdv)) → A.guards = some [] → sp vs H Q E0 →
      ∃ t, PSs (cxOf CX0 P w K mg base N qual (defScope st) f cdv A outer s H E0).nox (defBody st) t ∧ t { nx := fun _ H' => Q .non H', rt := Q } (L2.start N vs) H) : FnG P w K mg base (k + 1) f fd ps sp := by
  obtain ⟨oc, od, kV, doc, pm, an, cdv, ct, osl, rfl, lk, hcd⟩ := F.ex
  refine ⟨len, fun A outer s H args us vs Q hr hg e0 hb r q => ?_⟩
  refine run_ofS lk hcd S hr e0 hb r (len _ _ _ _ q) fun hr' => ?_
  obtain ⟨t, ht, h⟩ := body cdv A outer s H vs Q hr' hg q
  exact ⟨t, ht.nox, h⟩
/-- f(e, ..), f such a def -/
theorem pe_callG {X : Cx} {k : Nat} {f : Addr} {fd : FuncData} {ps : List Str} {sp : Sp} {x : Str} {p pos : Pos} {e : Expr} {es : List Expr} {t : TA} (G : FnG X.prog X.w X.K X.mg X.base k f fd ps sp) (hr : Room k X.A) (hgd : X.A.guards = some []) (hg : Gl X x) (hm : X.mg x = some (.ref f))
    (hk : PySem.W.keepIn X.K (.ref f) = true) (hb : Binds X.K fd ps []) (ha : PA X (e :: es) t) (hdb : (x == ("__debug__" : Str)) = false := by decide) (he : starEach (e :: es) X.env = (false, eval e X.env) :: starEach es X.env := by rfl)
    (hpl : (backTo pos (starEach es X.env)).any (·.1) = false := by rfl) : PE X (.Call (.Name x p) (e :: es) [] pos) (tCall sp [] E0 t) := by
  refine ⟨fun pins s σ H Q I h => wpAny_Call_Name_kw (ld_glob I hg hm (PySem.W.callWith_K (h₀ := X.base) I.ok.mod.kin hk ?_ he hpl) hdb)⟩
  refine thn (ha.run pos pins s σ H _ I h) fun us s1 ⟨vs, H1, I1, r, q⟩ => ⟨I1.kIn, ?_⟩
  have q : sp (vs ++ []) H1 Q E0 := q
  rw [List.append_nil] at q
  have hl : us.length = ps.length := r.length.symm.trans (G.len _ _ _ _ q)
  have hbind := hb s1 us I1.kIn (by rw [List.append_nil]; exact hl)
  rw [List.append_nil] at hbind
  refine wpAny_call (codeAny_mono (G.go X.A X.stack s1 H1 ⟨us, []⟩ us vs Q hr hgd I1.env0 hbind r q) fun res s2 hq => ?_)
  cases res with
  | error _ => exact (show False from hq).elim
  | ok fl =>
    cases fl with
    | ret u => exact I1.after hq
    | next => exact (show False from hq).elim
    | brk => exact (show False from hq).elim
    | cont => exact (show False from hq).elim
/-! ### the end: the law's own call, the lambda's table tracked -/
theorem law_end {fd : FuncData} {k : Nat} {fa a c Pt : Addr} {x : Str} {sp : Sp} {s₁ : Shared} {vs : List Value} {ns : List Int} {mb : Str → Option Value} (KX : K.In s₁.heap) (nsG : s₁.heap.Ns mainGlobals mg) (nsB : s₁.heap.Ns builtinsNs mb) (boot : ∀ y : Str, y ≠ "__name__" → mb y = bootBuiltins y)
    (lim : s₁.heap.NoLimit) (gens : s₁.gens = #[]) (tab : s₁.heap.get? Pt = some { cls := .none, data := .fields #[] }) (noK : K.lookup Pt = none) (code : PySem.W.CodeHd s₁.heap c Pt)
    (bmain : ∃ (bm : Addr) (ob : Obj), mg "__builtins__" = some (.ref bm) ∧ bm ≠ builtinsNs ∧ s₁.heap.get? bm = some ob ∧ ob.cls = .type "module" ∧ ob.dict = some builtinsNs ∧ ob.data = .plain)
    (atA : s₁.heap.get? a = some { cls := .type "list", data := .seq vs.toArray }) (areInts : IntsAre vs ns) (short : ns.length ≤ sizeLine) (room : Room k callerA)
    (G : ∀ base : Heap, TabB base mg c Pt → FnG P w K mg base k fa fd [x] sp) (hbind : ∀ (s : Shared) (u : Value), BindsTo s fd ⟨[u], []⟩ [(x, u)])
    (promise : ∀ H : Hp, H Pt = some (.tbl #[]) → SqL K H a (ns.map V.int) → sp [.ref a] H (fun v _ => v = .bl true) E0) :
    codeAny (model P w) callerA (.call (.ref fa) ⟨[.ref a], []⟩) (fun r s' => r = .ok (.ret (.bool true)) ∧ OldK s₁.heap s'.heap ∧ s'.os = s₁.os ∧ AllBare s'.gens) s₁ := by
  have rv := vals_ints areInts
  have nAP : a ≠ Pt := fun z => by
    rw [z, tab] at atA
    cases atA
  -- with an abstract heap that knows the table, and the script where the written part doesn't
  have main : ∀ H : Hp, H Pt = some (.tbl #[]) → SqL K H a (ns.map V.int) → HOk P w H s₁.heap → (∀ b u, H b = some u → b = Pt ∨ (b = a ∧ K.lookup a = none ∧ ∃ o ys, u = .frz o (.lst ys))) →
      codeAny (model P w) callerA (.call (.ref fa) ⟨[.ref a], []⟩) (fun r s' => r = .ok (.ret (.bool true)) ∧ OldK s₁.heap s'.heap ∧ s'.os = s₁.os ∧ AllBare s'.gens) s₁ := by
    intro H hP hS ok only
    have outside : ∀ {b : Addr} {o : Obj}, s₁.heap.get? b = some o → (∀ ys n, o.data ≠ .seq ys n) → o.data ≠ .fields #[] → (hidT s₁.heap H).get? b = some o := fun {b o} e h1 h2 => by
      refine hidT_get e ?_
      cases q : H b with
      | none => rfl
      | some u =>
        rcases only b u q with z | ⟨z, _⟩
        · rw [z, tab] at e
          cases e
          exact (h2 rfl).elim
        · rw [z, atA] at e
          cases e
          exact (h1 _ _ rfl).elim
    have space : ∀ {b : Addr} {m : Str → Option Value}, s₁.heap.Ns b m → (hidT s₁.heap H).Ns b m := fun {b m} ⟨o, es, ep, e, d, r⟩ =>
      ⟨o, es, ep, outside e (fun ys n z => by rw [d] at z; cases z) (fun z => by rw [d] at z; cases z), d, r⟩
    have hK : K.In (hidT s₁.heap H) := fun b o e => by
      refine hidT_get (KX b o e) ?_
      cases q : H b with
      | none => rfl
      | some u =>
        rcases only b u q with z | ⟨z, z2, _⟩
        · rw [z, noK] at e
          cases e
        · rw [z, z2] at e
          cases e
    have hM : L2.Mod K mg (hidT s₁.heap H) := ⟨hK, space nsG, ⟨mb, space nsB, boot⟩, let ⟨mc, h1, h2⟩ := lim; ⟨mc, space h1, h2⟩⟩
    have nGP : mainGlobals ≠ Pt := fun z => by
      obtain ⟨o, es, ep, e, hd, _⟩ := nsG
      rw [z, tab] at e
      cases e
      cases hd
    have TB : TabB (hidT s₁.heap H) mg c Pt := by
      refine ⟨?_, ?_, nGP⟩
      · obtain ⟨o, us, file, tf, flags, tg, inF, text, tt, e1, r1, r2, r3, rest⟩ := code
        refine ⟨o, us, file, tf, flags, tg, inF, text, tt, outside e1 (fun ys n z => by rw [r2] at z; cases z) (fun z => ?_), r1, r2, r3, rest⟩
        rw [r2] at z
        cases z
        simp at r3
      · obtain ⟨bm, ob, b1, b2, b3, b4, b5, b6⟩ := bmain
        refine ⟨bm, ob, b1, b2, fun z => ?_, fun z => ?_, outside b3 (fun ys n z => by rw [b6] at z; cases z) (fun z => by rw [b6] at z; cases z), b4, b5, b6⟩
        · obtain ⟨o, es, ep, e, hd, _⟩ := nsG
          rw [z, e] at b3
          cases b3
          rw [hd] at b6
          cases b6
        · rw [z, tab] at b3
          cases b3
          cases b6
    have e0 : Env0 P w K mg (hidT s₁.heap H) callerA [] s₁ H := ⟨rfl, hM, fun b o e => of_hidT e, Nat.le_of_eq (hidT_size _ _), trivial, (fun b hb => absurd (show b ∈ ([] : List Addr) from hb) List.not_mem_nil), ok, AllBare.of_eq gens⟩
    refine codeAny_mono ((G _ TB).go callerA [] s₁ H ⟨[.ref a], []⟩ [.ref a] [.ref a] _ room rfl e0 (hbind s₁ (.ref a)) (.cons rfl .nil) (promise H hP hS)) fun r s' h => ?_
    cases r with
    | error e => exact (show False from h).elim
    | ok fl =>
      cases fl with
      | next => exact (show False from h).elim
      | brk => exact (show False from h).elim
      | cont => exact (show False from h).elim
      | ret u =>
        obtain ⟨v, H', os, bare, un, ok', r', q⟩ := h
        obtain rfl : v = .bl true := q
        obtain rfl : u = Value.bool true := r'
        have stay : ∀ b o, b ≠ Pt → s₁.heap.get? b = some o → s'.heap.get? b = some o := fun b o nb e => by
          cases q : H b with
          | none => exact un.keep b o e q (fun z => absurd (show b ∈ ([] : List Addr) from z) List.not_mem_nil) (fun z => absurd z List.not_mem_nil)
          | some u =>
            rcases only b u q with z | ⟨_, _, ob, ys, rfl⟩
            · exact absurd z nb
            · have e1 : s₁.heap.get? b = some ob := (ok b _ q).1
              have e2 : s'.heap.get? b = some ob := (ok' b _ (un.frzs b ob _ q)).1
              rw [e] at e1
              cases e1
              exact e2
        obtain ⟨more, z⟩ := un.tbls Pt #[] hP
        have grown : s'.heap.get? Pt = some { cls := .none, data := .fields (#[] ++ more) } := ok' Pt _ z
        refine ⟨rfl, ⟨fun b o e => ?_, fun b o e => ?_⟩, os, bare⟩
        · by_cases hb : b = Pt
          · subst hb
            rw [tab] at e
            cases e
            exact .inr (.inl ⟨(code.tab tab).isCodeTable, rfl, #[], more, rfl, grown⟩)
          · exact .inl (stay b o hb e)
        · by_cases hb : b = Pt
          · subst hb
            exact ⟨_, grown⟩
          · exact ⟨o, stay b o hb e⟩
  have lenV := areInts.length
  have okT : ∀ H : Hp, ObjOk P w H s₁.heap Pt (.tbl #[]) := fun H => tab
  cases hk : K.lookup a with
  | some o =>
    have e := KX a o hk
    rw [atA] at e
    cases e
    refine main (fun b => if b = Pt then some (.tbl #[]) else none) (if_pos rfl) (.inr ⟨_, vs.toArray, _, hk, rfl, rfl, rfl, by rw [List.size_toArray, lenV]; exact short, by simpa using rv⟩) (fun b u z => ?_) (fun b u z => ?_)
    · by_cases hb : b = Pt
      · subst hb
        obtain rfl := Option.some.inj ((if_pos rfl).symm.trans z)
        exact tab
      · have := (if_neg hb).symm.trans z
        cases this
    · by_cases hb : b = Pt
      · exact .inl hb
      · have := (if_neg hb).symm.trans z
        cases this
  | none =>
    refine main (fun b => if b = Pt then some (.tbl #[]) else if b = a then some (.frz { cls := .type "list", data := .seq vs.toArray } (.lst (ns.map V.int))) else none) (if_pos rfl)
      (.inl (.inr ⟨{ cls := .type "list", data := .seq vs.toArray }, (if_neg nAP).trans (if_pos rfl)⟩)) (fun b u z => ?_) (fun b u z => ?_)
    · by_cases hb : b = Pt
      · subst hb
        obtain rfl := Option.some.inj ((if_pos rfl).symm.trans z)
        exact tab
      · have z := (if_neg hb).symm.trans z
        by_cases hb2 : b = a
        · subst hb2
          obtain rfl := Option.some.inj ((if_pos rfl).symm.trans z)
          exact ⟨atA, by rw [List.length_map]; exact short, vs, _, rv, atA⟩
        · have := (if_neg hb2).symm.trans z
          cases this
    · by_cases hb : b = Pt
      · exact .inl hb
      · have z := (if_neg hb).symm.trans z
        by_cases hb2 : b = a
        · obtain rfl := Option.some.inj ((if_pos hb2).symm.trans z)
          exact .inr ⟨hb2, hk, _, _, rfl⟩
        · have := (if_neg hb2).symm.trans z
          cases this
end
end Fade

namespace Fade
open PySem PySem.Spec PyProof.Rows L2 LamX
theorem bools_shown3 (b : Bool) : (PyData.list [.bool b, .bool b, .bool b]).shown.length ≤ sizeLine := by
  cases b <;> decide +kernel
theorem bools_shown2 (b : Bool) : (PyData.list [.bool b, .bool b]).shown.length ≤ sizeLine := by
  cases b <;> decide +kernel
theorem ExtN.same2 {H H1 H2 : Hp} (a : ExtN H H1) (s : Same H1 H2) : ExtN H H2 := a.trans (ExtN.same s)
section
variable {P : Program} {w : World} {K : PySem.W.Frag} {mg : Str → Option Value} {base : Heap} {T : List (Addr × Str)}
/-! ### _law_right -/
def spRight (T : List (Addr × Str)) : Sp := fun vs H Q _ => ∃ (a b : Addr) (r t : Rw), vs = [.ref a, .ref b] ∧ RowAt H a r ∧ RowAt H b t ∧ RowOk r ∧ RowOk t ∧ r.length ≤ 6 ∧ t.length ≤ 6 ∧ Tabs T H ∧
  ∀ H', ExtN H H' → Tabs T H' → Q (.bl true) H'
theorem ok_right {f fA fL : Addr} {fd fdA fdL : FuncData} (F : Fun K "_law_right" "_law_right" tS16 f fd) (FA : Fun K "_law_all_alike" "_law_all_alike" tS13 fA fdA) (bA : Binds K fdA ["_law_row_here"] []) (gA : mg "_law_all_alike" = some (.ref fA))
    (GA : FnOk P w K mg base CX0 2 fA fdA ["_law_row_here"] (spAll P w)) (FL : Fun K "alike" "alike" tS3 fL fdL) (bL : Binds K fdL ["one", "other"] []) (gL : mg "alike" = some (.ref fL))
    (GL : FnOk P w K mg base CX0 3 fL fdL ["one", "other"] (spAlike T)) (mr : mg "repr" = none) : FnG P w K mg base 4 f fd ["_law_one", "_law_other"] (spRight T) := by
  refine fnG_of F scS16 (fun vs H Q E h => ?_) (fun cdv A outer s H vs Q hr hgd h => ?_)
  · obtain ⟨a, b, r, t, rfl, _⟩ := h
    rfl
  · obtain ⟨a, b, r, t, rfl, hR, hU, ho, hp, lr, lt, hT, q⟩ := h
    have hu := hr.units
    have hr2 : Room 2 (A.deeper (envOfC "_law_right" (defScope tS16) s.heap.objs.size f cdv)) := hr.mono (by decide)
    refine ⟨_, pss_cons (ps_set (i := 2) scS16.nd rfl (.inl rfl) (pe_cmpR (op_rowIn hu) (pv 1) (pe_call GA hr2 (by rfl) gA FA.kp bA .nil pass0 (pa_cons (pv 0) pa_nil)) (by rfl)))
      (pss_cons (ps_set (i := 3) scS16.nd rfl (.inl rfl) (pe_callB (call_reprD hgd hu) (by rfl) mr (by decide +kernel) (pa_cons (pe_lst (pa_cons (pv 0) (pa_cons (pv 1) pa_nil))) pa_nil)))
      (pss_cons (ps_set (i := 4) scS16.nd rfl (.inl rfl) (pe_lst (pa_cons (pe_call GL hr (by rfl) gL FL.kp bL .nil pass0 (pa_cons (pv 0) (pa_cons (pv 1) pa_nil)))
        (pa_cons (pe_call GL hr (by rfl) gL FL.kp bL .nil pass0 (pa_cons (pv 1) (pa_cons (pv 0) pa_nil))) (pa_cons (pe_call GL hr (by rfl) gL FL.kp bL .nil pass0 (pa_cons (pv 0) (pa_cons (pv 1) pa_nil))) pa_nil)))))
      (pss_cons (ps_if (PW.pt (pw_or (pt_cmpR op_ne (pe_callB (call_reprD hgd hu) (by rfl) mr (by decide +kernel) (pa_cons (pv 4) pa_nil)) (pe_callB (call_reprD hgd hu) (by rfl) mr (by decide +kernel) (pa_cons (pe_op op_rep (pe_lst (pa_cons (pv 2) pa_nil)) pe_int) pa_nil)) (nomark _))
          (pw_or1 (pt_cmpR op_ne (pe_callB (call_reprD hgd hu) (by rfl) mr (by decide +kernel) (pa_cons (pe_lst (pa_cons (pv 0) (pa_cons (pv 1) pa_nil))) pa_nil)) (pv 3) (nomark _)))))
        (pss_one (ps_ret pe_bl)) pss_nil)
      (pss_one (ps_ret (pe_cmpR op_isBl (pe_call GL hr (by rfl) gL FL.kp bL .nil pass0 (pa_cons (pv 0) (pa_cons (pv 0) pa_nil))) pe_bl (nomark _))))))), ?_⟩
    -- other in all_alike(one)
    refine ⟨.ref b, rfl, .ref a, rfl, a, r, rfl, hR, ho, lr, fun d kas H1 s1 D1 hk => ⟨b, d, t, kas, rfl, rfl, hU.mono (.of s1), D1, ?_⟩⟩
    have eb : (false ^^ decide (t ∈ kas.map (·.1))) = decide (norm r = norm t) := by
      rw [Bool.false_xor]
      exact decide_eq_decide.mpr ((hk t).trans reach_iff)
    rw [eb]
    have T1 : Tabs T H1 := Same.tabs s1 hT
    -- repr([one, other])
    refine ⟨.ref a, rfl, .ref b, rfl, by show 2 ≤ sizeLine; decide, fun l1 nl1 => ?_⟩
    have s2 : Same H1 (upd H1 l1 (.lst [V.ref a, V.ref b])) := same_new nl1
    have pairDp : ∀ {H' : Hp} {l : Addr}, H' l = some (.lst [V.ref a, V.ref b]) → RowAt H' a r → RowAt H' b t → Dp K H' (.ref l) (dataP r t) := fun e x y => .lst (SqL.of e) (.cons x.dp (.cons y.dp .nil))
    have showP : (dataP r t).showable = true := by
      unfold dataP
      rw [PyData.showable, PyData.showableAll, PyData.showableAll, PyData.showableAll, showable_row ho, showable_row hp]
      rfl
    have dictP : (dataP r t).hasDict = false := by
      unfold dataP dataR
      simp only [PyData.hasDict, PyData.hasDictAll, noDict_lays, Bool.or_false]
    have depthP : (dataP r t).depth ≤ 10 := by
      unfold dataP
      rw [PyData.depth, PyData.depthAll, PyData.depthAll, PyData.depthAll]
      have := depth_row r
      have := depth_row t
      omega
    have lenP := shown_pair ho hp (by omega) (by omega)
    have R2 := (hR.mono (.of s1)).mono (.of s2)
    have U2 := (hU.mono (.of s1)).mono (.of s2)
    refine ⟨l1, dataP r t, rfl, pairDp upd_same R2 U2, showP, dictP, depthP, lenP, ?_⟩
    generalize upd H1 l1 (.lst [V.ref a, V.ref b]) = H2 at *
    have e2 : ExtN H H2 := ExtN.same (s1.trans s2)
    have T2 : Tabs T H2 := Same.tabs s2 T1
    -- told
    refine ⟨.ref a, rfl, .ref b, rfl, a, b, r, t, rfl, R2, U2, ho, hp, by omega, by omega, T2, fun H3 e3 T3 => ?_⟩
    have R3 := R2.mono (.ext e3)
    have U3 := U2.mono (.ext e3)
    refine ⟨.ref b, rfl, .ref a, rfl, b, a, t, r, rfl, U3, R3, hp, ho, by omega, by omega, T3, fun H4 e4 T4 => ?_⟩
    have R4 := R3.mono (.ext e4)
    have U4 := U3.mono (.ext e4)
    refine ⟨.ref a, rfl, .ref b, rfl, a, b, r, t, rfl, R4, U4, ho, hp, by omega, by omega, T4, fun H5 e5 T5 => ?_⟩
    have R5 := R4.mono (.ext e5)
    have U5 := U4.mono (.ext e5)
    have esym : decide (norm t = norm r) = decide (norm r = norm t) := decide_eq_decide.mpr ⟨fun z => z.symm, fun z => z.symm⟩
    rw [esym]
    generalize decide (norm r = norm t) = so
    refine ⟨by show 3 ≤ sizeLine; decide, fun l2 nl2 => ?_⟩
    have s6 : Same H5 (upd H5 l2 (.lst [V.bl so, V.bl so, V.bl so])) := same_new nl2
    have el2 : (upd H5 l2 (.lst [V.bl so, V.bl so, V.bl so])) l2 = some (.lst [V.bl so, V.bl so, V.bl so]) := upd_same
    generalize upd H5 l2 (.lst [V.bl so, V.bl so, V.bl so]) = H6 at *
    have three : ∀ {H' : Hp} {l : Addr}, H' l = some (.lst [V.bl so, V.bl so, V.bl so]) → Dp K H' (.ref l) (.list [.bool so, .bool so, .bool so]) := fun e => .lst (SqL.of e) (.cons (.bl _) (.cons (.bl _) (.cons (.bl _) .nil)))
    -- repr(told) != repr([is_so] * 3)
    refine ⟨.ref l2, rfl, l2, _, rfl, three el2, rfl, rfl, (by simp [PyData.depth, PyData.depthAll]), bools_shown3 so, ?_⟩
    refine ⟨.bl so, rfl, by show 1 ≤ sizeLine; decide, fun l3 nl3 => ?_⟩
    have s7 : Same H6 (upd H6 l3 (.lst [V.bl so])) := same_new nl3
    refine ⟨l3, 3, [V.bl so], rfl, rfl, upd_same, by decide, by decide, (by show 1 * 3 ≤ sizeLine; decide), fun l4 nl4 => ?_⟩
    have s8 : Same (upd H6 l3 (.lst [V.bl so])) (upd (upd H6 l3 (.lst [V.bl so])) l4 (.lst (List.replicate (3 : Int).toNat [V.bl so]).flatten)) := same_new nl4
    have el4 : (upd (upd H6 l3 (.lst [V.bl so])) l4 (.lst (List.replicate (3 : Int).toNat [V.bl so]).flatten)) l4 = some (.lst [V.bl so, V.bl so, V.bl so]) := upd_same
    generalize upd (upd H6 l3 (.lst [V.bl so])) l4 (.lst (List.replicate (3 : Int).toNat [V.bl so]).flatten) = H8 at *
    refine ⟨l4, _, rfl, three el4, rfl, rfl, (by simp [PyData.depth, PyData.depthAll]), bools_shown3 so, ?_⟩
    refine ⟨rfl, _, rfl, ?_⟩
    rw [decide_eq_true rfl]
    refine iteF ?_
    -- repr([one, other]) != held
    have s58 : Same H5 H8 := s6.trans (s7.trans s8)
    refine ⟨.ref a, rfl, .ref b, rfl, by show 2 ≤ sizeLine; decide, fun l5 nl5 => ?_⟩
    have s9 : Same H8 (upd H8 l5 (.lst [V.ref a, V.ref b])) := same_new nl5
    have el5 : (upd H8 l5 (.lst [V.ref a, V.ref b])) l5 = some (.lst [V.ref a, V.ref b]) := upd_same
    generalize upd H8 l5 (.lst [V.ref a, V.ref b]) = H9 at *
    have s59 : Same H5 H9 := s58.trans s9
    have R9 := R5.mono (.of s59)
    have U9 := U5.mono (.of s59)
    refine ⟨l5, dataP r t, rfl, pairDp el5 R9 U9, showP, dictP, depthP, lenP, .str (dataP r t).shown, rfl, rfl, _, rfl, ?_⟩
    rw [decide_eq_true rfl]
    refine iteF ?_
    -- alike(one, one) is True
    refine ⟨.ref a, rfl, .ref a, rfl, a, a, r, r, rfl, R9, R9, ho, ho, by omega, by omega, Same.tabs s59 T5, fun H10 e10 T10 => ?_⟩
    refine ⟨_, true, rfl, rfl, ?_⟩
    rw [decide_eq_true rfl, decide_eq_true rfl]
    exact q H10 ((((e2.trans e3).trans e4).trans e5).trans ((ExtN.same s59).trans e10)) T10
/-! ### _law_long_right -/
def ExtP (p : Addr) (H H' : Hp) : Prop := ExtB p H H'
def spLong (T : List (Addr × Str)) : Sp := fun vs H Q _ => ∃ (p l : Addr) (zs : List Str), vs = [.ref p, .ref l] ∧ Pot H p ∧ TagsAt H l zs ∧ Tabs T H ∧ ∀ H', ExtB p H H' → Tabs T H' → Q (.bl true) H'
theorem But.extB {p : Addr} {H H' : Hp} (b : But p H H') : ExtB p H H' := fun c o n h _ => b c o n h
theorem ok_long {f fR fC fM fS fL : Addr} {fd fdR fdC fdM fdS fdL : FuncData} (F : Fun K "_law_long_right" "_law_long_right" tS19 f fd)
    (FR : Fun K "_law_row" "_law_row" tS11 fR fdR) (bR : Binds K fdR ["_law_pot_here", "_law_tags", "_law_most"] []) (gR : mg "_law_row" = some (.ref fR)) (GR : FnOk P w K mg base CX0 3 fR fdR ["_law_pot_here", "_law_tags", "_law_most"] spRow)
    (FC : Fun K "_law_changed" "_law_changed" tS15 fC fdC) (bC : Binds K fdC ["_law_pot_here", "_law_row_here", "_law_tags"] []) (gC : mg "_law_changed" = some (.ref fC)) (GC : FnOk P w K mg base CX0 2 fC fdC ["_law_pot_here", "_law_row_here", "_law_tags"] spChanged)
    (FM : Fun K "_law_moved" "_law_moved" tS14 fM fdM) (bM : Binds K fdM ["_law_pot_here", "_law_row_here"] []) (gM : mg "_law_moved" = some (.ref fM)) (GM : FnOk P w K mg base CX0 2 fM fdM ["_law_pot_here", "_law_row_here"] spMoved)
    (FS : Fun K "_law_settled" "_law_settled" tS18 fS fdS) (bS : Binds K fdS ["_law_row_here"] []) (gS : mg "_law_settled" = some (.ref fS)) (GS : FnOk P w K mg base CX0 3 fS fdS ["_law_row_here"] spSettled)
    (FL : Fun K "alike" "alike" tS3 fL fdL) (bL : Binds K fdL ["one", "other"] []) (gL : mg "alike" = some (.ref fL)) (GL : FnOk P w K mg base CX0 3 fL fdL ["one", "other"] (spAlike T)) (mr : mg "repr" = none) :
    FnG P w K mg base 4 f fd ["_law_pot_here", "_law_tags"] (spLong T) := by
  refine fnG_of F scS19 (fun vs H Q E h => ?_) (fun cdv A outer s H vs Q hr hgd h => ?_)
  · obtain ⟨p, l, zs, rfl, _⟩ := h
    rfl
  · obtain ⟨p, l, zs, rfl, hP, hG, hT, q⟩ := h
    have hu := hr.units
    have hr2 : Room 2 (A.deeper (envOfC "_law_long_right" (defScope tS19) s.heap.objs.size f cdv)) := hr.mono (by decide)
    refine ⟨_, pss_cons (ps_set (i := 2) scS19.nd rfl (.inl rfl) (pe_call GR hr (by rfl) gR FR.kp bR .nil pass0 (pa_cons (pv 0) (pa_cons (pv 1) (pa_cons pe_int pa_nil)))))
      (pss_cons (ps_set (i := 3) scS19.nd rfl (.inl rfl) (pe_call GC hr2 (by rfl) gC FC.kp bC .nil pass0 (pa_cons (pv 0) (pa_cons (pe_call GM hr2 (by rfl) gM FM.kp bM .nil pass0 (pa_cons (pv 0) (pa_cons (pv 2) pa_nil))) (pa_cons (pv 1) pa_nil)))))
      (pss_cons (ps_set (i := 4) scS19.nd rfl (.inl rfl) (pe_cmpR (op_eqD hu) (pe_call GS hr (by rfl) gS FS.kp bS .nil pass0 (pa_cons (pv 2) pa_nil)) (pe_call GS hr (by rfl) gS FS.kp bS .nil pass0 (pa_cons (pv 3) pa_nil)) (nomark _)))
      (pss_one (ps_ret (pe_cmpR op_eq (pe_callB (call_reprD hgd hu) (by rfl) mr (by decide +kernel) (pa_cons (pe_lst (pa_cons (pe_call GL hr (by rfl) gL FL.kp bL .nil pass0 (pa_cons (pv 2) (pa_cons (pv 3) pa_nil))) (pa_cons (pe_call GL hr (by rfl) gL FL.kp bL .nil pass0 (pa_cons (pv 3) (pa_cons (pv 2) pa_nil))) pa_nil))) pa_nil))
        (pe_callB (call_reprD hgd hu) (by rfl) mr (by decide +kernel) (pa_cons (pe_lst (pa_cons (pv 4) (pa_cons (pv 4) pa_nil))) pa_nil)) (nomark _)))))), ?_⟩
    -- row
    refine ⟨.ref p, rfl, .ref l, rfl, p, l, zs, 14, rfl, hP, hG, by decide, by decide, fun a r H1 hR hlow hlen k1 P1 => ?_⟩
    have G1 := hG.but hP k1
    -- other = changed(pot, moved(pot, row), tags)
    refine ⟨.ref p, rfl, .ref p, rfl, .ref a, rfl, p, a, r, rfl, P1, hR, by omega, fun b t H2 hB ht el k2 P2 => ?_⟩
    have G2 := G1.but P1 k2
    have tlow : RowLow t := fun x hx => hlow x (ht x hx)
    refine ⟨.ref l, rfl, p, b, l, t, zs, rfl, P2, hB, tlow, by omega, G2, fun c u H3 hC hok lu k3 P3 => ?_⟩
    have R3 : RowAt H3 a r := (hR.mono (P1.tups k2)).mono (P2.tups k3)
    have lr : r.length ≤ 100 := by omega
    have lu2 : u.length ≤ 100 := by omega
    have kA : But p H H3 := (k1.trans k2).trans k3
    have T3 : Tabs T H3 := hP.tabs kA hT
    -- is_so
    refine ⟨.ref a, rfl, a, r, rfl, R3, by omega, fun pa H4 s4 hA => ?_⟩
    refine ⟨.ref c, rfl, c, u, rfl, hC.mono (.of s4), by omega, fun pb H5 s5 hBn => ?_⟩
    refine ⟨dataR (norm r), dataR (norm u), (hA.mono (.of s5)).dp, hBn.dp, shaped_row (rowOk_reach hlow.ok (reach_norm r)), shaped_row (rowOk_reach hok (reach_norm u)), ?_⟩
    rw [eqv_row]
    have s35 : Same H3 H5 := s4.trans s5
    have R5 := R3.mono (.of s35)
    have C5 := hC.mono (.of s35)
    have T5 : Tabs T H5 := Same.tabs s35 T3
    -- the two answers
    refine ⟨.ref a, rfl, .ref c, rfl, a, c, r, u, rfl, R5, C5, hlow.ok, hok, by omega, by omega, T5, fun H6 e6 T6 => ?_⟩
    refine ⟨.ref c, rfl, .ref a, rfl, c, a, u, r, rfl, C5.mono (.ext e6), R5.mono (.ext e6), hok, hlow.ok, by omega, by omega, T6, fun H7 e7 T7 => ?_⟩
    have esym : decide (norm u = norm r) = decide (norm r = norm u) := decide_eq_decide.mpr ⟨fun z => z.symm, fun z => z.symm⟩
    rw [esym]
    generalize decide (norm r = norm u) = so
    have two : ∀ {H' : Hp} {l : Addr}, H' l = some (.lst [V.bl so, V.bl so]) → Dp K H' (.ref l) (.list [.bool so, .bool so]) := fun e => .lst (SqL.of e) (.cons (.bl _) (.cons (.bl _) .nil))
    refine ⟨by show 2 ≤ sizeLine; decide, fun l1 nl1 => ⟨l1, _, rfl, two upd_same, rfl, rfl, (by simp [PyData.depth, PyData.depthAll]), bools_shown2 so, ?_⟩⟩
    refine ⟨.bl so, rfl, .bl so, rfl, by show 2 ≤ sizeLine; decide, fun l2 nl2 => ⟨l2, _, rfl, two upd_same, rfl, rfl, (by simp [PyData.depth, PyData.depthAll]), bools_shown2 so, ?_⟩⟩
    refine ⟨rfl, ?_⟩
    rw [decide_eq_true rfl]
    have sF := (same_new (o := .lst [V.bl so, V.bl so]) nl1).trans (same_new (o := .lst [V.bl so, V.bl so]) nl2)
    refine q _ ((But.extB kA).trans (.ext ((ExtN.same s35).trans ((e6.trans e7).trans (ExtN.same sF))))) (Same.tabs sF T7)
end
end Fade

namespace Fade
open PySem PySem.Spec PyProof.Rows L2 LamX
theorem script_stays {K : PySem.W.Frag} {H H' : Hp} {a p : Addr} {xs : List V} (h : SqL K H a xs) (k : ExtB p H H') (n : H p = none) : SqL K H' a xs := by
  rcases h with (h | ⟨o, h⟩) | h
  · exact .inl (.inl (k _ _ (ne_of_none h n) h fun ps z => by cases z))
  · exact .inl (.inr ⟨o, k _ _ (ne_of_none h n) h fun ps z => by cases z⟩)
  · exact .inr h
theorem Pot.ext {p : Addr} {H H' : Hp} (h : Pot H p) (e : ExtN H H') : Pot H' p :=
  let ⟨x, y, q, r⟩ := h; ⟨x, y, e _ _ q (fun ps z => by cases z), r⟩
theorem TagsAt.ext {H H' : Hp} {l : Addr} {zs : List Str} (h : TagsAt H l zs) (e : ExtN H H') : TagsAt H' l zs := ⟨e _ _ h.1 (fun ps z => by cases z), h.2⟩
section
variable {P : Program} {w : World} {K : PySem.W.Frag} {mg : Str → Option Value} {base : Heap} {T : List (Addr × Str)}
def spLaw (K : PySem.W.Frag) (T : List (Addr × Str)) : Sp := fun vs H Q _ => ∃ (a : Addr) (ns : List Int), vs = [.ref a] ∧ SqL K H a (ns.map V.int) ∧ ns.length ≤ 63 ∧ Tabs T H ∧ ∀ H', Q (.bl true) H'
theorem ok_law {f fCe fPo fT fNa fR fC fM fRi fLo : Addr} {fd fdCe fdPo fdT fdNa fdR fdC fdM fdRi fdLo : FuncData} (F : Fun K "law" "law" tS20 f fd)
    (FCe : Fun K "_law_cell" "_law_cell" tS5 fCe fdCe) (bCe : Binds K fdCe ["_law_script", "_law_k"] []) (gCe : mg "_law_cell" = some (.ref fCe)) (GCe : FnOk P w K mg base CX0 1 fCe fdCe ["_law_script", "_law_k"] (spCell K))
    (FPo : Fun K "_law_pot" "_law_pot" tS6 fPo fdPo) (bPo : Binds K fdPo ["_law_cell_here", "_law_k"] []) (gPo : mg "_law_pot" = some (.ref fPo)) (GPo : FnOk P w K mg base CX0 1 fPo fdPo ["_law_cell_here", "_law_k"] spPot)
    (FT : Fun K "_law_take" "_law_take" tS7 fT fdT) (bT : Binds K fdT ["_law_pot_here", "_law_many"] []) (gT : mg "_law_take" = some (.ref fT)) (GT : FnOk P w K mg base CX0 1 fT fdT ["_law_pot_here", "_law_many"] spTake)
    (FNa : Fun K "_law_names" "_law_names" tS9 fNa fdNa) (bNa : Binds K fdNa ["_law_pot_here", "_law_many"] []) (gNa : mg "_law_names" = some (.ref fNa)) (GNa : FnOk P w K mg base CX0 3 fNa fdNa ["_law_pot_here", "_law_many"] spNames)
    (FR : Fun K "_law_row" "_law_row" tS11 fR fdR) (bR : Binds K fdR ["_law_pot_here", "_law_tags", "_law_most"] []) (gR : mg "_law_row" = some (.ref fR)) (GR : FnOk P w K mg base CX0 3 fR fdR ["_law_pot_here", "_law_tags", "_law_most"] spRow)
    (FC : Fun K "_law_changed" "_law_changed" tS15 fC fdC) (bC : Binds K fdC ["_law_pot_here", "_law_row_here", "_law_tags"] []) (gC : mg "_law_changed" = some (.ref fC)) (GC : FnOk P w K mg base CX0 2 fC fdC ["_law_pot_here", "_law_row_here", "_law_tags"] spChanged)
    (FM : Fun K "_law_moved" "_law_moved" tS14 fM fdM) (bM : Binds K fdM ["_law_pot_here", "_law_row_here"] []) (gM : mg "_law_moved" = some (.ref fM)) (GM : FnOk P w K mg base CX0 2 fM fdM ["_law_pot_here", "_law_row_here"] spMoved)
    (FRi : Fun K "_law_right" "_law_right" tS16 fRi fdRi) (bRi : Binds K fdRi ["_law_one", "_law_other"] []) (gRi : mg "_law_right" = some (.ref fRi)) (GRi : FnG P w K mg base 4 fRi fdRi ["_law_one", "_law_other"] (spRight T))
    (FLo : Fun K "_law_long_right" "_law_long_right" tS19 fLo fdLo) (bLo : Binds K fdLo ["_law_pot_here", "_law_tags"] []) (gLo : mg "_law_long_right" = some (.ref fLo)) (GLo : FnG P w K mg base 4 fLo fdLo ["_law_pot_here", "_law_tags"] (spLong T))
    (mr : mg "range" = none) (mx : mg "max" = none) (mi : mg "min" = none) (ml : mg "len" = none) : FnG P w K mg base 5 f fd ["_law_script"] (spLaw K T) := by
  refine fnG_of F scS20 (fun vs H Q E h => ?_) (fun cdv A outer s H vs Q hr hgd h => ?_)
  · obtain ⟨a, ns, rfl, _⟩ := h
    rfl
  · obtain ⟨a, ns, rfl, hS, hlen, hT, q⟩ := h
    have hr1 : Room 1 (A.deeper (envOfC "law" (defScope tS20) s.heap.objs.size f cdv)) := hr.mono (by decide)
    have hr2 : Room 2 (A.deeper (envOfC "law" (defScope tS20) s.heap.objs.size f cdv)) := hr.mono (by decide)
    have hr3 : Room 3 (A.deeper (envOfC "law" (defScope tS20) s.heap.objs.size f cdv)) := hr.mono (by decide)
    refine ⟨_, pss_cons (ps_for PassesOwn.never rfl (pi_range1 (by rfl) mr (pa_cons (pe_callB (call_max2 rfl) (by rfl) mx (by decide +kernel) (pa_cons pe_int (pa_cons (pe_callB (call_min2 rfl) (by rfl) mi (by decide +kernel) (pa_cons pe_int (pa_cons (pe_callB call_len_seq (by rfl) ml PySem.boot_len (pa_cons (pv 0) pa_nil)) pa_nil))) pa_nil))) pa_nil)) (pg_name (i := 1) scS20.nd rfl (.inl rfl))
        (pss_cons (ps_set (i := 2) scS20.nd rfl (.inl rfl) (pe_call GPo hr1 (by rfl) gPo FPo.kp bPo .nil pass0 (pa_cons (pe_call GCe hr1 (by rfl) gCe FCe.kp bCe .nil pass0 (pa_cons (pv 0) (pa_cons (pv 1) pa_nil))) (pa_cons (pv 1) pa_nil))))
        (pss_cons (ps_set (i := 3) scS20.nd rfl (.inl rfl) (pe_call GNa hr3 (by rfl) gNa FNa.kp bNa .nil pass0 (pa_cons (pv 2) (pa_cons (pe_op op_add pe_int (pe_call GT hr1 (by rfl) gT FT.kp bT .nil pass0 (pa_cons (pv 2) (pa_cons pe_int pa_nil)))) pa_nil))))
        (pss_cons (ps_set (i := 4) scS20.nd rfl (.inl rfl) (pe_call GR hr3 (by rfl) gR FR.kp bR .nil pass0 (pa_cons (pv 2) (pa_cons (pv 3) (pa_cons pe_int pa_nil)))))
        (pss_cons (ps_set (i := 5) scS20.nd rfl (.inl rfl) (pe_call GC hr2 (by rfl) gC FC.kp bC .nil pass0 (pa_cons (pv 2) (pa_cons (pe_call GM hr2 (by rfl) gM FM.kp bM .nil pass0 (pa_cons (pv 2) (pa_cons (pv 4) pa_nil))) (pa_cons (pv 3) pa_nil)))))
        (pss_cons (ps_if (PW.pt (pw_or (pt_not (pt_val (pe_callG GRi hr hgd (by rfl) gRi FRi.kp bRi (pa_cons (pv 4) (pa_cons (pv 5) pa_nil))))) (pw_or1 (pt_not (pt_val (pe_callG GRi hr hgd (by rfl) gRi FRi.kp bRi (pa_cons (pv 5) (pa_cons (pv 4) pa_nil))))))))
          (pss_one (ps_ret pe_bl)) pss_nil)
        (pss_one (ps_if (PW.pt (pw_or (pt_not (pt_val (pe_callG GRi hr hgd (by rfl) gRi FRi.kp bRi (pa_cons (pv 4) (pa_cons (pe_call GR hr3 (by rfl) gR FR.kp bR .nil pass0 (pa_cons (pv 2) (pa_cons (pv 3) (pa_cons pe_int pa_nil)))) pa_nil)))))
            (pw_or1 (pt_not (pt_val (pe_callG GLo hr hgd (by rfl) gLo FLo.kp bLo (pa_cons (pv 2) (pa_cons (pv 3) pa_nil)))))))) (pss_one (ps_ret pe_bl)) pss_nil))))))))
      (pss_one (ps_ret pe_bl)), ?_⟩
    refine ⟨.ref a, rfl, a, ns.map V.int, rfl, .inl hS, 6, _, rfl, 1, _, rfl, ?_⟩
    generalize eN : (if (if ((ns.map V.int).length : Int) < 6 then ((ns.map V.int).length : Int) else 6) > 1 then (if ((ns.map V.int).length : Int) < 6 then ((ns.map V.int).length : Int) else 6) else 1) = N
    have hN : 0 ≤ N ∧ N ≤ 6 := by
      rw [← eN]
      constructor
      · split <;> split <;> omega
      · split <;> split <;> omega
    refine ⟨N, rfl, by omega, by omega, ?_⟩
    refine for_range (lo := 0) (n := N.toNat) (fun i σ H1 => ∃ y1 y2 y3 y4 y5, σ = [some (.ref a), y1, y2, y3, y4, y5] ∧ SqL K H1 a (ns.map V.int) ∧ Tabs T H1) ⟨none, none, none, none, none, rfl, hS, hT⟩ (fun i σ H1 hi hW => ?_) (fun σ H1 hW => q H1)
    obtain ⟨y1, y2, y3, y4, y5, rfl, hS1, T1⟩ := hW
    -- pot
    refine ⟨.ref a, rfl, .int (0 + i), rfl, a, ns, 0 + i, rfl, hS1, hlen, by omega, fun c => ⟨.int (0 + i), rfl, c, 0 + i, rfl, by omega, by omega, fun p H2 np s2 P2 => ?_⟩⟩
    have k2 : ExtB p H1 H2 := .ext (ExtN.same s2)
    have T2 : Tabs T H2 := Same.tabs s2 T1
    -- tags
    refine ⟨.ref p, rfl, .ref p, rfl, p, 3, rfl, P2, by decide, by decide, fun d H3 d0 d1 k3 P3 => ⟨1, d, rfl, rfl, p, 1 + d, rfl, P3, by omega, by omega, fun l zs H4 nl el n1 n3 hz k4 P4 => ?_⟩⟩
    have G4 : TagsAt H4 l zs := ⟨el, n1, n3, hz⟩
    have T4 : Tabs T H4 := P3.tabs k4 (P2.tabs k3 T2)
    -- row
    refine ⟨.ref p, rfl, .ref l, rfl, p, l, zs, 5, rfl, P4, G4, by decide, by decide, fun ra r H5 hR hlow lr k5 P5 => ?_⟩
    have G5 := G4.but P4 k5
    -- other
    refine ⟨.ref p, rfl, .ref p, rfl, .ref ra, rfl, p, ra, r, rfl, P5, hR, by omega, fun b t H6 hB ht et k6 P6 => ?_⟩
    have G6 := G5.but P5 k6
    refine ⟨.ref l, rfl, p, b, l, t, zs, rfl, P6, hB, (fun x hx => hlow x (ht x hx)), by omega, G6, fun oa o H7 hO hok lo k7 P7 => ?_⟩
    have G7 := G6.but P6 k7
    have R7 : RowAt H7 ra r := (hR.mono (P5.tups k6)).mono (P6.tups k7)
    have T7 : Tabs T H7 := P6.tabs k7 (P5.tabs k6 (P4.tabs k5 T4))
    have k17 : ExtB p H1 H7 := k2.trans (But.extB (((k3.trans k4).trans (k5.trans k6)).trans k7))
    have lr5 : r.length ≤ 5 := by omega
    have lo6 : o.length ≤ 6 := by omega
    -- not right(row, other) or not right(other, row)
    refine ⟨.ref ra, rfl, .ref oa, rfl, ra, oa, r, o, rfl, R7, hO, hlow.ok, hok, by omega, lo6, T7, fun H8 e8 T8 => ⟨true, rfl, ?_⟩⟩
    refine iteF ⟨.ref oa, rfl, .ref ra, rfl, oa, ra, o, r, rfl, hO.mono (.ext e8), R7.mono (.ext e8), hok, hlow.ok, lo6, by omega, T8, fun H9 e9 T9 => ⟨true, rfl, ?_⟩⟩
    refine iteF ?_
    have e79 := e8.trans e9
    have P9 := P7.ext e79
    have G9 := G7.ext e79
    have R9 := R7.mono (.ext e79)
    -- not right(row, row anew) or not long_right(pot, tags)
    refine ⟨.ref ra, rfl, .ref p, rfl, .ref l, rfl, p, l, zs, 5, rfl, P9, G9, by decide, by decide, fun rb u H10 hU hulow lu k10 P10 => ?_⟩
    have G10 := G9.but P9 k10
    have T10 : Tabs T H10 := P9.tabs k10 T9
    refine ⟨ra, rb, r, u, rfl, R9.mono (P9.tups k10), hU, hlow.ok, hulow.ok, by omega, by omega, T10, fun H11 e11 T11 => ⟨true, rfl, ?_⟩⟩
    refine iteF ⟨.ref p, rfl, .ref l, rfl, p, l, zs, rfl, P10.ext e11, G10.ext e11, T11, fun H12 e12 T12 => ⟨true, rfl, ?_⟩⟩
    refine iteF ⟨_, _, _, _, _, rfl, script_stays hS1 ?_ np, T12⟩
    exact k17.trans ((ExtB.ext e79).trans ((But.extB k10).trans ((ExtB.ext e11).trans e12)))
end
end Fade

namespace Fade
open PySem PySem.Spec PyProof.Rows L2 LamX
/-- the law's row, from what the top has left -/
theorem walk_end {l : PySem.W.OpenLaw} {k : Nat} {qp : Program} {loose : List Str} {XP : (Str → Option Value) → Heap → Prop} {YP : World → Heap → Prop} {d : DefRec} {KF : Params → PySem.W.Frag} {x : Str}
    (most : l.most = some 63) (plain : d.params.defaults = []) (room : Room k callerA) (part : ∀ (w : World) (h : Heap), YP w h → (KF w.params).In h)
    (F : ∀ (w : World) (mg : Str → Option Value) (fa : Addr) (h : Heap), YP w h → (KF w.params).In h → h.Ns mainGlobals mg → mg d.name = some (.ref fa) →
      ∃ (fd : FuncData) (c Pt : Addr), h.get? Pt = some { cls := .none, data := .fields #[] } ∧ (KF w.params).lookup Pt = none ∧ PySem.W.CodeHd h c Pt ∧ (∀ (s : Shared) (u : Value), BindsTo s fd ⟨[u], []⟩ [(x, u)]) ∧
        ∀ base : Heap, TabB base mg c Pt → FnG l.prog w (KF w.params) mg base k fa fd [x] (spLaw (KF w.params) [(Pt, qLam)])) :
    PySem.W.WalkO qp loose XP YP l.row.toRowW d [] (fun f vs => PySem.call f vs) := by
  refine Att.attach_callB most plain fun w s₀ s₁ mg mb fa ob pm cd doc a vs ns G Y _ _ _ named obj areInts short _ none => ?_
  have KX := part w _ Y
  obtain ⟨fd, c, Pt, tab, noK, code, hb, hG⟩ := F w mg fa _ Y KX G.T.g named
  refine law_end KX G.T.g G.T.b G.T.builtins G.T.nolimit none tab noK code G.T.bmain obj areInts (Nat.le_trans short (by decide)) room hG hb fun H hP hS => ?_
  refine ⟨a, ns, rfl, hS, short, fun p hp => ?_, fun _ => rfl⟩
  rw [List.mem_singleton.mp hp]
  exact TabS.nil hP
theorem all_mk {l : PySem.W.OpenLaw} {w : World} {K : PySem.W.Frag} {h : Heap} {mg : Str → Option Value} {fa c Pt : Addr} (X : K.In h) (G : h.Ns mainGlobals mg) (hfa : mg "law" = some (.ref fa))
    {f1 : Addr} {od1 an1 : Option Addr} {sl1 : Array (Option Value)} {oc1 kV1 dc1 pm1 ct1 : Value}
    {cd1 : Value}
    {f2 : Addr} {od2 an2 : Option Addr} {sl2 : Array (Option Value)} {oc2 kV2 dc2 pm2 ct2 : Value}
    {f3 : Addr} {od3 an3 : Option Addr} {sl3 : Array (Option Value)} {oc3 kV3 dc3 pm3 ct3 : Value}
    {cd3 : Value}
    {f5 : Addr} {od5 an5 : Option Addr} {sl5 : Array (Option Value)} {oc5 kV5 dc5 pm5 ct5 : Value}
    {cd5 : Value}
    {f6 : Addr} {od6 an6 : Option Addr} {sl6 : Array (Option Value)} {oc6 kV6 dc6 pm6 ct6 : Value}
    {cd6 : Value}
    {f7 : Addr} {od7 an7 : Option Addr} {sl7 : Array (Option Value)} {oc7 kV7 dc7 pm7 ct7 : Value}
    {cd7 : Value}
    {f8 : Addr} {od8 an8 : Option Addr} {sl8 : Array (Option Value)} {oc8 kV8 dc8 pm8 ct8 : Value}
    {cd8 : Value}
    {f9 : Addr} {od9 an9 : Option Addr} {sl9 : Array (Option Value)} {oc9 kV9 dc9 pm9 ct9 : Value}
    {cd9 : Value}
    {f10 : Addr} {od10 an10 : Option Addr} {sl10 : Array (Option Value)} {oc10 kV10 dc10 pm10 ct10 : Value}
    {cd10 : Value}
    {f11 : Addr} {od11 an11 : Option Addr} {sl11 : Array (Option Value)} {oc11 kV11 dc11 pm11 ct11 : Value}
    {cd11 : Value}
    {f12 : Addr} {od12 an12 : Option Addr} {sl12 : Array (Option Value)} {oc12 kV12 dc12 pm12 ct12 : Value}
    {cd12 : Value}
    {f13 : Addr} {od13 an13 : Option Addr} {sl13 : Array (Option Value)} {oc13 kV13 dc13 pm13 ct13 : Value}
    {cd13 : Value}
    {f14 : Addr} {od14 an14 : Option Addr} {sl14 : Array (Option Value)} {oc14 kV14 dc14 pm14 ct14 : Value}
    {cd14 : Value}
    {f15 : Addr} {od15 an15 : Option Addr} {sl15 : Array (Option Value)} {oc15 kV15 dc15 pm15 ct15 : Value}
    {cd15 : Value}
    {f16 : Addr} {od16 an16 : Option Addr} {sl16 : Array (Option Value)} {oc16 kV16 dc16 pm16 ct16 : Value}
    {cd16 : Value}
    {f17 : Addr} {od17 an17 : Option Addr} {sl17 : Array (Option Value)} {oc17 kV17 dc17 pm17 ct17 : Value}
    {cd17 : Value}
    {f18 : Addr} {od18 an18 : Option Addr} {sl18 : Array (Option Value)} {oc18 kV18 dc18 pm18 ct18 : Value}
    {cd18 : Value}
    {f19 : Addr} {od19 an19 : Option Addr} {sl19 : Array (Option Value)} {oc19 kV19 dc19 pm19 ct19 : Value}
    {cd19 : Value}
    {f20 : Addr} {od20 an20 : Option Addr} {sl20 : Array (Option Value)} {oc20 kV20 dc20 pm20 ct20 : Value}
    {cd20 : Value}
    {oC : Value} {dC : Option Addr} {vC : Array Value} {sC : Array (Option Value)}
    (a1 : PySem.W.nsIn K mainGlobals "stretches" = some (some (.ref f1))) (l1 : K.lookup f1 = some ⟨oc1, od1, .func (PySem.W.fnOf "stretches" "stretches" (defArgs tS1) (defBody tS1) (defScope tS1) .none kV1 dc1 pm1 an1 cd1 ct1), sl1⟩) (c1 : PySem.W.codeIn K cd1 "stretches" = true) (k1 : PySem.W.keepIn K (.ref f1) = true)
    (a2 : PySem.W.nsIn K mainGlobals "normal" = some (some (.ref f2))) (l2 : K.lookup f2 = some ⟨oc2, od2, .func (PySem.W.fnOf "normal" "normal" (defArgs tS2) (defBody tS2) (defScope tS2) .none kV2 dc2 pm2 an2 (.ref c) ct2), sl2⟩) (c2 : PySem.W.codeIn K (.ref c) "normal" = true) (k2 : PySem.W.keepIn K (.ref f2) = true)
    (a3 : PySem.W.nsIn K mainGlobals "alike" = some (some (.ref f3))) (l3 : K.lookup f3 = some ⟨oc3, od3, .func (PySem.W.fnOf "alike" "alike" (defArgs tS3) (defBody tS3) (defScope tS3) .none kV3 dc3 pm3 an3 cd3 ct3), sl3⟩) (c3 : PySem.W.codeIn K cd3 "alike" = true) (k3 : PySem.W.keepIn K (.ref f3) = true)
    (a5 : PySem.W.nsIn K mainGlobals "_law_cell" = some (some (.ref f5))) (l5 : K.lookup f5 = some ⟨oc5, od5, .func (PySem.W.fnOf "_law_cell" "_law_cell" (defArgs tS5) (defBody tS5) (defScope tS5) .none kV5 dc5 pm5 an5 cd5 ct5), sl5⟩) (c5 : PySem.W.codeIn K cd5 "_law_cell" = true) (k5 : PySem.W.keepIn K (.ref f5) = true)
    (a6 : PySem.W.nsIn K mainGlobals "_law_pot" = some (some (.ref f6))) (l6 : K.lookup f6 = some ⟨oc6, od6, .func (PySem.W.fnOf "_law_pot" "_law_pot" (defArgs tS6) (defBody tS6) (defScope tS6) .none kV6 dc6 pm6 an6 cd6 ct6), sl6⟩) (c6 : PySem.W.codeIn K cd6 "_law_pot" = true) (k6 : PySem.W.keepIn K (.ref f6) = true)
    (a7 : PySem.W.nsIn K mainGlobals "_law_take" = some (some (.ref f7))) (l7 : K.lookup f7 = some ⟨oc7, od7, .func (PySem.W.fnOf "_law_take" "_law_take" (defArgs tS7) (defBody tS7) (defScope tS7) .none kV7 dc7 pm7 an7 cd7 ct7), sl7⟩) (c7 : PySem.W.codeIn K cd7 "_law_take" = true) (k7 : PySem.W.keepIn K (.ref f7) = true)
    (a8 : PySem.W.nsIn K mainGlobals "_law_word" = some (some (.ref f8))) (l8 : K.lookup f8 = some ⟨oc8, od8, .func (PySem.W.fnOf "_law_word" "_law_word" (defArgs tS8) (defBody tS8) (defScope tS8) .none kV8 dc8 pm8 an8 cd8 ct8), sl8⟩) (c8 : PySem.W.codeIn K cd8 "_law_word" = true) (k8 : PySem.W.keepIn K (.ref f8) = true)
    (a9 : PySem.W.nsIn K mainGlobals "_law_names" = some (some (.ref f9))) (l9 : K.lookup f9 = some ⟨oc9, od9, .func (PySem.W.fnOf "_law_names" "_law_names" (defArgs tS9) (defBody tS9) (defScope tS9) .none kV9 dc9 pm9 an9 cd9 ct9), sl9⟩) (c9 : PySem.W.codeIn K cd9 "_law_names" = true) (k9 : PySem.W.keepIn K (.ref f9) = true)
    (a10 : PySem.W.nsIn K mainGlobals "_law_strength" = some (some (.ref f10))) (l10 : K.lookup f10 = some ⟨oc10, od10, .func (PySem.W.fnOf "_law_strength" "_law_strength" (defArgs tS10) (defBody tS10) (defScope tS10) .none kV10 dc10 pm10 an10 cd10 ct10), sl10⟩) (c10 : PySem.W.codeIn K cd10 "_law_strength" = true) (k10 : PySem.W.keepIn K (.ref f10) = true)
    (a11 : PySem.W.nsIn K mainGlobals "_law_row" = some (some (.ref f11))) (l11 : K.lookup f11 = some ⟨oc11, od11, .func (PySem.W.fnOf "_law_row" "_law_row" (defArgs tS11) (defBody tS11) (defScope tS11) .none kV11 dc11 pm11 an11 cd11 ct11), sl11⟩) (c11 : PySem.W.codeIn K cd11 "_law_row" = true) (k11 : PySem.W.keepIn K (.ref f11) = true)
    (a12 : PySem.W.nsIn K mainGlobals "_law_exchanged" = some (some (.ref f12))) (l12 : K.lookup f12 = some ⟨oc12, od12, .func (PySem.W.fnOf "_law_exchanged" "_law_exchanged" (defArgs tS12) (defBody tS12) (defScope tS12) .none kV12 dc12 pm12 an12 cd12 ct12), sl12⟩) (c12 : PySem.W.codeIn K cd12 "_law_exchanged" = true) (k12 : PySem.W.keepIn K (.ref f12) = true)
    (a13 : PySem.W.nsIn K mainGlobals "_law_all_alike" = some (some (.ref f13))) (l13 : K.lookup f13 = some ⟨oc13, od13, .func (PySem.W.fnOf "_law_all_alike" "_law_all_alike" (defArgs tS13) (defBody tS13) (defScope tS13) .none kV13 dc13 pm13 an13 cd13 ct13), sl13⟩) (c13 : PySem.W.codeIn K cd13 "_law_all_alike" = true) (k13 : PySem.W.keepIn K (.ref f13) = true)
    (a14 : PySem.W.nsIn K mainGlobals "_law_moved" = some (some (.ref f14))) (l14 : K.lookup f14 = some ⟨oc14, od14, .func (PySem.W.fnOf "_law_moved" "_law_moved" (defArgs tS14) (defBody tS14) (defScope tS14) .none kV14 dc14 pm14 an14 cd14 ct14), sl14⟩) (c14 : PySem.W.codeIn K cd14 "_law_moved" = true) (k14 : PySem.W.keepIn K (.ref f14) = true)
    (a15 : PySem.W.nsIn K mainGlobals "_law_changed" = some (some (.ref f15))) (l15 : K.lookup f15 = some ⟨oc15, od15, .func (PySem.W.fnOf "_law_changed" "_law_changed" (defArgs tS15) (defBody tS15) (defScope tS15) .none kV15 dc15 pm15 an15 cd15 ct15), sl15⟩) (c15 : PySem.W.codeIn K cd15 "_law_changed" = true) (k15 : PySem.W.keepIn K (.ref f15) = true)
    (a16 : PySem.W.nsIn K mainGlobals "_law_right" = some (some (.ref f16))) (l16 : K.lookup f16 = some ⟨oc16, od16, .func (PySem.W.fnOf "_law_right" "_law_right" (defArgs tS16) (defBody tS16) (defScope tS16) .none kV16 dc16 pm16 an16 cd16 ct16), sl16⟩) (c16 : PySem.W.codeIn K cd16 "_law_right" = true) (k16 : PySem.W.keepIn K (.ref f16) = true)
    (a17 : PySem.W.nsIn K mainGlobals "_law_next" = some (some (.ref f17))) (l17 : K.lookup f17 = some ⟨oc17, od17, .func (PySem.W.fnOf "_law_next" "_law_next" (defArgs tS17) (defBody tS17) (defScope tS17) .none kV17 dc17 pm17 an17 cd17 ct17), sl17⟩) (c17 : PySem.W.codeIn K cd17 "_law_next" = true) (k17 : PySem.W.keepIn K (.ref f17) = true)
    (a18 : PySem.W.nsIn K mainGlobals "_law_settled" = some (some (.ref f18))) (l18 : K.lookup f18 = some ⟨oc18, od18, .func (PySem.W.fnOf "_law_settled" "_law_settled" (defArgs tS18) (defBody tS18) (defScope tS18) .none kV18 dc18 pm18 an18 cd18 ct18), sl18⟩) (c18 : PySem.W.codeIn K cd18 "_law_settled" = true) (k18 : PySem.W.keepIn K (.ref f18) = true)
    (a19 : PySem.W.nsIn K mainGlobals "_law_long_right" = some (some (.ref f19))) (l19 : K.lookup f19 = some ⟨oc19, od19, .func (PySem.W.fnOf "_law_long_right" "_law_long_right" (defArgs tS19) (defBody tS19) (defScope tS19) .none kV19 dc19 pm19 an19 cd19 ct19), sl19⟩) (c19 : PySem.W.codeIn K cd19 "_law_long_right" = true) (k19 : PySem.W.keepIn K (.ref f19) = true)
    (a20 : PySem.W.nsIn K mainGlobals "law" = some (some (.ref f20))) (l20 : K.lookup f20 = some ⟨oc20, od20, .func (PySem.W.fnOf "law" "law" (defArgs tS20) (defBody tS20) (defScope tS20) .none kV20 dc20 pm20 an20 cd20 ct20), sl20⟩) (c20 : PySem.W.codeIn K cd20 "law" = true) (k20 : PySem.W.keepIn K (.ref f20) = true)
    (z_len : PySem.W.nsIn K mainGlobals "len" = some none)
    (z_max : PySem.W.nsIn K mainGlobals "max" = some none)
    (z_abs : PySem.W.nsIn K mainGlobals "abs" = some none)
    (z_divmod : PySem.W.nsIn K mainGlobals "divmod" = some none)
    (z_range : PySem.W.nsIn K mainGlobals "range" = some none)
    (z_sorted : PySem.W.nsIn K mainGlobals "sorted" = some none)
    (z_tuple : PySem.W.nsIn K mainGlobals "tuple" = some none)
    (z_repr : PySem.W.nsIn K mainGlobals "repr" = some none)
    (z_min : PySem.W.nsIn K mainGlobals "min" = some none)
    (lC : K.lookup c = some ⟨oC, dC, .fields vC, sC⟩) (pT : (vC[11]? : Option Value) = some (.ref Pt)) (hT : PySem.W.codeHdIn K c Pt = true) (nT : K.lookup Pt = none) (tab : h.get? Pt = some { cls := .none, data := .fields #[] }) :
    ∃ (fd : FuncData) (c Pt : Addr), h.get? Pt = some { cls := .none, data := .fields #[] } ∧ K.lookup Pt = none ∧ PySem.W.CodeHd h c Pt ∧ (∀ (s : Shared) (u : Value), BindsTo s fd ⟨[u], []⟩ [("_law_script", u)]) ∧
      ∀ base : Heap, TabB base mg c Pt → FnG l.prog w K mg base 5 fa fd ["_law_script"] (spLaw K [(Pt, qLam)]) := by
  cases hfa.symm.trans (PySem.W.mg_of X G a20)
  have F1 := fun_mk (st := tS1) l1 c1 k1
  have b1 := F1.binds (ps := ["row"]) fun _ _ _ _ _ _ us hl => match us, hl with | [_], _ => rfl
  have g1 := PySem.W.mg_of X G a1
  have F2 := fun_mk (st := tS2) l2 c2 k2
  have b2 := F2.binds (ps := ["row"]) fun _ _ _ _ _ _ us hl => match us, hl with | [_], _ => rfl
  have g2 := PySem.W.mg_of X G a2
  have F3 := fun_mk (st := tS3) l3 c3 k3
  have b3 := F3.binds (ps := ["one", "other"]) fun _ _ _ _ _ _ us hl => match us, hl with | [_, _], _ => rfl
  have g3 := PySem.W.mg_of X G a3
  have F5 := fun_mk (st := tS5) l5 c5 k5
  have b5 := F5.binds (ps := ["_law_script", "_law_k"]) fun _ _ _ _ _ _ us hl => match us, hl with | [_, _], _ => rfl
  have g5 := PySem.W.mg_of X G a5
  have F6 := fun_mk (st := tS6) l6 c6 k6
  have b6 := F6.binds (ps := ["_law_cell_here", "_law_k"]) fun _ _ _ _ _ _ us hl => match us, hl with | [_, _], _ => rfl
  have g6 := PySem.W.mg_of X G a6
  have F7 := fun_mk (st := tS7) l7 c7 k7
  have b7 := F7.binds (ps := ["_law_pot_here", "_law_many"]) fun _ _ _ _ _ _ us hl => match us, hl with | [_, _], _ => rfl
  have g7 := PySem.W.mg_of X G a7
  have F8 := fun_mk (st := tS8) l8 c8 k8
  have b8 := F8.binds (ps := ["_law_pot_here"]) fun _ _ _ _ _ _ us hl => match us, hl with | [_], _ => rfl
  have g8 := PySem.W.mg_of X G a8
  have F9 := fun_mk (st := tS9) l9 c9 k9
  have b9 := F9.binds (ps := ["_law_pot_here", "_law_many"]) fun _ _ _ _ _ _ us hl => match us, hl with | [_, _], _ => rfl
  have g9 := PySem.W.mg_of X G a9
  have F10 := fun_mk (st := tS10) l10 c10 k10
  have b10 := F10.binds (ps := ["_law_pot_here"]) fun _ _ _ _ _ _ us hl => match us, hl with | [_], _ => rfl
  have g10 := PySem.W.mg_of X G a10
  have F11 := fun_mk (st := tS11) l11 c11 k11
  have b11 := F11.binds (ps := ["_law_pot_here", "_law_tags", "_law_most"]) fun _ _ _ _ _ _ us hl => match us, hl with | [_, _, _], _ => rfl
  have g11 := PySem.W.mg_of X G a11
  have F12 := fun_mk (st := tS12) l12 c12 k12
  have b12 := F12.binds (ps := ["_law_row_here", "_law_k"]) fun _ _ _ _ _ _ us hl => match us, hl with | [_, _], _ => rfl
  have g12 := PySem.W.mg_of X G a12
  have F13 := fun_mk (st := tS13) l13 c13 k13
  have b13 := F13.binds (ps := ["_law_row_here"]) fun _ _ _ _ _ _ us hl => match us, hl with | [_], _ => rfl
  have g13 := PySem.W.mg_of X G a13
  have F14 := fun_mk (st := tS14) l14 c14 k14
  have b14 := F14.binds (ps := ["_law_pot_here", "_law_row_here"]) fun _ _ _ _ _ _ us hl => match us, hl with | [_, _], _ => rfl
  have g14 := PySem.W.mg_of X G a14
  have F15 := fun_mk (st := tS15) l15 c15 k15
  have b15 := F15.binds (ps := ["_law_pot_here", "_law_row_here", "_law_tags"]) fun _ _ _ _ _ _ us hl => match us, hl with | [_, _, _], _ => rfl
  have g15 := PySem.W.mg_of X G a15
  have F16 := fun_mk (st := tS16) l16 c16 k16
  have b16 := F16.binds (ps := ["_law_one", "_law_other"]) fun _ _ _ _ _ _ us hl => match us, hl with | [_, _], _ => rfl
  have g16 := PySem.W.mg_of X G a16
  have F17 := fun_mk (st := tS17) l17 c17 k17
  have b17 := F17.binds (ps := ["_law_row_here"]) fun _ _ _ _ _ _ us hl => match us, hl with | [_], _ => rfl
  have g17 := PySem.W.mg_of X G a17
  have F18 := fun_mk (st := tS18) l18 c18 k18
  have b18 := F18.binds (ps := ["_law_row_here"]) fun _ _ _ _ _ _ us hl => match us, hl with | [_], _ => rfl
  have g18 := PySem.W.mg_of X G a18
  have F19 := fun_mk (st := tS19) l19 c19 k19
  have b19 := F19.binds (ps := ["_law_pot_here", "_law_tags"]) fun _ _ _ _ _ _ us hl => match us, hl with | [_, _], _ => rfl
  have g19 := PySem.W.mg_of X G a19
  have F20 := fun_mk (st := tS20) l20 c20 k20
  have m_len := PySem.W.mg_none_of X G z_len
  have m_max := PySem.W.mg_none_of X G z_max
  have m_abs := PySem.W.mg_none_of X G z_abs
  have m_divmod := PySem.W.mg_none_of X G z_divmod
  have m_range := PySem.W.mg_none_of X G z_range
  have m_sorted := PySem.W.mg_none_of X G z_sorted
  have m_tuple := PySem.W.mg_none_of X G z_tuple
  have m_repr := PySem.W.mg_none_of X G z_repr
  have m_min := PySem.W.mg_none_of X G z_min
  refine ⟨PySem.W.fnOf "law" "law" (defArgs tS20) (defBody tS20) (defScope tS20) .none kV20 dc20 pm20 an20 cd20 ct20, c, Pt, tab, nT, PySem.W.codeHd_of_K X hT, fun s v => .of_eq rfl, fun base TB => ?_⟩
  have G1 : FnOk l.prog w K mg base CX0 1 f1 _ ["row"] spStretch := ok_stretch F1
  have G2 : FnOk l.prog w K mg base CX0 2 f2 _ ["row"] (spNormal [(Pt, qLam)]) := ok_normal l2 c2 F1 b1 g1 G1 m_sorted m_tuple TB
  have G3 : FnOk l.prog w K mg base CX0 3 f3 _ ["one", "other"] (spAlike [(Pt, qLam)]) := ok_alike F3 k2 b2 g2 G2
  have G5 : FnOk l.prog w K mg base CX0 1 f5 _ ["_law_script", "_law_k"] (spCell K) := ok_cell F5 m_len
  have G6 : FnOk l.prog w K mg base CX0 1 f6 _ ["_law_cell_here", "_law_k"] spPot := ok_pot F6 m_abs m_max
  have G7 : FnOk l.prog w K mg base CX0 1 f7 _ ["_law_pot_here", "_law_many"] spTake := ok_take F7 m_divmod
  have G8 : FnOk l.prog w K mg base CX0 2 f8 _ ["_law_pot_here"] spWord := ok_word F8 F7 b7 g7 G7 m_range
  have G9 : FnOk l.prog w K mg base CX0 3 f9 _ ["_law_pot_here", "_law_many"] spNames := ok_names F9 F8 b8 g8 G8 m_range
  have G10 : FnOk l.prog w K mg base CX0 2 f10 _ ["_law_pot_here"] spStrength := ok_strength F10 F7 b7 g7 G7
  have G11 : FnOk l.prog w K mg base CX0 3 f11 _ ["_law_pot_here", "_law_tags", "_law_most"] spRow := ok_row F11 F7 b7 g7 G7 F10 b10 g10 G10 m_range m_len m_tuple
  have G12 : FnOk l.prog w K mg base CX0 1 f12 _ ["_law_row_here", "_law_k"] spExch := ok_exch F12
  have G13 : FnOk l.prog w K mg base CX0 2 f13 _ ["_law_row_here"] (spAll l.prog w) := ok_all F13 F12 b12 g12 G12 m_range m_len
  have G14 : FnOk l.prog w K mg base CX0 2 f14 _ ["_law_pot_here", "_law_row_here"] spMoved := ok_moved F14 F7 b7 g7 G7 F12 b12 g12 G12 m_range m_len
  have G15 : FnOk l.prog w K mg base CX0 2 f15 _ ["_law_pot_here", "_law_row_here", "_law_tags"] spChanged := ok_changed F15 F7 b7 g7 G7 m_max m_len
  have G16 : FnG l.prog w K mg base 4 f16 _ ["_law_one", "_law_other"] (spRight [(Pt, qLam)]) := ok_right F16 F13 b13 g13 G13 F3 b3 g3 G3 m_repr
  have G17 : FnOk l.prog w K mg base CX0 2 f17 _ ["_law_row_here"] spNext := ok_next F17 F12 b12 g12 G12 m_range m_len
  have G18 : FnOk l.prog w K mg base CX0 3 f18 _ ["_law_row_here"] spSettled := ok_settled F18 F17 b17 g17 G17 m_range m_len
  have G19 : FnG l.prog w K mg base 4 f19 _ ["_law_pot_here", "_law_tags"] (spLong [(Pt, qLam)]) := ok_long F19 F11 b11 g11 G11 F15 b15 g15 G15 F14 b14 g14 G14 F18 b18 g18 G18 F3 b3 g3 G3 m_repr
  exact ok_law F20 F5 b5 g5 G5 F6 b6 g6 G6 F7 b7 g7 G7 F9 b9 g9 G9 F11 b11 g11 G11 F15 b15 g15 G15 F14 b14 g14 G14 F16 b16 g16 G16 F19 b19 g19 G19 m_range m_max m_min m_len
end Fade
open PySem PySem.W PyProof.Rows
set_option maxRecDepth 100000 in
set_option maxHeartbeats 0 in
theorem PySem.Challenge.cw_fadeleaf_k18_whole_alike_just_so_holds : PySem.Challenge.rw_fadeleaf_k18_whole_alike_just_so.Holds := by
  w_on; o_law; k_head; (case hw => w_witness2)
  k_fill
  refine Fade.walk_end (l := PySem.Challenge.rw_fadeleaf_k18_whole_alike_just_so) (k := 5) (x := "_law_script") rfl rfl ⟨rfl, by decide, by decide⟩ (fun w h Y => PySem.W.km_in_of Y) ?F
  case F =>
    intro w mg fa h Y KX G hmg
    refine' Fade.all_mk KX G hmg ?a1 ?l1 ?c1 ?k1 ?a2 ?l2 ?c2 ?k2 ?a3 ?l3 ?c3 ?k3 ?a5 ?l5 ?c5 ?k5 ?a6 ?l6 ?c6 ?k6 ?a7 ?l7 ?c7 ?k7 ?a8 ?l8 ?c8 ?k8 ?a9 ?l9 ?c9 ?k9 ?a10 ?l10 ?c10 ?k10 ?a11 ?l11 ?c11 ?k11 ?a12 ?l12 ?c12 ?k12 ?a13 ?l13 ?c13 ?k13 ?a14 ?l14 ?c14 ?k14 ?a15 ?l15 ?c15 ?k15 ?a16 ?l16 ?c16 ?k16 ?a17 ?l17 ?c17 ?k17 ?a18 ?l18 ?c18 ?k18 ?a19 ?l19 ?c19 ?k19 ?a20 ?l20 ?c20 ?k20 ?z_len ?z_max ?z_abs ?z_divmod ?z_range ?z_sorted ?z_tuple ?z_repr ?z_min ?lC ?pT ?hT ?nT ?tab
    (case a1 => k_is); (case l1 => k_is); (case c1 => k_is); (case k1 => k_is); (case a2 => k_is); (case l2 => k_is); (case c2 => k_is); (case k2 => k_is)
    (case a3 => k_is); (case l3 => k_is); (case c3 => k_is); (case k3 => k_is); (case a5 => k_is); (case l5 => k_is); (case c5 => k_is); (case k5 => k_is)
    (case a6 => k_is); (case l6 => k_is); (case c6 => k_is); (case k6 => k_is); (case a7 => k_is); (case l7 => k_is); (case c7 => k_is); (case k7 => k_is)
    (case a8 => k_is); (case l8 => k_is); (case c8 => k_is); (case k8 => k_is); (case a9 => k_is); (case l9 => k_is); (case c9 => k_is); (case k9 => k_is)
    (case a10 => k_is); (case l10 => k_is); (case c10 => k_is); (case k10 => k_is); (case a11 => k_is); (case l11 => k_is); (case c11 => k_is); (case k11 => k_is)
    (case a12 => k_is); (case l12 => k_is); (case c12 => k_is); (case k12 => k_is); (case a13 => k_is); (case l13 => k_is); (case c13 => k_is); (case k13 => k_is)
    (case a14 => k_is); (case l14 => k_is); (case c14 => k_is); (case k14 => k_is); (case a15 => k_is); (case l15 => k_is); (case c15 => k_is); (case k15 => k_is)
    (case a16 => k_is); (case l16 => k_is); (case c16 => k_is); (case k16 => k_is); (case a17 => k_is); (case l17 => k_is); (case c17 => k_is); (case k17 => k_is)
    (case a18 => k_is); (case l18 => k_is); (case c18 => k_is); (case k18 => k_is); (case a19 => k_is); (case l19 => k_is); (case c19 => k_is); (case k19 => k_is)
    (case a20 => k_is); (case l20 => k_is); (case c20 => k_is); (case k20 => k_is); (case z_len => k_is); (case z_max => k_is); (case z_abs => k_is); (case z_divmod => k_is)
    (case z_range => k_is); (case z_sorted => k_is); (case z_tuple => k_is); (case z_repr => k_is); (case z_min => k_is); (case lC => k_is); (case pT => exact rfl); (case hT => kernel_rfl)
    (case nT => kernel_rfl); (case tab => exact PySem.W.km_tabs_of Y _ (by k_mem))
