import PyProof.Rows.All
import Wide.All
import OpenK.AllK
import Wide.FinOn
import Open.SpecLaws
import KE.OsGo
import HandS.ForSpec
import HandS.ForMost
import HandS.Evl
import KE.LtSeq
import KE.DataMinMax
import KE.KDictPairs
import KE.KDictKeyed
import HandS.SetKeys
import HandS.ExcInit
import HandS.ExcSuper
import HandS.ExcField
import HandS.Comp
import HandS.Iter
import HandS.Rev
import HandS.SortRule
import HandS.Conv
import HandS.CallLocal
import HandS.Zip
import HandS.Walk
import PySem.Challenge.RW_fingercord_s01_answers
set_option Elab.async false
set_option linter.all false
/-! Pulled taut from the left, with a stack: the same as the specification's from the right. -/
namespace Fc
open Vbcjai

theorem other_other (x : Nat) : other (other x) = x := by
  unfold other
  split <;> split <;> omega
theorem other_ne (x : Nat) : other x ≠ x := by
  unfold other
  split <;> omega
theorem other_inj {x y : Nat} (h : other x = other y) : x = y := by
  rw [← other_other x, h, other_other]
theorem other_flip {x y : Nat} (h : y = other x) : x = other y := by rw [h, other_other]

/-- no two neighbours undo one another -/
def Red : List Nat → Prop
  | [] => True
  | [_] => True
  | x :: y :: r => y ≠ other x ∧ Red (y :: r)
theorem Red.tail {x : Nat} {r : List Nat} (h : Red (x :: r)) : Red r := by
  cases r with
  | nil => trivial
  | cons y r => exact h.2
theorem push_two (x y : Nat) (r : List Nat) : push x (y :: r) = if y = other x then r else x :: y :: r := rfl
theorem push_red {x : Nat} {r : List Nat} (h : Red r) : Red (push x r) := by
  cases r with
  | nil => trivial
  | cons y r =>
    rw [push_two]
    by_cases c : y = other x
    · rw [if_pos c]; exact h.tail
    · rw [if_neg c]; exact ⟨c, h⟩
theorem taut_nil : taut [] = [] := rfl
theorem taut_cons (x : Nat) (w : List Nat) : taut (x :: w) = push x (taut w) := rfl
theorem taut_red : ∀ w : List Nat, Red (taut w)
  | [] => trivial
  | x :: w => push_red (taut_red w)
theorem push_of_red {x : Nat} {r : List Nat} (h : Red (x :: r)) : push x r = x :: r := by
  cases r with
  | nil => rfl
  | cons y r => exact if_neg h.1
theorem taut_of_red : ∀ {w : List Nat}, Red w → taut w = w
  | [], _ => rfl
  | x :: w, h => by rw [taut_cons, taut_of_red h.tail, push_of_red h]
theorem taut_taut (w : List Nat) : taut (taut w) = taut w := taut_of_red (taut_red w)
theorem push_push {x : Nat} {r : List Nat} (h : Red r) : push x (push (other x) r) = r := by
  cases r with
  | nil => exact if_pos rfl
  | cons y s =>
    by_cases c : y = other (other x)
    · have e : push (other x) (y :: s) = s := if_pos c
      rw [e]
      rw [other_other] at c
      subst c
      exact push_of_red h
    · have e : push (other x) (y :: s) = other x :: y :: s := if_neg c
      rw [e]
      exact if_pos rfl
/-- a row of turns put in front of a taut one -/
def act (a r : List Nat) : List Nat := a.foldr push r
theorem act_nil (r : List Nat) : act [] r = r := rfl
theorem act_cons (x : Nat) (a r : List Nat) : act (x :: a) r = push x (act a r) := rfl
theorem act_red {r : List Nat} (h : Red r) : ∀ a : List Nat, Red (act a r)
  | [] => h
  | _ :: a => push_red (act_red h a)
theorem act_append (a b r : List Nat) : act (a ++ b) r = act a (act b r) := List.foldr_append
theorem taut_act (w : List Nat) : taut w = act w [] := rfl
theorem taut_append (a b : List Nat) : taut (a ++ b) = act a (taut b) := by rw [taut_act, act_append, ← taut_act]
theorem act_push {x : Nat} {t r : List Nat} (h : Red r) : act (push x t) r = push x (act t r) := by
  cases t with
  | nil => rfl
  | cons y s =>
    by_cases c : y = other x
    · have e : push x (y :: s) = s := if_pos c
      rw [e, act_cons, c, push_push (act_red h s)]
    · have e : push x (y :: s) = x :: y :: s := if_neg c
      rw [e]
      rfl
theorem act_taut {r : List Nat} (h : Red r) : ∀ a : List Nat, act (taut a) r = act a r
  | [] => rfl
  | x :: a => by rw [taut_cons, act_push h, act_taut h a, act_cons]
theorem red_rev_cons {x : Nat} : ∀ {r : List Nat}, Red r → (∀ y, r.getLast? = some y → x ≠ other y) → Red (r ++ [x])
  | [], _, _ => trivial
  | [y], _, h => ⟨h y rfl, trivial⟩
  | y :: z :: r, h, k => ⟨h.1, red_rev_cons (r := z :: r) h.2 (by simpa using k)⟩
theorem red_rev : ∀ {w : List Nat}, Red w → Red w.reverse
  | [], _ => trivial
  | [x], _ => trivial
  | x :: y :: r, h => by
    rw [List.reverse_cons]
    refine red_rev_cons (red_rev h.2) ?_
    intro z hz
    rw [List.reverse_cons, List.getLast?_append] at hz
    have e : y = z := by simpa using hz
    subst e
    intro q
    exact h.1 (other_flip q)
theorem taut_rev_step (x : Nat) (t : List Nat) : taut (x :: t).reverse = taut (push x t).reverse := by
  cases t with
  | nil => rfl
  | cons y s =>
    by_cases c : y = other x
    · have e : push x (y :: s) = s := if_pos c
      rw [e, List.reverse_cons, List.reverse_cons, List.append_assoc, taut_append]
      have z : taut ([y] ++ [x]) = [] := by
        show push y (push x []) = []
        exact if_pos (other_flip c)
      rw [z]
      rfl
    · have e : push x (y :: s) = x :: y :: s := if_neg c
      rw [e]
theorem taut_rev_taut : ∀ w : List Nat, taut w.reverse = taut (taut w).reverse
  | [] => rfl
  | x :: s => by
    rw [taut_cons, ← taut_rev_step, List.reverse_cons, List.reverse_cons, taut_append, taut_append]
    have r1 : Red (taut [x]) := taut_red _
    rw [← act_taut r1 s.reverse, taut_rev_taut s, act_taut r1]
theorem taut_rev (w : List Nat) : taut w.reverse = (taut w).reverse := by
  rw [taut_rev_taut, taut_of_red (red_rev (taut_red w))]

/-- one turn more behind -/
def pull (t : List Nat) (x : Nat) : List Nat := if t.getLast? = some (other x) then t.dropLast else t ++ [x]
theorem pull_push (t : List Nat) (x : Nat) : pull t x = (push x t.reverse).reverse := by
  unfold pull
  rcases List.eq_nil_or_concat t with rfl | ⟨r, y, rfl⟩
  · simp [push]
  · simp only [List.concat_eq_append, List.getLast?_append, List.getLast?_singleton, Option.some_or, Option.some.injEq, List.reverse_append, List.reverse_cons, List.reverse_nil, List.nil_append, List.singleton_append]
    by_cases c : y = other x
    · rw [if_pos c]
      have e : push x (y :: r.reverse) = r.reverse := if_pos c
      rw [e]
      simp
    · rw [if_neg c]
      have e : push x (y :: r.reverse) = x :: y :: r.reverse := if_neg c
      rw [e]
      simp
theorem pulls_push : ∀ (w t : List Nat), w.foldl pull t = (w.foldl (fun st x => push x st) t.reverse).reverse
  | [], t => by simp
  | x :: w, t => by
    rw [List.foldl_cons, List.foldl_cons, pulls_push w, pull_push, List.reverse_reverse]
/-- **Pulled taut by a stack.** -/
theorem pulled (w : List Nat) : w.foldl pull [] = taut w := by
  rw [pulls_push]
  have e : w.foldl (fun st x => push x st) ([] : List Nat).reverse = taut w.reverse := by
    rw [taut_act, act, List.foldr_reverse]
    rfl
  rw [e, taut_rev, List.reverse_reverse]
theorem push_length (x : Nat) (r : List Nat) : (push x r).length ≤ r.length + 1 := by
  cases r with
  | nil => simp [push]
  | cons y r =>
    rw [push_two]
    by_cases c : y = other x
    · rw [if_pos c, List.length_cons]; omega
    · rw [if_neg c, List.length_cons]; exact Nat.le_refl _
theorem taut_length : ∀ w : List Nat, (taut w).length ≤ w.length
  | [] => Nat.le_refl _
  | x :: w => by
    have h := taut_length w
    have k := push_length x (taut w)
    rw [taut_cons, List.length_cons]
    omega
theorem push_mem {x z : Nat} {r : List Nat} (h : z ∈ push x r) : z = x ∨ z ∈ r := by
  cases r with
  | nil => simpa [push] using h
  | cons y r =>
    rw [push_two] at h
    by_cases c : y = other x
    · rw [if_pos c] at h; exact .inr (List.mem_cons_of_mem _ h)
    · rw [if_neg c] at h; exact List.mem_cons.mp h
theorem taut_mem {z : Nat} : ∀ {w : List Nat}, z ∈ taut w → z ∈ w
  | [], h => h
  | x :: w, h => by
    rw [taut_cons] at h
    rcases push_mem h with e | h
    · rw [e]; exact List.mem_cons_self
    · exact List.mem_cons_of_mem _ (taut_mem h)
end Fc
/-! Rings and roots: the program's loops against the specification's. -/
namespace Fc
open Vbcjai

/-- the j-th turn from the front and from behind undo one another -/
def endsUndo (t : List Nat) (j : Nat) : Bool := decide (2 * j + 2 ≤ t.length) && (t.getD j 0 == other (t.getD (t.length - 1 - j) 0))
structure OffAt (t : List Nat) (m : Nat) : Prop where
  all : ∀ j, j < m → endsUndo t j = true
  stop : endsUndo t m = false
theorem endsUndo_iff {t : List Nat} {j : Nat} : endsUndo t j = true ↔ 2 * j + 2 ≤ t.length ∧ t.getD j 0 = other (t.getD (t.length - 1 - j) 0) := by
  unfold endsUndo
  rw [Bool.and_eq_true, decide_eq_true_iff, beq_iff_eq]
theorem OffAt.le {t : List Nat} {m : Nat} (h : OffAt t m) : 2 * m ≤ t.length := by
  cases m with
  | zero => omega
  | succ m =>
    have q := (endsUndo_iff.mp (h.all m (Nat.lt_succ_self m))).1
    omega
theorem dropLast_getD {l : List Nat} {j d : Nat} (h : j < l.length - 1) : l.dropLast.getD j d = l.getD j d := by
  simp only [List.getD_eq_getElem?_getD, List.getElem?_dropLast]
  rw [if_pos h]
theorem endsUndo_succ {x : Nat} {r : List Nat} (hr : 1 ≤ r.length) (j : Nat) : endsUndo (x :: r) (j + 1) = endsUndo r.dropLast j := by
  have key : endsUndo (x :: r) (j + 1) = true ↔ endsUndo r.dropLast j = true := by
    rw [endsUndo_iff, endsUndo_iff, List.length_cons, List.length_dropLast]
    constructor
    · rintro ⟨h1, h2⟩
      refine ⟨by omega, ?_⟩
      rw [dropLast_getD (by omega), dropLast_getD (by omega)]
      have e1 : (x :: r).getD (j + 1) 0 = r.getD j 0 := rfl
      have e2 : r.length + 1 - 1 - (j + 1) = (r.length - 1 - 1 - j) + 1 := by omega
      rw [e1, e2] at h2
      exact h2
    · rintro ⟨h1, h2⟩
      refine ⟨by omega, ?_⟩
      rw [dropLast_getD (by omega), dropLast_getD (by omega)] at h2
      have e2 : r.length + 1 - 1 - (j + 1) = (r.length - 1 - 1 - j) + 1 := by omega
      rw [e2]
      exact h2
  cases h1 : endsUndo (x :: r) (j + 1) <;> cases h2 : endsUndo r.dropLast j <;> simp_all
theorem bared_zero (w : List Nat) : bared 0 w = ([], w) := rfl
theorem bared_cons (f x : Nat) (r : List Nat) {y : Nat} (hy : (x :: r).getLast? = some y) :
    bared (f + 1) (x :: r) = if 2 ≤ (x :: r).length ∧ y = other x then (x :: (bared f r.dropLast).1, (bared f r.dropLast).2) else ([], x :: r) := by
  rw [bared]
  simp only [hy]
theorem last_getD {x : Nat} {r : List Nat} {y : Nat} (hy : (x :: r).getLast? = some y) : (x :: r).getD ((x :: r).length - 1) 0 = y := by
  rw [List.getLast?_eq_getElem?] at hy
  rw [List.getD_eq_getElem?_getD, hy]
  rfl
/-- **the ends taken off** -/
theorem bared_off : ∀ {f : Nat} {t : List Nat} {m : Nat}, OffAt t m → t.length ≤ f → bared f t = (t.take m, (t.drop m).take (t.length - 2 * m))
  | 0, t, m, h, hf => by
    have e : t = [] := List.eq_nil_of_length_eq_zero (by omega)
    subst e
    have z := h.le
    have e : m = 0 := by rw [List.length_nil] at z; omega
    subst e
    rfl
  | f + 1, [], m, h, hf => by
    have z := h.le
    have e : m = 0 := by rw [List.length_nil] at z; omega
    subst e
    rfl
  | f + 1, x :: r, m, h, hf => by
    obtain ⟨y, hy⟩ : ∃ y, (x :: r).getLast? = some y := ⟨_, List.getLast?_eq_some_getLast (by simp)⟩
    rw [bared_cons f x r hy]
    have c0 : endsUndo (x :: r) 0 = true ↔ (2 ≤ (x :: r).length ∧ y = other x) := by
      rw [endsUndo_iff, Nat.sub_zero, last_getD hy]
      show (2 * 0 + 2 ≤ (x :: r).length ∧ x = other y) ↔ _
      constructor
      · rintro ⟨h1, h2⟩
        exact ⟨by omega, other_flip h2⟩
      · rintro ⟨h1, h2⟩
        exact ⟨by omega, other_flip h2⟩
    cases m with
    | zero =>
      have c : ¬ (2 ≤ (x :: r).length ∧ y = other x) := fun q => absurd (c0.mpr q) (by rw [h.stop]; exact Bool.false_ne_true)
      rw [if_neg c]
      simp
    | succ m =>
      have c := c0.mp (h.all 0 (Nat.succ_pos m))
      rw [if_pos c]
      have hr : 1 ≤ r.length := by
        have z := c.1
        rw [List.length_cons] at z
        omega
      have h' : OffAt r.dropLast m := ⟨fun j hj => by rw [← endsUndo_succ hr]; exact h.all _ (Nat.succ_lt_succ hj), by rw [← endsUndo_succ hr]; exact h.stop⟩
      have hle := h'.le
      rw [List.length_dropLast] at hle
      rw [bared_off h' (by rw [List.length_dropLast]; rw [List.length_cons] at hf; omega)]
      rw [List.length_dropLast, List.length_cons, List.take_succ_cons, List.drop_succ_cons]
      have t1 : r.dropLast.take m = r.take m := by
        rw [List.dropLast_eq_take, List.take_take, Nat.min_eq_left (by omega)]
      have t2 : (r.dropLast.drop m).take (r.length - 1 - 2 * m) = (r.drop m).take (r.length + 1 - 2 * (m + 1)) := by
        rw [List.dropLast_eq_take, List.drop_take, List.take_take]
        congr 1
        omega
      rw [t1, t2]
/-- the turns taken off behind are those in front, turned back -/
theorem off_back {t : List Nat} {m : Nat} (h : OffAt t m) : t.drop (t.length - m) = back (t.take m) := by
  have hle := h.le
  apply List.ext_getElem?
  intro i
  by_cases hi : i < m
  · have e := (endsUndo_iff.mp (h.all (m - 1 - i) (by omega))).2
    unfold back
    rw [List.getElem?_drop, List.getElem?_map, List.getElem?_reverse (by rw [List.length_take]; omega), List.length_take, Nat.min_eq_left (by omega), List.getElem?_take_of_lt (by omega)]
    have e1 : t.length - 1 - (m - 1 - i) = t.length - m + i := by omega
    rw [e1] at e
    have b1 : t.length - m + i < t.length := by omega
    have b2 : m - 1 - i < t.length := by omega
    rw [List.getD_eq_getElem?_getD, List.getD_eq_getElem?_getD, List.getElem?_eq_getElem b1, List.getElem?_eq_getElem b2] at e
    rw [List.getElem?_eq_getElem b1, List.getElem?_eq_getElem b2]
    have e' : t[m - 1 - i] = other t[t.length - m + i] := e
    show some _ = some _
    rw [e', other_other]
  · rw [List.getElem?_eq_none (by rw [List.length_drop]; omega), List.getElem?_eq_none (by unfold back; rw [List.length_map, List.length_reverse, List.length_take]; omega)]
theorem red_at : ∀ {t : List Nat} {j x y : Nat}, Red t → t[j]? = some x → t[j + 1]? = some y → y ≠ other x
  | [], j, x, y, _, h, _ => by simp at h
  | [a], 0, x, y, _, _, h => by simp at h
  | [a], j + 1, x, y, _, h, _ => by simp at h
  | a :: b :: r, 0, x, y, hr, h1, h2 => by
    simp at h1 h2
    subst h1
    subst h2
    exact hr.1
  | a :: b :: r, j + 1, x, y, hr, h1, h2 => red_at (t := b :: r) (j := j) hr.2 (by simpa using h1) (by simpa using h2)
/-- of a taut row that is not empty something is left -/
theorem off_some {t : List Nat} {m : Nat} (hr : Red t) (ht : t ≠ []) (h : OffAt t m) : 2 * m < t.length := by
  have hle := h.le
  have hp : 0 < t.length := List.length_pos_iff.mpr ht
  by_cases hm : 2 * m = t.length
  · have e := (endsUndo_iff.mp (h.all (m - 1) (by omega))).2
    have e1 : t.length - 1 - (m - 1) = m - 1 + 1 := by omega
    rw [e1] at e
    have b1 : m - 1 < t.length := by omega
    have b2 : m - 1 + 1 < t.length := by omega
    rw [List.getD_eq_getElem?_getD, List.getD_eq_getElem?_getD, List.getElem?_eq_getElem b1, List.getElem?_eq_getElem b2] at e
    exact absurd (other_flip (show t[m - 1] = other t[m - 1 + 1] from e)) (red_at hr (List.getElem?_eq_getElem b1) (List.getElem?_eq_getElem b2))
  · omega
/-- what is left of a cord between its ends -/
def core (t : List Nat) (m : Nat) : List Nat := (t.drop m).take (t.length - 2 * m)
theorem core_length {t : List Nat} {m : Nat} (h : 2 * m ≤ t.length) : (core t m).length = t.length - 2 * m := by
  unfold core
  rw [List.length_take, List.length_drop]
  omega
theorem bare_off {w : List Nat} {m : Nat} (h : OffAt (taut w) m) : bare w = ((taut w).take m, core (taut w) m) := bared_off h (taut_length w)

/-! ### the one form -/
def turning (c : List Nat) (i : Nat) : List Nat := c.drop i ++ c.take i
def better (a b : List Nat) : List Nat := if lessCord b a = true then b else a
def firstTurning (c : List Nat) : List Nat := (List.range c.length).foldl (fun a i => better a (turning c i)) c
theorem ring_off {w : List Nat} {m : Nat} (h : OffAt (taut w) m) : Vbcjai.ring w = firstTurning (core (taut w) m) := by
  unfold Vbcjai.ring
  rw [bare_off h]
  show (turnings _).foldl _ _ = _
  unfold turnings firstTurning
  rw [List.foldl_map]
  rfl
/-- a row within itself twice over -/
theorem twice_cut (c : List Nat) {i : Nat} (h : i ≤ c.length) : ((c ++ c).drop i).take c.length = turning c i := by
  unfold turning
  rw [List.drop_append_of_le_length h, List.take_append, List.take_of_length_le (by rw [List.length_drop]; omega), List.length_drop]
  congr 2
  omega

/-! ### the shortest part -/
def partOk (c : List Nat) (p : Nat) : Bool := c.length % p == 0 && (c == (List.replicate (c.length / p) (c.take p)).flatten)
/-- p is the least length of which the row is some times over -/
structure PartAt (c : List Nat) (p : Nat) : Prop where
  pos : 1 ≤ p
  le : p ≤ c.length
  least : ∀ q, 1 ≤ q → q < p → partOk c q = false
  ok : partOk c p = true
theorem partOk_whole {c : List Nat} (h : c ≠ []) : partOk c c.length = true := by
  have hp : 0 < c.length := List.length_pos_iff.mpr h
  unfold partOk
  rw [Nat.mod_self, Nat.div_self hp, List.take_length]
  simp
theorem find_least {p : Nat → Bool} : ∀ {n k : Nat}, k < n → p k = true → (∀ j, j < k → p j = false) → (List.range n).find? p = some k := by
  intro n k hk hp hl
  rw [List.find?_eq_some_iff_append]
  refine ⟨hp, List.range k, List.range' (k + 1) (n - k - 1), ?_, ?_⟩
  · have e : n = k + (1 + (n - k - 1)) := by omega
    conv => lhs; rw [e]
    rw [List.range_eq_range', List.range_eq_range', ← List.range'_append_1, Nat.zero_add]
    congr 1
    rw [Nat.add_comm 1, List.range'_succ]
  · intro a ha
    simp [hl a (List.mem_range.mp ha)]
theorem period_at {c : List Nat} {p : Nat} (h : PartAt c p) : period c = p := by
  unfold period
  have e : (List.range c.length).find? (fun i => c.length % (i + 1) == 0 && c == (List.replicate (c.length / (i + 1)) (c.take (i + 1))).flatten) = some (p - 1) := by
    have hp := h.pos
    have hle := h.le
    refine find_least (by omega) ?_ ?_
    · have q := h.ok
      unfold partOk at q
      rw [Nat.sub_add_cancel hp]
      exact q
    · intro j hj
      exact h.least (j + 1) (by omega) (by omega)
  rw [e]
  have hp := h.pos
  show p - 1 + 1 = p
  omega
theorem period_nil : period [] = 0 := rfl
theorem root_off {w : List Nat} {m p : Nat} (h : OffAt (taut w) m) (hp : PartAt (core (taut w) m) p) :
    Vbcjai.root w = ((taut w).take m ++ ((core (taut w) m).take p ++ (taut w).drop ((taut w).length - m)), (core (taut w) m).length / p) := by
  unfold Vbcjai.root
  rw [bare_off h]
  show (if period (core (taut w) m) = 0 then _ else _) = _
  rw [period_at hp, if_neg (by have := hp.pos; omega), off_back h]
theorem root_nil {w : List Nat} (h : taut w = []) : Vbcjai.root w = ([], 0) := by
  have o : OffAt (taut w) 0 := by
    rw [h]
    exact ⟨fun j hj => absurd hj (Nat.not_lt_zero j), rfl⟩
  unfold Vbcjai.root
  rw [bare_off o, h]
  rfl
end Fc
/-! Letting go: sets of fingers in order, the least ones, cords made for sets. -/
namespace Fc
open Vbcjai

/-! ### sets in order -/
def mu (a : Nat) : Nat := (bits a).length * 64 + a
theorem lessSet_mu {a b : Nat} (ha : a < 64) (hb : b < 64) : lessSet a b = decide (mu a < mu b) := by
  have h : ((bits a).length < (bits b).length ∨ ((bits a).length = (bits b).length ∧ a < b)) ↔ mu a < mu b := by
    unfold mu
    omega
  unfold lessSet
  by_cases c : mu a < mu b
  · rw [decide_eq_true c, decide_eq_true (h.mpr c)]
  · rw [decide_eq_false c, decide_eq_false (fun z => c (h.mp z))]
theorem lessSet_iff {a b : Nat} : lessSet a b = true ↔ ((bits a).length < (bits b).length ∨ ((bits a).length = (bits b).length ∧ a < b)) := by
  unfold lessSet
  exact decide_eq_true_iff
theorem lessSet_asymm {a b : Nat} (h : lessSet a b = true) : lessSet b a ≠ true := by
  rw [lessSet_iff] at h
  rw [Ne, lessSet_iff]
  omega
theorem lessSet_trans {a b c : Nat} (h : lessSet a b = true) (k : lessSet b c = true) : lessSet a c = true := by
  rw [lessSet_iff] at *
  omega
theorem lessSet_total {a b : Nat} (h : a ≠ b) (k : lessSet a b ≠ true) : lessSet b a = true := by
  rw [lessSet_iff]
  rw [Ne, lessSet_iff] at k
  omega
def Ord (l : List Nat) : Prop := l.Pairwise fun a b => lessSet a b = true
theorem insertBy_cons (x y : Nat) (r : List Nat) : insertBy x (y :: r) = if lessSet x y = true then x :: y :: r else y :: insertBy x r := rfl
theorem insertBy_perm (x : Nat) : ∀ l : List Nat, (insertBy x l).Perm (x :: l)
  | [] => .refl _
  | y :: r => by
    rw [insertBy_cons]
    by_cases c : lessSet x y = true
    · rw [if_pos c]
    · rw [if_neg c]
      exact ((insertBy_perm x r).cons y).trans (.swap x y r)
theorem insertBy_ord {x : Nat} : ∀ {l : List Nat}, Ord l → x ∉ l → Ord (insertBy x l)
  | [], _, _ => List.pairwise_singleton _ _
  | y :: r, h, n => by
    rw [insertBy_cons]
    have hy := List.pairwise_cons.mp h
    by_cases c : lessSet x y = true
    · rw [if_pos c]
      refine List.pairwise_cons.mpr ⟨fun z hz => ?_, h⟩
      rcases List.mem_cons.mp hz with e | hz
      · rw [e]; exact c
      · exact lessSet_trans c (hy.1 z hz)
    · rw [if_neg c]
      have ne : x ≠ y := fun e => n (e ▸ List.mem_cons_self)
      refine List.pairwise_cons.mpr ⟨fun z hz => ?_, insertBy_ord hy.2 fun q => n (List.mem_cons_of_mem _ q)⟩
      rcases List.mem_cons.mp ((insertBy_perm x r).mem_iff.mp hz) with e | hz
      · rw [e]; exact lessSet_total ne c
      · exact hy.1 z hz
theorem isort_perm : ∀ l : List Nat, (l.foldr insertBy []).Perm l
  | [] => .refl _
  | x :: r => (insertBy_perm x _).trans ((isort_perm r).cons x)
theorem isort_ord : ∀ {l : List Nat}, l.Nodup → Ord (l.foldr insertBy [])
  | [], _ => List.Pairwise.nil
  | x :: r, h => by
    have q := List.nodup_cons.mp h
    exact insertBy_ord (isort_ord q.2) fun z => q.1 ((isort_perm r).mem_iff.mp z)
/-- one order alone -/
theorem ord_one {l m : List Nat} (hl : Ord l) (hm : Ord m) (h : l.Perm m) : l = m :=
  h.eq_of_pairwise (fun _ _ _ _ a b => absurd b (lessSet_asymm a)) hl hm
/-- all sets, in order -/
def inOrder (n : Nat) : List Nat := (List.range (2 ^ n)).foldr insertBy []
theorem inOrder_perm (n : Nat) : (inOrder n).Perm (List.range (2 ^ n)) := isort_perm _
theorem inOrder_ord (n : Nat) : Ord (inOrder n) := isort_ord List.nodup_range

/-! ### the least sets -/
theorem two_pow_le {n : Nat} (hn : n ≤ 6) : 2 ^ n ≤ 64 := Nat.pow_le_pow_right (by decide) hn
theorem within_less : ∀ k, k < 64 → ∀ m, m < 64 → within k m = true → k ≠ m → lessSet k m = true := by decide +kernel
theorem within_iff {a b : Nat} : within a b = true ↔ ∀ i, i < 6 → a.testBit i = true → b.testBit i = true := by
  unfold within bits
  rw [List.all_eq_true]
  constructor
  · intro h i hi ht
    exact h i (List.mem_filter.mpr ⟨List.mem_range.mpr hi, ht⟩)
  · intro h i hi
    obtain ⟨h1, h2⟩ := List.mem_filter.mp hi
    exact h i (List.mem_range.mp h1) h2
theorem within_refl (a : Nat) : within a a = true := within_iff.mpr fun _ _ h => h
theorem within_trans {a b c : Nat} (h : within a b = true) (k : within b c = true) : within a c = true :=
  within_iff.mpr fun i hi t => within_iff.mp k i hi (within_iff.mp h i hi t)
/-- it falls with m, but with none of fewer within it -/
def isLeast (n : Nat) (w : List Nat) (m : Nat) : Bool := Vbcjai.falls m w && ((List.range (2 ^ n)).filter fun k => Vbcjai.falls k w).all fun k => !(within k m && k != m)
theorem leastSets_eq (n : Nat) (w : List Nat) : leastSets n w = ((List.range (2 ^ n)).filter (isLeast n w)).foldr insertBy [] := by
  show (((List.range (2 ^ n)).filter fun m => Vbcjai.falls m w).filter _).foldr insertBy [] = _
  rw [List.filter_filter]
  congr 2
  funext m
  unfold isLeast
  rw [Bool.and_comm]
theorem isLeast_iff {n : Nat} {w : List Nat} {m : Nat} : isLeast n w m = true ↔ Vbcjai.falls m w = true ∧ ∀ k, k < 2 ^ n → Vbcjai.falls k w = true → within k m = true → k = m := by
  unfold isLeast
  rw [Bool.and_eq_true, List.all_eq_true]
  constructor
  · rintro ⟨h1, h2⟩
    refine ⟨h1, fun k hk hf hw => ?_⟩
    have q := h2 k (List.mem_filter.mpr ⟨List.mem_range.mpr hk, hf⟩)
    rw [hw] at q
    simpa using q
  · rintro ⟨h1, h2⟩
    refine ⟨h1, fun k hk => ?_⟩
    obtain ⟨a, b⟩ := List.mem_filter.mp hk
    cases hw : within k m with
    | false => rfl
    | true => simp [h2 k (List.mem_range.mp a) b hw]
/-- within each set with which it falls there's a least one -/
theorem least_within {n : Nat} {w : List Nat} (hn : n ≤ 6) : ∀ (f m : Nat), mu m ≤ f → m < 2 ^ n → Vbcjai.falls m w = true → ∃ k, k < 2 ^ n ∧ isLeast n w k = true ∧ within k m = true := by
  intro f
  induction f with
  | zero =>
    intro m hm h1 h2
    have h64 := two_pow_le hn
    by_cases c : isLeast n w m = true
    · exact ⟨m, h1, c, within_refl m⟩
    · rw [isLeast_iff] at c
      have c' : ∃ k, k < 2 ^ n ∧ Vbcjai.falls k w = true ∧ within k m = true ∧ k ≠ m := by
        by_cases q : ∃ k, k < 2 ^ n ∧ Vbcjai.falls k w = true ∧ within k m = true ∧ k ≠ m
        · exact q
        · exact absurd ⟨h2, fun k a b d => Decidable.byContradiction fun e => q ⟨k, a, b, d, e⟩⟩ c
      obtain ⟨k, a, b, d, e⟩ := c'
      have l := within_less k (by omega) m (by omega) d e
      rw [lessSet_mu (by omega) (by omega)] at l
      have := of_decide_eq_true l
      omega
  | succ f ih =>
    intro m hm h1 h2
    have h64 := two_pow_le hn
    by_cases c : isLeast n w m = true
    · exact ⟨m, h1, c, within_refl m⟩
    · rw [isLeast_iff] at c
      have c' : ∃ k, k < 2 ^ n ∧ Vbcjai.falls k w = true ∧ within k m = true ∧ k ≠ m := by
        by_cases q : ∃ k, k < 2 ^ n ∧ Vbcjai.falls k w = true ∧ within k m = true ∧ k ≠ m
        · exact q
        · exact absurd ⟨h2, fun k a b d => Decidable.byContradiction fun e => q ⟨k, a, b, d, e⟩⟩ c
      obtain ⟨k, a, b, d, e⟩ := c'
      have l := within_less k (by omega) m (by omega) d e
      rw [lessSet_mu (by omega) (by omega)] at l
      have l' := of_decide_eq_true l
      obtain ⟨j, x, y, z⟩ := ih k (by omega) a b
      exact ⟨j, x, y, within_trans z d⟩
/-- one set gone through -/
def leastStep (w : List Nat) (found : List Nat) (m : Nat) : List Nat := if (!found.any fun k => within k m) = true ∧ Vbcjai.falls m w = true then found ++ [m] else found
theorem least_run {n : Nat} {w : List Nat} (hn : n ≤ 6) : ∀ (a b : List Nat), inOrder n = a ++ b → a.foldl (leastStep w) [] = a.filter (isLeast n w) := by
  intro a
  generalize hl : a.length = l
  induction l generalizing a with
  | zero => intro b _; rw [List.eq_nil_of_length_eq_zero hl]; rfl
  | succ l ih0 =>
    obtain ⟨a, m, rfl⟩ : ∃ a' m, a = a' ++ [m] := by
      rcases List.eq_nil_or_concat a with rfl | ⟨a', m, rfl⟩
      · cases hl
      · exact ⟨a', m, List.concat_eq_append⟩
    have ih := ih0 a (by simpa using hl)
    intro b e
    have e' : inOrder n = a ++ (m :: b) := by rw [e, List.append_assoc]; rfl
    have hm : m < 2 ^ n := List.mem_range.mp ((inOrder_perm n).mem_iff.mp (by rw [e']; simp))
    have h64 := two_pow_le hn
    have ho := inOrder_ord n
    unfold Ord at ho
    rw [e', List.pairwise_append] at ho
    rw [List.foldl_append, ih _ e', List.filter_append]
    show leastStep w (a.filter (isLeast n w)) m = _
    unfold leastStep
    by_cases c : isLeast n w m = true
    · rw [if_pos, List.filter_cons_of_pos c, List.filter_nil]
      refine ⟨?_, (isLeast_iff.mp c).1⟩
      rw [Bool.not_eq_true', List.any_eq_false]
      intro k hk hw
      obtain ⟨h1, h2⟩ := List.mem_filter.mp hk
      have hk2 : k < 2 ^ n := List.mem_range.mp ((inOrder_perm n).mem_iff.mp (by rw [e']; exact List.mem_append_left _ h1))
      have e2 := (isLeast_iff.mp c).2 k hk2 (isLeast_iff.mp h2).1 hw
      have l := ho.2.2 k h1 m List.mem_cons_self
      rw [e2] at l
      exact lessSet_asymm l l
    · rw [if_neg, List.filter_cons_of_neg c, List.filter_nil, List.append_nil]
      rintro ⟨h1, h2⟩
      rw [Bool.not_eq_true', List.any_eq_false] at h1
      obtain ⟨k, x, y, z⟩ := least_within hn (mu m) m (Nat.le_refl _) hm h2
      have ne : k ≠ m := fun q => c (q ▸ y)
      have hk : k ∈ a ++ (m :: b) := by
        rw [← e']
        exact (inOrder_perm n).mem_iff.mpr (List.mem_range.mpr x)
      have l := within_less k (by omega) m (by omega) z ne
      rcases List.mem_append.mp hk with q | q
      · exact h1 k (List.mem_filter.mpr ⟨q, y⟩) z
      · rcases List.mem_cons.mp q with q | q
        · exact ne q
        · exact lessSet_asymm l ((List.pairwise_cons.mp ho.2.1).1 k q)
/-- **the least sets** -/
theorem least_all {n : Nat} (hn : n ≤ 6) (w : List Nat) : (inOrder n).foldl (leastStep w) [] = leastSets n w := by
  rw [least_run hn (inOrder n) [] (by simp), leastSets_eq]
  refine ord_one ?_ (isort_ord (List.nodup_range.filter _)) ?_
  · exact (inOrder_ord n).filter _
  · exact ((inOrder_perm n).filter _).trans (isort_perm _).symm

/-! ### numbers and their bits -/
theorem bit_div (m i : Nat) : decide (m / 2 ^ i % 2 = 1) = m.testBit i := Nat.testBit_eq_decide_div_mod_eq.symm
theorem no_bit {m n i : Nat} (h : m < 2 ^ n) (hi : n ≤ i) : m.testBit i = false :=
  Nat.testBit_lt_two_pow (Nat.lt_of_lt_of_le h (Nat.pow_le_pow_right (by decide) hi))
theorem and_within {a b : Nat} (ha : a < 64) : decide (a &&& b = a) = within a b := by
  have h : a &&& b = a ↔ within a b = true := by
    rw [within_iff]
    constructor
    · intro e i _ ht
      rw [← e, Nat.testBit_and, Bool.and_eq_true] at ht
      exact ht.2
    · intro k
      apply Nat.eq_of_testBit_eq
      intro i
      rw [Nat.testBit_and]
      by_cases hi : i < 6
      · cases q : a.testBit i with
        | false => rfl
        | true => rw [k i hi q]; rfl
      · rw [no_bit (n := 6) ha (by omega)]
        rfl
  cases q : within a b with
  | true => exact decide_eq_true (h.mpr q)
  | false => exact decide_eq_false fun z => by rw [h.mp z] at q; cases q
theorem and_meets {m s : Nat} (hs : s < 64) : decide (m &&& s ≠ 0) = (bits s).any fun i => m.testBit i := by
  have h : m &&& s ≠ 0 ↔ ((bits s).any fun i => m.testBit i) = true := by
    rw [List.any_eq_true]
    constructor
    · intro e
      refine Decidable.byContradiction fun q => e ?_
      apply Nat.eq_of_testBit_eq
      intro i
      rw [Nat.testBit_and, Nat.zero_testBit]
      by_cases hi : i < 6
      · cases a : m.testBit i with
        | false => rfl
        | true =>
          cases b : s.testBit i with
          | false => rfl
          | true => exact absurd ⟨i, List.mem_filter.mpr ⟨List.mem_range.mpr hi, b⟩, a⟩ q
      · rw [no_bit (n := 6) hs (by omega), Bool.and_false]
    · rintro ⟨i, h1, h2⟩ e
      have z : (m &&& s).testBit i = false := by rw [e, Nat.zero_testBit]
      rw [Nat.testBit_and, h2, (List.mem_filter.mp h1).2] at z
      cases z
  cases q : (bits s).any fun i => m.testBit i with
  | true => exact decide_eq_true (h.mpr q)
  | false => exact decide_eq_false fun z => by rw [h.mp z] at q; cases q
theorem bits_few {n m : Nat} (hn : n ≤ 6) (hm : m < 2 ^ n) : (List.range n).filter (fun i => m.testBit i) = bits m := by
  unfold bits
  have e : 6 = n + (6 - n) := by omega
  rw [e, List.range_add, List.filter_append]
  have z : ((List.range (6 - n)).map (n + ·)).filter (fun i => m.testBit i) = [] := by
    rw [List.filter_eq_nil_iff]
    intro i hi
    obtain ⟨j, _, rfl⟩ := List.mem_map.mp hi
    rw [no_bit hm (Nat.le_add_right _ _)]
    exact Bool.false_ne_true
  rw [z, List.append_nil]
theorem bits_some : ∀ m, m < 64 → 1 ≤ m → bits m ≠ [] := by decide +kernel
theorem bits_le (m : Nat) : (bits m).length ≤ 6 := by
  have h := List.length_filter_le (fun i => m.testBit i) (List.range 6)
  rw [List.length_range] at h
  exact h

/-! ### cords made for sets -/
def rowStep (row : List Nat) (t : Nat) : List Nat := row ++ [t] ++ back row ++ [other t]
def rowOf : List Nat → List Nat
  | [] => []
  | t :: r => r.foldl rowStep [t]
theorem rowStep_is (row : List Nat) (j : Nat) : rowStep row (2 * j) = commutator row [2 * j] := by
  unfold rowStep commutator
  have e : back [2 * j] = [other (2 * j)] := rfl
  rw [e]
  simp [List.append_assoc]
theorem rowOf_is (l : List Nat) : rowOf (l.map fun i => 2 * i) = anyOf l := by
  cases l with
  | nil => rfl
  | cons i r =>
    show ((r.map fun i => 2 * i).foldl rowStep [2 * i]) = r.foldl (fun w j => commutator w [2 * j]) [2 * i]
    rw [List.foldl_map]
    congr 1
    funext w j
    exact rowStep_is w j
theorem rowStep_length (row : List Nat) (t : Nat) : (rowStep row t).length = 2 * row.length + 2 := by
  unfold rowStep back
  simp only [List.length_append, List.length_map, List.length_reverse, List.length_cons, List.length_nil]
  omega
theorem rows_length : ∀ (r row : List Nat), (r.foldl rowStep row).length + 2 = 2 ^ r.length * (row.length + 2)
  | [], row => by simp
  | t :: r, row => by
    rw [List.foldl_cons, rows_length r, rowStep_length, List.length_cons, Nat.pow_succ, Nat.mul_assoc]
    rfl
theorem rows_short {r row : List Nat} (h : r.length ≤ 6) (k : row.length = 1) : (r.foldl rowStep row).length ≤ 190 := by
  have e := rows_length r row
  have z : 2 ^ r.length ≤ 2 ^ 6 := Nat.pow_le_pow_right (by decide) h
  rw [k] at e
  have : (2 : Nat) ^ 6 = 64 := by decide
  omega
theorem made_is (l : List Nat) : made l = taut (l.flatMap fun m => rowOf ((bits m).map fun i => 2 * i)) := by
  unfold made
  congr 2
  funext m
  exact (rowOf_is _).symm
end Fc
/-! Texts read: the first fault, the turns, the pieces between semicolons. -/
namespace Fc
open Vbcjai

theorem turnOf_lt {n c x : Nat} (h : turnOf n c = some x) : x < 2 * n := by
  unfold turnOf at h
  by_cases a : 97 ≤ c ∧ c < 97 + n
  · rw [if_pos a] at h
    have e := Option.some.inj h
    omega
  · rw [if_neg a] at h
    by_cases b : 65 ≤ c ∧ c < 65 + n
    · rw [if_pos b] at h
      have e := Option.some.inj h
      omega
    · rw [if_neg b] at h; cases h
theorem turnOf_semi {n : Nat} (hn : n ≤ 6) : turnOf n 59 = none := by
  unfold turnOf
  rw [if_neg (by omega), if_neg (by omega)]
/-- the turn of a byte that is a letter -/
def turnAt (n c : Nat) : Nat := (turnOf n c).getD 0
/-- the place of the first fault -/
def faultAt (n : Nat) (also : List Nat) (t : List Nat) : Option Nat := t.findIdx? fun c => !also.contains c && (turnOf n c).isNone
theorem cordFrom_is (n : Nat) : ∀ (t : List Nat) (p : Nat), cordFrom n p t = match faultAt n [] t with
    | some q => .error (p + q)
    | none => .ok (t.map (turnAt n))
  | [], p => rfl
  | c :: r, p => by
    rw [cordFrom]
    unfold faultAt
    rw [List.findIdx?_cons]
    cases h : turnOf n c with
    | none => rfl
    | some x =>
      have ih := cordFrom_is n r (p + 1)
      unfold faultAt at ih
      simp only [List.contains_nil, Bool.not_false, Bool.true_and] at ih ⊢
      have e : ((some x : Option Nat).isNone = true) = False := by simp
      simp only [e, if_false]
      rw [ih]
      cases q : List.findIdx? (fun c => (turnOf n c).isNone) r with
      | none =>
        show Except.ok (x :: r.map (turnAt n)) = Except.ok (turnAt n c :: r.map (turnAt n))
        unfold turnAt
        rw [h]
        rfl
      | some k =>
        show Except.error (p + 1 + k) = Except.error (p + (k + 1))
        congr 1
        omega
theorem readCord_is (n : Nat) (t : List Nat) : readCord n t = match faultAt n [] t with
    | some q => .error q
    | none => .ok (t.map (turnAt n)) := by
  unfold readCord
  rw [cordFrom_is]
  cases faultAt n [] t with
  | none => rfl
  | some q => show Except.error (0 + q) = Except.error q; rw [Nat.zero_add]
theorem turnAt_lt {n : Nat} {also t : List Nat} (h : faultAt n also t = none) {c : Nat} (hc : c ∈ t) (ha : also.contains c = false) : turnAt n c < 2 * n := by
  unfold faultAt at h
  rw [List.findIdx?_eq_none_iff] at h
  have q := h c hc
  rw [ha] at q
  unfold turnAt
  cases k : turnOf n c with
  | none => rw [k] at q; cases q
  | some x => exact turnOf_lt k
theorem read_lt {n : Nat} {t w : List Nat} (h : readCord n t = .ok w) : (∀ x ∈ w, x < 2 * n) ∧ w.length = t.length := by
  rw [readCord_is] at h
  cases q : faultAt n [] t with
  | some k => rw [q] at h; cases h
  | none =>
    rw [q] at h
    have e : t.map (turnAt n) = w := by injection h
    subst e
    refine ⟨fun x hx => ?_, by simp⟩
    obtain ⟨c, hc, rfl⟩ := List.mem_map.mp hx
    exact turnAt_lt q hc rfl

/-! ### pieces -/
theorem parted_ne (c : Nat) : ∀ t : List Nat, parted c t ≠ []
  | [] => by simp [parted]
  | x :: r => by
    rw [parted]
    split
    · simp
    · split <;> simp
theorem parted_cons (c x : Nat) (r : List Nat) : ∃ p q, parted c r = p :: q ∧ parted c (x :: r) = if x = c then [] :: p :: q else (x :: p) :: q := by
  cases h : parted c r with
  | nil => exact absurd h (parted_ne c r)
  | cons p q =>
    refine ⟨p, q, rfl, ?_⟩
    rw [parted, h]
/-- the pieces one builds byte by byte -/
def pieceStep (n : Nat) (cs : List (List Nat)) (b : Nat) : List (List Nat) :=
  if b = 59 then cs ++ [[]] else cs.dropLast ++ [cs.getLastD [] ++ [turnAt n b]]
theorem piece_run (n : Nat) : ∀ (t : List Nat) (a : List (List Nat)) (l : List Nat), t.foldl (pieceStep n) (a ++ [l]) = a ++ (match (parted 59 t).map (List.map (turnAt n)) with
    | [] => [l]
    | p :: q => (l ++ p) :: q)
  | [], a, l => by simp [parted]
  | x :: r, a, l => by
    obtain ⟨p, q, e1, e2⟩ := parted_cons 59 x r
    rw [List.foldl_cons, e2]
    by_cases c : x = 59
    · rw [if_pos c]
      have e : pieceStep n (a ++ [l]) x = (a ++ [l]) ++ [[]] := if_pos c
      rw [e, piece_run n r, e1]
      simp
    · rw [if_neg c]
      have e : pieceStep n (a ++ [l]) x = a ++ [l ++ [turnAt n x]] := by
        unfold pieceStep
        rw [if_neg c]
        simp
      rw [e, piece_run n r, e1]
      simp
theorem pieces (n : Nat) (t : List Nat) : t.foldl (pieceStep n) [[]] = (parted 59 t).map (List.map (turnAt n)) := by
  have h := piece_run n t [] []
  rw [List.nil_append] at h
  rw [h]
  cases e : parted 59 t with
  | nil => exact absurd e (parted_ne 59 t)
  | cons p q => rfl
theorem pieceStep_ne {n : Nat} {cs : List (List Nat)} {b : Nat} : pieceStep n cs b ≠ [] := by
  unfold pieceStep
  split <;> simp
/-- together: so many turns and pieces as bytes -/
def total (cs : List (List Nat)) : Nat := (cs.map List.length).foldr (fun a b => a + b) 0
theorem total_nil : total [] = 0 := rfl
theorem total_cons (c : List Nat) (cs : List (List Nat)) : total (c :: cs) = c.length + total cs := rfl
theorem total_append (a b : List (List Nat)) : total (a ++ b) = total a + total b := by
  induction a with
  | nil => simp [total_nil]
  | cons c a ih => rw [List.cons_append, total_cons, total_cons, ih]; omega
theorem cordsFrom_is {n : Nat} (hn : n ≤ 6) : ∀ (t : List Nat) (p : Nat), cordsFrom n p (parted 59 t) = match faultAt n [59] t with
    | some q => .error (p + q)
    | none => .ok ((parted 59 t).map (List.map (turnAt n)))
  | [], p => rfl
  | x :: r, p => by
    obtain ⟨h, q, e1, e2⟩ := parted_cons 59 x r
    rw [e2]
    have ih := fun p => cordsFrom_is hn r p
    rw [e1] at ih
    by_cases c : x = 59
    · rw [if_pos c, cordsFrom, cordFrom]
      simp only [List.length_nil, Nat.add_zero]
      rw [ih]
      unfold faultAt
      rw [List.findIdx?_cons]
      have z : (![59].contains x && (turnOf n x).isNone) = false := by rw [c]; rfl
      rw [z]
      cases k : List.findIdx? (fun c => ![59].contains c && (turnOf n c).isNone) r with
      | none => simp
      | some k => simp; omega
    · rw [if_neg c]
      have z : [59].contains x = false := by simpa using c
      unfold faultAt
      rw [List.findIdx?_cons, z]
      simp only [Bool.not_false, Bool.true_and]
      rw [cordsFrom, cordFrom]
      cases hx : turnOf n x with
      | none => simp
      | some y =>
        have ihp := ih (p + 1)
        rw [cordsFrom] at ihp
        simp only [Option.isNone_some, Bool.false_eq_true, if_false]
        have e3 : turnAt n x = y := by unfold turnAt; rw [hx]; rfl
        cases hc : cordFrom n (p + 1) h with
        | error k =>
          rw [hc] at ihp
          simp only at ihp ⊢
          unfold faultAt at ihp
          cases k2 : List.findIdx? (fun c => ![59].contains c && (turnOf n c).isNone) r with
          | none => rw [k2] at ihp; simp at ihp
          | some k3 =>
            rw [k2] at ihp
            simp at ihp ⊢
            omega
        | ok w =>
          rw [hc] at ihp
          simp only [List.length_cons] at ihp ⊢
          rw [show p + (h.length + 1) + 1 = p + 1 + h.length + 1 by omega]
          unfold faultAt at ihp
          cases hq : cordsFrom n (p + 1 + h.length + 1) q with
          | error k =>
            rw [hq] at ihp
            simp only at ihp ⊢
            cases k2 : List.findIdx? (fun c => ![59].contains c && (turnOf n c).isNone) r with
            | none => rw [k2] at ihp; simp at ihp
            | some k3 =>
              rw [k2] at ihp
              simp at ihp ⊢
              omega
          | ok l =>
            rw [hq] at ihp
            simp only at ihp ⊢
            cases k2 : List.findIdx? (fun c => ![59].contains c && (turnOf n c).isNone) r with
            | none =>
              rw [k2] at ihp
              simp at ihp ⊢
              refine ⟨⟨e3.symm, ihp.1⟩, ihp.2⟩
            | some k3 =>
              rw [k2] at ihp
              simp at ihp
theorem readCords_is {n : Nat} (hn : n ≤ 6) (t : List Nat) : readCords n t = match faultAt n [59] t with
    | some q => .error q
    | none => .ok ((parted 59 t).map (List.map (turnAt n))) := by
  unfold readCords
  rw [cordsFrom_is hn]
  cases faultAt n [59] t with
  | none => rfl
  | some q => show Except.error (0 + q) = Except.error q; rw [Nat.zero_add]
theorem parted_mem {c x : Nat} : ∀ {t p : List Nat}, p ∈ parted c t → x ∈ p → x ∈ t ∧ x ≠ c
  | [], p, hp, hx => by
    simp [parted] at hp
    rw [hp] at hx
    cases hx
  | y :: r, p, hp, hx => by
    obtain ⟨h, q, e1, e2⟩ := parted_cons c y r
    rw [e2] at hp
    by_cases k : y = c
    · rw [if_pos k] at hp
      rcases List.mem_cons.mp hp with e | hp
      · rw [e] at hx; cases hx
      · have z := parted_mem (t := r) (by rw [e1]; exact hp) hx
        exact ⟨List.mem_cons_of_mem _ z.1, z.2⟩
    · rw [if_neg k] at hp
      rcases List.mem_cons.mp hp with e | hp
      · rw [e] at hx
        rcases List.mem_cons.mp hx with e | hx
        · rw [e]; exact ⟨List.mem_cons_self, k⟩
        · have z := parted_mem (t := r) (p := h) (by rw [e1]; exact List.mem_cons_self) hx
          exact ⟨List.mem_cons_of_mem _ z.1, z.2⟩
      · have z := parted_mem (t := r) (by rw [e1]; exact List.mem_cons_of_mem _ hp) hx
        exact ⟨List.mem_cons_of_mem _ z.1, z.2⟩
theorem pieces_lt {n : Nat} {t : List Nat} (h : faultAt n [59] t = none) : ∀ w ∈ (parted 59 t).map (List.map (turnAt n)), ∀ x ∈ w, x < 2 * n := by
  intro w hw x hx
  obtain ⟨p, hp, rfl⟩ := List.mem_map.mp hw
  obtain ⟨c, hc, rfl⟩ := List.mem_map.mp hx
  have z := parted_mem hp hc
  exact turnAt_lt h z.1 (by simpa using z.2)
/-- how many pieces, how many turns: no more than bytes -/
theorem parted_size (c : Nat) : ∀ t : List Nat, (parted c t).length + total (parted c t) = t.length + 1
  | [] => rfl
  | x :: r => by
    obtain ⟨h, q, e1, e2⟩ := parted_cons c x r
    have ih := parted_size c r
    rw [e1] at ih
    rw [e2]
    by_cases k : x = c
    · rw [if_pos k]
      simp only [List.length_cons, total_cons, List.length_nil] at ih ⊢
      omega
    · rw [if_neg k]
      simp only [List.length_cons, total_cons] at ih ⊢
      omega
theorem total_map (f : Nat → Nat) : ∀ cs : List (List Nat), total (cs.map (List.map f)) = total cs
  | [] => rfl
  | c :: cs => by rw [List.map_cons, total_cons, total_cons, total_map f cs, List.length_map]
end Fc
/-! Folding a graph: whatever clash is taken, the same knots become one. -/
namespace Fc

/-- a thread: from a knot, by a finger, to a knot -/
abbrev Tri := Nat × Nat × Nat
/-- knots that have to be one -/
inductive Eqv (E : List Tri) : Nat → Nat → Prop
  | refl (a : Nat) : Eqv E a a
  | symm {a b : Nat} : Eqv E a b → Eqv E b a
  | trans {a b c : Nat} : Eqv E a b → Eqv E b c → Eqv E a c
  | out {a a' b b' f : Nat} : (a, f, b) ∈ E → (a', f, b') ∈ E → Eqv E a a' → Eqv E b b'
  | inn {a a' b b' f : Nat} : (a, f, b) ∈ E → (a', f, b') ∈ E → Eqv E b b' → Eqv E a a'
/-- carried over a map of graphs -/
theorem Eqv.map {E E' : List Tri} {h : Nat → Nat} (hom : ∀ a f b, (a, f, b) ∈ E → (h a, f, h b) ∈ E') {a b : Nat} (q : Eqv E a b) : Eqv E' (h a) (h b) := by
  induction q with
  | refl a => exact .refl _
  | symm _ ih => exact ih.symm
  | trans _ _ i1 i2 => exact i1.trans i2
  | out h1 h2 _ ih => exact .out (hom _ _ _ h1) (hom _ _ _ h2) ih
  | inn h1 h2 _ ih => exact .inn (hom _ _ _ h1) (hom _ _ _ h2) ih
/-- two knots that clash in T -/
def Clash (T : List Tri) (x y : Nat) : Prop := x ≠ y ∧ ((∃ u f, (u, f, x) ∈ T ∧ (u, f, y) ∈ T) ∨ ∃ v f, (x, f, v) ∈ T ∧ (y, f, v) ∈ T)
theorem Clash.symm {T : List Tri} {x y : Nat} (h : Clash T x y) : Clash T y x := by
  obtain ⟨ne, h⟩ := h
  refine ⟨ne.symm, ?_⟩
  rcases h with ⟨u, f, a, b⟩ | ⟨u, f, a, b⟩
  · exact .inl ⟨u, f, b, a⟩
  · exact .inr ⟨u, f, b, a⟩
def NoClash (T : List Tri) : Prop := ∀ x y, ¬ Clash T x y
theorem NoClash.out {T : List Tri} (h : NoClash T) {u f x y : Nat} (a : (u, f, x) ∈ T) (b : (u, f, y) ∈ T) : x = y :=
  Decidable.byContradiction fun ne => h x y ⟨ne, .inl ⟨u, f, a, b⟩⟩
theorem NoClash.inn {T : List Tri} (h : NoClash T) {v f x y : Nat} (a : (x, f, v) ∈ T) (b : (y, f, v) ∈ T) : x = y :=
  Decidable.byContradiction fun ne => h x y ⟨ne, .inr ⟨v, f, a, b⟩⟩
/-- T is E with each knot a put at r a -/
structure Col (E : List Tri) (r : Nat → Nat) (T : List Tri) : Prop where
  mem : ∀ u f v, (u, f, v) ∈ T ↔ ∃ a b, (a, f, b) ∈ E ∧ r a = u ∧ r b = v
  eqv : ∀ a, Eqv E a (r a)
  le : ∀ a, r a ≤ a
  idem : ∀ a, r (r a) = r a
theorem Col.start {E T : List Tri} (h : ∀ e, e ∈ T ↔ e ∈ E) : Col E id T where
  mem := fun u f v => by
    rw [h]
    exact ⟨fun q => ⟨u, v, q, rfl, rfl⟩, fun ⟨a, b, q, e1, e2⟩ => by cases e1; cases e2; exact q⟩
  eqv := fun a => .refl a
  le := fun a => Nat.le_refl a
  idem := fun _ => rfl
theorem Col.zero {E T : List Tri} {r : Nat → Nat} (c : Col E r T) : r 0 = 0 := Nat.le_zero.mp (c.le 0)
theorem Col.of_eq {E T : List Tri} {r : Nat → Nat} (c : Col E r T) {a b : Nat} (h : r a = r b) : Eqv E a b := (c.eqv a).trans (h ▸ (c.eqv b).symm)
theorem Col.clash {E T : List Tri} {r : Nat → Nat} (c : Col E r T) {x y : Nat} (h : Clash T x y) : Eqv E x y ∧ r x = x ∧ r y = y := by
  obtain ⟨_, ⟨u, f, a, b⟩ | ⟨v, f, a, b⟩⟩ := h
  · obtain ⟨p, q, e1, rfl, rfl⟩ := (c.mem _ _ _).mp a
    obtain ⟨p', q', e2, h3, rfl⟩ := (c.mem _ _ _).mp b
    exact ⟨((c.eqv q).symm.trans (.out e1 e2 (c.of_eq h3.symm))).trans (c.eqv q'), c.idem _, c.idem _⟩
  · obtain ⟨p, q, e1, rfl, rfl⟩ := (c.mem _ _ _).mp a
    obtain ⟨p', q', e2, rfl, h3⟩ := (c.mem _ _ _).mp b
    exact ⟨((c.eqv p).symm.trans (.inn e1 e2 (c.of_eq h3.symm))).trans (c.eqv p'), c.idem _, c.idem _⟩
/-- one knot put for another -/
def put (lo hi x : Nat) : Nat := if x = hi then lo else x
/-- one step: the greater of two that clash is put at the lesser -/
theorem Col.step {E T T' : List Tri} {r : Nat → Nat} (c : Col E r T) {lo hi : Nat} (h : Clash T lo hi) (hl : lo < hi)
    (hT : ∀ u f v, (u, f, v) ∈ T' ↔ ∃ a b, (a, f, b) ∈ T ∧ put lo hi a = u ∧ put lo hi b = v) : Col E (fun a => put lo hi (r a)) T' := by
  obtain ⟨q, r1, r2⟩ := c.clash h
  refine ⟨fun u f v => ?_, fun a => ?_, fun a => ?_, fun a => ?_⟩
  · rw [hT]
    constructor
    · rintro ⟨a, b, m, e1, e2⟩
      obtain ⟨p, p', m', rfl, rfl⟩ := (c.mem _ _ _).mp m
      exact ⟨p, p', m', e1, e2⟩
    · rintro ⟨p, p', m', e1, e2⟩
      exact ⟨r p, r p', (c.mem _ _ _).mpr ⟨p, p', m', rfl, rfl⟩, e1, e2⟩
  · unfold put
    by_cases e : r a = hi
    · rw [if_pos e]
      exact (show Eqv E a hi from e ▸ c.eqv a).trans q.symm
    · rw [if_neg e]
      exact c.eqv a
  · unfold put
    have := c.le a
    by_cases e : r a = hi
    · rw [if_pos e]; omega
    · rw [if_neg e]; exact this
  · unfold put
    by_cases e : r a = hi
    · rw [if_pos e, r1, if_neg (by omega)]
    · rw [if_neg e, c.idem, if_neg e]
/-- where nothing clashes any more, just those that have to be one are one -/
theorem Col.done {E T : List Tri} {r : Nat → Nat} (c : Col E r T) (n : NoClash T) {a b : Nat} (h : Eqv E a b) : r a = r b := by
  induction h with
  | refl a => rfl
  | symm _ ih => exact ih.symm
  | trans _ _ i1 i2 => exact i1.trans i2
  | out h1 h2 _ ih =>
    rename_i a a' b b' f _
    exact n.out ((c.mem _ _ _).mpr ⟨_, _, h1, rfl, rfl⟩) ((c.mem _ _ _).mpr ⟨_, _, h2, ih.symm, rfl⟩)
  | inn h1 h2 _ ih =>
    exact n.inn ((c.mem _ _ _).mpr ⟨_, _, h1, rfl, rfl⟩) ((c.mem _ _ _).mpr ⟨_, _, h2, rfl, ih.symm⟩)

/-! ### each step takes a knot away -/
def fixedBelow (K : Nat) (r : Nat → Nat) : Nat := ((List.range K).filter fun a => decide (r a = a)).length
theorem fixed_le (K : Nat) (r : Nat → Nat) : fixedBelow K r ≤ K := by
  have h := List.length_filter_le (fun a => decide (r a = a)) (List.range K)
  rw [List.length_range] at h
  exact h
theorem fixed_pos {K : Nat} {r : Nat → Nat} (hK : 0 < K) (h0 : r 0 = 0) : 0 < fixedBelow K r :=
  List.length_pos_of_mem (List.mem_filter.mpr ⟨List.mem_range.mpr hK, decide_eq_true h0⟩)
theorem filter_lt {p q : Nat → Bool} : ∀ {l : List Nat} {x : Nat}, (∀ a ∈ l, q a = true → p a = true) → x ∈ l → p x = true → q x = false → (l.filter q).length < (l.filter p).length
  | [], x, _, h, _, _ => absurd h (by simp)
  | a :: l, x, hl, hx, px, qx => by
    have sub : (l.filter q).length ≤ (l.filter p).length := by
      clear hx px qx
      induction l with
      | nil => exact Nat.le_refl _
      | cons b l ih =>
        have i := ih fun c hc => hl c (by
          rcases List.mem_cons.mp hc with e | hc
          · rw [e]; exact List.mem_cons_self
          · exact List.mem_cons_of_mem _ (List.mem_cons_of_mem _ hc))
        have hb := hl b (by simp)
        cases e1 : q b with
        | false =>
          rw [List.filter_cons_of_neg (by simp [e1])]
          cases e2 : p b with
          | false => rw [List.filter_cons_of_neg (by simp [e2])]; exact i
          | true => rw [List.filter_cons_of_pos e2, List.length_cons]; omega
        | true =>
          rw [List.filter_cons_of_pos e1, List.filter_cons_of_pos (hb e1), List.length_cons, List.length_cons]
          omega
    rcases List.mem_cons.mp hx with e | hx
    · subst e
      rw [List.filter_cons_of_pos px, List.filter_cons_of_neg (by simp [qx]), List.length_cons]
      omega
    · have ih := filter_lt (l := l) (fun c hc => hl c (List.mem_cons_of_mem _ hc)) hx px qx
      have ha := hl a List.mem_cons_self
      cases e1 : q a with
      | false =>
        rw [List.filter_cons_of_neg (by simp [e1])]
        cases e2 : p a with
        | false => rw [List.filter_cons_of_neg (by simp [e2])]; exact ih
        | true => rw [List.filter_cons_of_pos e2, List.length_cons]; omega
      | true =>
        rw [List.filter_cons_of_pos e1, List.filter_cons_of_pos (ha e1), List.length_cons, List.length_cons]
        omega
theorem fixed_step {E T : List Tri} {r : Nat → Nat} {K lo hi : Nat} (c : Col E r T) (h : Clash T lo hi) (hl : lo < hi) (hK : hi < K) :
    fixedBelow K (fun a => put lo hi (r a)) < fixedBelow K r := by
  obtain ⟨_, r1, r2⟩ := c.clash h
  refine filter_lt (x := hi) (fun a _ q => ?_) (List.mem_range.mpr hK) (decide_eq_true r2) ?_
  · have q' : put lo hi (r a) = a := of_decide_eq_true q
    unfold put at q'
    refine decide_eq_true ?_
    by_cases e : r a = hi
    · rw [if_pos e] at q'
      have := c.le a
      omega
    · rw [if_neg e] at q'
      exact q'
  · refine decide_eq_false ?_
    show ¬ put lo hi (r hi) = hi
    unfold put
    rw [r2, if_pos rfl]
    omega

/-! ### two graphs that are one but for the knots' names -/
/-- E' is E by other names -/
structure Ren (E E' : List Tri) (p q : Nat → Nat) : Prop where
  mem : ∀ u f v, (u, f, v) ∈ E' ↔ ∃ a b, (a, f, b) ∈ E ∧ p a = u ∧ p b = v
  back : ∀ a f b, (a, f, b) ∈ E → q (p a) = a ∧ q (p b) = b
  zero : p 0 = 0
  zero' : q 0 = 0
theorem Ren.hom {E E' : List Tri} {p q : Nat → Nat} (h : Ren E E' p q) : ∀ a f b, (a, f, b) ∈ E → (p a, f, p b) ∈ E' := fun a f b m => (h.mem _ _ _).mpr ⟨a, b, m, rfl, rfl⟩
theorem Ren.hom' {E E' : List Tri} {p q : Nat → Nat} (h : Ren E E' p q) : ∀ a f b, (a, f, b) ∈ E' → (q a, f, q b) ∈ E := fun a f b m => by
  obtain ⟨x, y, k, rfl, rfl⟩ := (h.mem _ _ _).mp m
  obtain ⟨e1, e2⟩ := h.back _ _ _ k
  rw [e1, e2]
  exact k
/-- **folded they're one but for names, too** -/
theorem Ren.folded {E E' T T' : List Tri} {p q r r' : Nat → Nat} (h : Ren E E' p q) (c : Col E r T) (c' : Col E' r' T') (n : NoClash T) (n' : NoClash T') : Ren T T' (fun u => r' (p u)) (fun u => r (q u)) := by
  have go : ∀ a, r' (p (r a)) = r' (p a) := fun a => (c'.done n' ((c.eqv a).map h.hom)).symm
  have go' : ∀ a, r (q (r' a)) = r (q a) := fun a => (c.done n ((c'.eqv a).map h.hom')).symm
  refine ⟨fun u f v => ?_, fun a f b m => ?_, ?_, ?_⟩
  · rw [c'.mem]
    constructor
    · rintro ⟨a, b, m, e1, e2⟩
      obtain ⟨x, y, k, rfl, rfl⟩ := (h.mem _ _ _).mp m
      exact ⟨r x, r y, (c.mem _ _ _).mpr ⟨x, y, k, rfl, rfl⟩, (go x).trans e1, (go y).trans e2⟩
    · rintro ⟨a, b, m, e1, e2⟩
      obtain ⟨x, y, k, rfl, rfl⟩ := (c.mem _ _ _).mp m
      exact ⟨p x, p y, h.hom _ _ _ k, (go x).symm.trans e1, (go y).symm.trans e2⟩
  · obtain ⟨x, y, k, rfl, rfl⟩ := (c.mem _ _ _).mp m
    obtain ⟨e1, e2⟩ := h.back _ _ _ k
    refine ⟨?_, ?_⟩
    · show r (q (r' (p (r x)))) = r x
      rw [go, go', e1]
    · show r (q (r' (p (r y)))) = r y
      rw [go, go', e2]
  · show r' (p 0) = 0
    rw [h.zero, c'.zero]
  · show r (q 0) = 0
    rw [h.zero', c.zero]
end Fc
/-! The ways over a graph: knots as they're found, from each the turns in order. -/
namespace Fc
open Vbcjai

theorem nodup_le : ∀ {a b : List Nat}, a.Nodup → (∀ x ∈ a, x ∈ b) → a.length ≤ b.length
  | [], _, _, _ => Nat.zero_le _
  | x :: a, b, h, s => by
    have q := List.nodup_cons.mp h
    have hx := s x List.mem_cons_self
    have i := nodup_le (a := a) (b := b.erase x) q.2 fun y hy => (List.mem_erase_of_ne fun (e : y = x) => q.1 (by rw [← e]; exact hy)).mpr (s y (List.mem_cons_of_mem _ hy))
    rw [List.length_erase_of_mem hx] at i
    have p := List.length_pos_of_mem hx
    rw [List.length_cons]
    omega

/-! ### where a turn leads -/
def stepT (T : List Tri) (u x : Nat) : Option Nat :=
  if x % 2 = 0 then (T.find? fun e => e.1 == u && e.2.1 == x / 2).map fun e => e.2.2 else (T.find? fun e => e.2.2 == u && e.2.1 == x / 2).map fun e => e.1
def Leads (T : List Tri) (u x v : Nat) : Prop := if x % 2 = 0 then (u, x / 2, v) ∈ T else (v, x / 2, u) ∈ T
theorem find_of {T : List Tri} {p : Tri → Bool} {e : Tri} (he : e ∈ T) (hp : p e = true) (one : ∀ a ∈ T, p a = true → a = e) : T.find? p = some e := by
  cases h : T.find? p with
  | none => exact absurd hp (List.find?_eq_none.mp h e he)
  | some a => rw [one a (List.mem_of_find?_eq_some h) (List.find?_some h)]
theorem stepT_iff {T : List Tri} (n : NoClash T) {u x v : Nat} : stepT T u x = some v ↔ Leads T u x v := by
  unfold stepT Leads
  by_cases c : x % 2 = 0
  · rw [if_pos c, if_pos c]
    constructor
    · intro h
      obtain ⟨e, he, rfl⟩ := Option.map_eq_some_iff.mp h
      have m := List.mem_of_find?_eq_some he
      have p := List.find?_some he
      rw [Bool.and_eq_true, beq_iff_eq, beq_iff_eq] at p
      obtain ⟨a, f, b⟩ := e
      obtain ⟨rfl, rfl⟩ := p
      exact m
    · intro h
      rw [find_of (e := (u, x / 2, v)) h (by simp) ?_]
      · rfl
      · rintro ⟨a, f, b⟩ m p
        simp only [Bool.and_eq_true, beq_iff_eq] at p
        obtain ⟨rfl, rfl⟩ := p
        rw [n.out m h]
  · rw [if_neg c, if_neg c]
    constructor
    · intro h
      obtain ⟨e, he, rfl⟩ := Option.map_eq_some_iff.mp h
      have m := List.mem_of_find?_eq_some he
      have p := List.find?_some he
      rw [Bool.and_eq_true, beq_iff_eq, beq_iff_eq] at p
      obtain ⟨a, f, b⟩ := e
      obtain ⟨rfl, rfl⟩ := p
      exact m
    · intro h
      rw [find_of (e := (v, x / 2, u)) h (by simp) ?_]
      · rfl
      · rintro ⟨a, f, b⟩ m p
        simp only [Bool.and_eq_true, beq_iff_eq] at p
        obtain ⟨rfl, rfl⟩ := p
        rw [n.inn m h]
theorem Leads.back {T : List Tri} {u x v : Nat} (h : Leads T u x v) : Leads T v (other x) u := by
  unfold Leads other at *
  by_cases c : x % 2 = 0
  · rw [if_pos c] at h
    rw [if_pos c, if_neg (by omega), show (x + 1) / 2 = x / 2 by omega]
    exact h
  · rw [if_neg c] at h
    rw [if_neg c, if_pos (by omega), show (x - 1) / 2 = x / 2 by omega]
    exact h
/-- a knot of the graph -/
def Knot (T : List Tri) (u : Nat) : Prop := u = 0 ∨ ∃ f v, (u, f, v) ∈ T ∨ (v, f, u) ∈ T
theorem Leads.knot {T : List Tri} {u x v : Nat} (h : Leads T u x v) : Knot T v := by
  unfold Leads at h
  split at h
  · exact .inr ⟨_, _, .inr h⟩
  · exact .inr ⟨_, _, .inl h⟩
theorem Leads.knot' {T : List Tri} {u x v : Nat} (h : Leads T u x v) : Knot T u := h.back.knot
section
variable {T T' : List Tri} {p q : Nat → Nat}
theorem Ren.knot (h : Ren T T' p q) {u : Nat} (k : Knot T u) : q (p u) = u := by
  rcases k with rfl | ⟨f, v, m | m⟩
  · rw [h.zero, h.zero']
  · exact (h.back _ _ _ m).1
  · exact (h.back _ _ _ m).2
theorem Ren.leads (h : Ren T T' p q) {u x v : Nat} (l : Leads T u x v) : Leads T' (p u) x (p v) := by
  unfold Leads at *
  split
  · rename_i c
    rw [if_pos c] at l
    exact h.hom _ _ _ l
  · rename_i c
    rw [if_neg c] at l
    exact h.hom _ _ _ l
theorem Ren.leads' (h : Ren T T' p q) {u x v' : Nat} (k : Knot T u) (l : Leads T' (p u) x v') : ∃ v, Leads T u x v ∧ p v = v' := by
  unfold Leads at *
  by_cases c : x % 2 = 0
  · rw [if_pos c] at l
    obtain ⟨a, b, m, e1, e2⟩ := (h.mem _ _ _).mp l
    have e : a = u := by rw [← h.knot k, ← e1, (h.back _ _ _ m).1]
    subst e
    exact ⟨b, by rw [if_pos c]; exact m, e2⟩
  · rw [if_neg c] at l
    obtain ⟨a, b, m, e1, e2⟩ := (h.mem _ _ _).mp l
    have e : b = u := by rw [← h.knot k, ← e2, (h.back _ _ _ m).2]
    subst e
    exact ⟨a, by rw [if_neg c]; exact m, e1⟩
theorem Ren.step (h : Ren T T' p q) (n : NoClash T) (n' : NoClash T') {u : Nat} (k : Knot T u) (x : Nat) : stepT T' (p u) x = (stepT T u x).map p := by
  cases e : stepT T u x with
  | none =>
    cases e' : stepT T' (p u) x with
    | none => rfl
    | some v' =>
      obtain ⟨v, l, _⟩ := h.leads' k ((stepT_iff n').mp e')
      rw [(stepT_iff n).mpr l] at e
      cases e
  | some v => exact (stepT_iff n').mpr (h.leads ((stepT_iff n).mp e))
end

/-! ### the walk -/
abbrev Ways := List (Nat × List Nat)
def hasW (W : Ways) (v : Nat) : Bool := W.any fun z => z.1 == v
theorem hasW_iff {W : Ways} {v : Nat} : hasW W v = true ↔ v ∈ W.map (·.1) := by
  unfold hasW
  rw [List.any_eq_true, List.mem_map]
  constructor
  · rintro ⟨z, h, e⟩
    exact ⟨z, h, by simpa using e⟩
  · rintro ⟨z, h, e⟩
    exact ⟨z, h, by simpa using e⟩
def walkTurn (stp : Nat → Nat → Option Nat) (z : Nat × List Nat) (acc : Ways) (x : Nat) : Ways := match stp z.1 x with
  | none => acc
  | some v => if hasW acc v = true then acc else acc ++ [(v, z.2 ++ [x])]
def walkKnot (stp : Nat → Nat → Option Nat) (n : Nat) (acc : Ways) (i : Nat) : Ways := match acc[i]? with
  | none => acc
  | some z => (List.range (2 * n)).foldl (walkTurn stp z) acc
def walkTo (stp : Nat → Nat → Option Nat) (n m : Nat) : Ways := (List.range m).foldl (walkKnot stp n) [(0, [])]
theorem walkTo_succ (stp : Nat → Nat → Option Nat) (n m : Nat) : walkTo stp n (m + 1) = walkKnot stp n (walkTo stp n m) m := by
  unfold walkTo
  rw [List.range_succ, List.foldl_append]
  rfl
def pathT (stp : Nat → Nat → Option Nat) : Nat → List Nat → Option Nat
  | u, [] => some u
  | u, x :: r => (stp u x).bind fun v => pathT stp v r
theorem pathT_append (stp : Nat → Nat → Option Nat) : ∀ (a : List Nat) (u : Nat) (b : List Nat), pathT stp u (a ++ b) = (pathT stp u a).bind fun v => pathT stp v b
  | [], u, b => rfl
  | x :: a, u, b => by
    show (stp u x).bind _ = ((stp u x).bind _).bind _
    cases stp u x with
    | none => rfl
    | some v => exact pathT_append stp a v b
/-- what holds of the ways all along -/
structure WOk (stp : Nat → Nat → Option Nat) (n : Nat) (W : Ways) : Prop where
  nd : (W.map (·.1)).Nodup
  first : W[0]? = some (0, [])
  path : ∀ z ∈ W, pathT stp 0 z.2 = some z.1
  from_ : ∀ z ∈ W, z = (0, []) ∨ ∃ y ∈ W, ∃ x, x < 2 * n ∧ stp y.1 x = some z.1 ∧ z.2 = y.2 ++ [x]
theorem WOk.start (stp : Nat → Nat → Option Nat) (n : Nat) : WOk stp n [(0, [])] where
  nd := List.nodup_cons.mpr ⟨by simp, List.nodup_nil⟩
  first := rfl
  path := fun z hz => by
    have e : z = (0, []) := by simpa using hz
    subst e
    rfl
  from_ := fun z hz => .inl (by simpa using hz)
theorem WOk.turn {stp : Nat → Nat → Option Nat} {n : Nat} {W : Ways} (h : WOk stp n W) {z : Nat × List Nat} (hz : z ∈ W) {x : Nat} (hx : x < 2 * n) : WOk stp n (walkTurn stp z W x) := by
  unfold walkTurn
  cases e : stp z.1 x with
  | none => exact h
  | some v =>
    dsimp only
    by_cases c : hasW W v = true
    · rw [if_pos c]; exact h
    · rw [if_neg c]
      rw [hasW_iff] at c
      refine ⟨?_, ?_, fun y hy => ?_, fun y hy => ?_⟩
      · rw [List.map_append, List.nodup_append]
        refine ⟨h.nd, by simp, fun a ha b hb q => c ?_⟩
        have e2 : b = v := by simpa using hb
        rw [← e2, ← q]
        exact ha
      · have f := h.first
        rw [List.getElem?_append_left (by
          cases W with
          | nil => cases f
          | cons a r => exact Nat.succ_pos _)]
        exact f
      · rcases List.mem_append.mp hy with q | q
        · exact h.path y q
        · have e2 : y = (v, z.2 ++ [x]) := by simpa using q
          subst e2
          show pathT stp 0 (z.2 ++ [x]) = some v
          rw [pathT_append, h.path z hz]
          show (stp z.1 x).bind _ = _
          rw [e]
          rfl
      · rcases List.mem_append.mp hy with q | q
        · rcases h.from_ y q with r | ⟨y', hy', r⟩
          · exact .inl r
          · exact .inr ⟨y', List.mem_append_left _ hy', r⟩
        · have e2 : y = (v, z.2 ++ [x]) := by simpa using q
          subst e2
          exact .inr ⟨z, List.mem_append_left _ hz, x, hx, e, rfl⟩
/-- it only grows -/
theorem turn_grows (stp : Nat → Nat → Option Nat) (z : Nat × List Nat) (W : Ways) (x : Nat) : ∃ r, walkTurn stp z W x = W ++ r := by
  unfold walkTurn
  cases stp z.1 x with
  | none => exact ⟨[], (List.append_nil _).symm⟩
  | some v =>
    dsimp only
    by_cases c : hasW W v = true
    · rw [if_pos c]; exact ⟨[], (List.append_nil _).symm⟩
    · rw [if_neg c]; exact ⟨_, rfl⟩
theorem turns_grow (stp : Nat → Nat → Option Nat) (z : Nat × List Nat) : ∀ (l : List Nat) (W : Ways), ∃ r, l.foldl (walkTurn stp z) W = W ++ r
  | [], W => ⟨[], (List.append_nil _).symm⟩
  | x :: l, W => by
    obtain ⟨r, e⟩ := turn_grows stp z W x
    obtain ⟨r', e'⟩ := turns_grow stp z l (walkTurn stp z W x)
    exact ⟨r ++ r', by rw [List.foldl_cons, e', e, List.append_assoc]⟩
theorem turns_ok {stp : Nat → Nat → Option Nat} {n : Nat} {z : Nat × List Nat} : ∀ {l : List Nat} {W : Ways}, (∀ x ∈ l, x < 2 * n) → WOk stp n W → z ∈ W → WOk stp n (l.foldl (walkTurn stp z) W)
  | [], _, _, h, _ => h
  | x :: l, W, hl, h, hz => by
    obtain ⟨r, e⟩ := turn_grows stp z W x
    exact turns_ok (l := l) (fun y hy => hl y (List.mem_cons_of_mem _ hy)) (h.turn hz (hl x List.mem_cons_self)) (by rw [e]; exact List.mem_append_left _ hz)
theorem turn_has {stp : Nat → Nat → Option Nat} {z : Nat × List Nat} {W : Ways} {x v : Nat} (h : stp z.1 x = some v) : hasW (walkTurn stp z W x) v = true := by
  unfold walkTurn
  rw [h]
  dsimp only
  by_cases c : hasW W v = true
  · rw [if_pos c]; exact c
  · rw [if_neg c, hasW_iff]; simp
theorem has_grows {W r : Ways} {v : Nat} (h : hasW W v = true) : hasW (W ++ r) v = true := by
  rw [hasW_iff] at *
  rw [List.map_append]
  exact List.mem_append_left _ h
theorem turns_has {stp : Nat → Nat → Option Nat} {z : Nat × List Nat} {x v : Nat} (h : stp z.1 x = some v) : ∀ {l : List Nat} {W : Ways}, x ∈ l → hasW (l.foldl (walkTurn stp z) W) v = true
  | [], _, hx => absurd hx (by simp)
  | y :: l, W, hx => by
    rw [List.foldl_cons]
    rcases List.mem_cons.mp hx with e | hx
    · subst e
      obtain ⟨r, e⟩ := turns_grow stp z l (walkTurn stp z W x)
      rw [e]
      exact has_grows (turn_has h)
    · exact turns_has h hx
theorem knot_grows (stp : Nat → Nat → Option Nat) (n : Nat) (W : Ways) (i : Nat) : ∃ r, walkKnot stp n W i = W ++ r := by
  unfold walkKnot
  cases W[i]? with
  | none => exact ⟨[], (List.append_nil _).symm⟩
  | some z => exact turns_grow stp z _ W
theorem WOk.knot {stp : Nat → Nat → Option Nat} {n : Nat} {W : Ways} (h : WOk stp n W) (i : Nat) : WOk stp n (walkKnot stp n W i) := by
  unfold walkKnot
  cases e : W[i]? with
  | none => exact h
  | some z => exact turns_ok (fun x hx => List.mem_range.mp hx) h (List.mem_of_getElem? e)
theorem walk_ok (stp : Nat → Nat → Option Nat) (n : Nat) : ∀ m, WOk stp n (walkTo stp n m)
  | 0 => WOk.start stp n
  | m + 1 => by rw [walkTo_succ]; exact (walk_ok stp n m).knot m
/-- all turns from the first m found ones were tried -/
def TriedTo (stp : Nat → Nat → Option Nat) (n m : Nat) (W : Ways) : Prop := ∀ i z, i < m → W[i]? = some z → ∀ x v, x < 2 * n → stp z.1 x = some v → hasW W v = true
theorem knot_tried {stp : Nat → Nat → Option Nat} {n m : Nat} {W : Ways} (h : TriedTo stp n m W) : TriedTo stp n (m + 1) (walkKnot stp n W m) := by
  obtain ⟨r, e⟩ := knot_grows stp n W m
  intro i z hi hz x v hx hs
  by_cases hl : i < W.length
  · have hz' : W[i]? = some z := by
      rw [e, List.getElem?_append_left hl] at hz
      exact hz
    by_cases him : i < m
    · rw [e]
      exact has_grows (h i z him hz' x v hx hs)
    · have e2 : i = m := by omega
      subst e2
      unfold walkKnot
      rw [hz']
      exact turns_has hs (List.mem_range.mpr hx)
  · by_cases him : i < m
    · -- nothing was there to go on from
      have hn : W[m]? = none := List.getElem?_eq_none (by omega)
      unfold walkKnot at hz
      rw [hn] at hz
      exact absurd (List.getElem?_eq_some_iff.mp hz).1 hl
    · have e2 : i = m := by omega
      subst e2
      have hn : W[i]? = none := List.getElem?_eq_none (by omega)
      unfold walkKnot at hz
      rw [hn] at hz
      exact absurd (List.getElem?_eq_some_iff.mp hz).1 hl
theorem walk_tried (stp : Nat → Nat → Option Nat) (n : Nat) : ∀ m, TriedTo stp n m (walkTo stp n m)
  | 0 => fun i z h => absurd h (Nat.not_lt_zero i)
  | m + 1 => by rw [walkTo_succ]; exact knot_tried (walk_tried stp n m)
/-- what can be come to -/
def Comes (stp : Nat → Nat → Option Nat) (n v : Nat) : Prop := ∃ w, (∀ x ∈ w, x < 2 * n) ∧ pathT stp 0 w = some v
theorem path_in {stp : Nat → Nat → Option Nat} {n : Nat} {W : Ways} (cl : ∀ z ∈ W, ∀ x v, x < 2 * n → stp z.1 x = some v → hasW W v = true) : ∀ (w : List Nat) (u v : Nat), hasW W u = true → (∀ x ∈ w, x < 2 * n) → pathT stp u w = some v → hasW W v = true
  | [], u, v, hu, _, h => by
    have e : u = v := Option.some.inj h
    rw [← e]; exact hu
  | x :: w, u, v, hu, hx, h => by
    change (stp u x).bind _ = _ at h
    cases e : stp u x with
    | none => rw [e] at h; cases h
    | some y =>
      rw [e] at h
      rw [hasW_iff, List.mem_map] at hu
      obtain ⟨z, hz, rfl⟩ := hu
      exact path_in cl w y v (cl z hz x y (hx x List.mem_cons_self) e) (fun a ha => hx a (List.mem_cons_of_mem _ ha)) h
theorem tried_all {stp : Nat → Nat → Option Nat} {n m : Nat} {W : Ways} (h : TriedTo stp n m W) (hm : W.length ≤ m) : ∀ z ∈ W, ∀ x v, x < 2 * n → stp z.1 x = some v → hasW W v = true := fun z hz x v hx hs => by
  obtain ⟨i, hi, e⟩ := List.mem_iff_getElem.mp hz
  exact h i z (by omega) (by rw [List.getElem?_eq_getElem hi, e]) x v hx hs
theorem WOk.has0 {stp : Nat → Nat → Option Nat} {n : Nat} {W : Ways} (h : WOk stp n W) : hasW W 0 = true := by
  rw [hasW_iff, List.mem_map]
  exact ⟨(0, []), List.mem_of_getElem? h.first, rfl⟩
/-- there's one to go on from, as long as not all were gone through -/
theorem walk_there {stp : Nat → Nat → Option Nat} {n m : Nat} {N : List Nat} (nd : N.Nodup) (hc : ∀ v ∈ N, Comes stp n v) (hm : m < N.length) : m < (walkTo stp n m).length := by
  refine Decidable.byContradiction fun c => ?_
  have cl := tried_all (walk_tried stp n m) (by omega)
  have le := nodup_le nd fun v hv => by
    obtain ⟨w, h1, h2⟩ := hc v hv
    exact hasW_iff.mp (path_in cl w 0 v (walk_ok stp n m).has0 h1 h2)
  rw [List.length_map] at le
  omega
/-- **all knots are found, each once** -/
theorem walk_all {stp : Nat → Nat → Option Nat} {n m : Nat} {N : List Nat} (nd : N.Nodup) (hc : ∀ v ∈ N, Comes stp n v) (hs : ∀ v, hasW (walkTo stp n m) v = true → v ∈ N) (hm : N.length ≤ m) :
    (walkTo stp n m).length = N.length ∧ ∀ v ∈ N, hasW (walkTo stp n m) v = true := by
  have le : (walkTo stp n m).length ≤ N.length := by
    have z := nodup_le (walk_ok stp n m).nd fun v hv => hs v (hasW_iff.mpr hv)
    rw [List.length_map] at z
    exact z
  have cl := tried_all (walk_tried stp n m) (by omega)
  have hall : ∀ v ∈ N, hasW (walkTo stp n m) v = true := fun v hv => by
    obtain ⟨w, h1, h2⟩ := hc v hv
    exact path_in cl w 0 v (walk_ok stp n m).has0 h1 h2
  have ge := nodup_le nd fun v hv => hasW_iff.mp (hall v hv)
  rw [List.length_map] at ge
  exact ⟨by omega, hall⟩
theorem walk_stays {stp : Nat → Nat → Option Nat} {n m : Nat} (h : (walkTo stp n m).length ≤ m) : ∀ k, walkTo stp n (m + k) = walkTo stp n m
  | 0 => rfl
  | k + 1 => by
    rw [← Nat.add_assoc, walkTo_succ, walk_stays h k]
    unfold walkKnot
    rw [List.getElem?_eq_none (by omega)]

/-! ### ways and knots belong together -/
section
variable {stp : Nat → Nat → Option Nat} {n : Nat} {W : Ways}
theorem WOk.key (h : WOk stp n W) {y z : Nat × List Nat} (hy : y ∈ W) (hz : z ∈ W) (e : y.1 = z.1) : y = z := by
  have hn := h.nd
  obtain ⟨i, hi, ei⟩ := List.mem_iff_getElem.mp hy
  obtain ⟨j, hj, ej⟩ := List.mem_iff_getElem.mp hz
  have k : (W.map (·.1))[i]'(by rw [List.length_map]; exact hi) = (W.map (·.1))[j]'(by rw [List.length_map]; exact hj) := by
    rw [List.getElem_map, List.getElem_map, ei, ej, e]
  have q := (List.getElem_inj hn).mp k
  subst q
  rw [← ei, ← ej]
theorem WOk.way (h : WOk stp n W) {y z : Nat × List Nat} (hy : y ∈ W) (hz : z ∈ W) (e : y.2 = z.2) : y = z := by
  refine h.key hy hz ?_
  have a := h.path y hy
  rw [e, h.path z hz] at a
  exact (Option.some.inj a).symm
theorem find_way (h : WOk stp n W) {z : Nat × List Nat} (hz : z ∈ W) : W.find? (fun a => a.1 == z.1) = some z := by
  cases e : W.find? fun a => a.1 == z.1 with
  | none => exact absurd (by simp : (z.1 == z.1) = true) (List.find?_eq_none.mp e z hz)
  | some a =>
    have k := List.find?_some e
    rw [h.key (List.mem_of_find?_eq_some e) hz (by simpa using k)]
end

/-! ### the walk under other names -/
section
variable {stp stp' : Nat → Nat → Option Nat} {p : Nat → Nat} {G : Nat → Prop}
def renW (p : Nat → Nat) (W : Ways) : Ways := W.map fun z => (p z.1, z.2)
theorem has_ren (inj : ∀ u v, G u → G v → p u = p v → u = v) {W : Ways} (hW : ∀ z ∈ W, G z.1) {v : Nat} (hv : G v) : hasW (renW p W) (p v) = hasW W v := by
  have h : hasW (renW p W) (p v) = true ↔ hasW W v = true := by
    rw [hasW_iff, hasW_iff, List.mem_map, List.mem_map]
    unfold renW
    constructor
    · rintro ⟨z, hz, e⟩
      obtain ⟨y, hy, rfl⟩ := List.mem_map.mp hz
      exact ⟨y, hy, inj _ _ (hW y hy) hv e⟩
    · rintro ⟨z, hz, e⟩
      exact ⟨(p z.1, z.2), List.mem_map.mpr ⟨z, hz, rfl⟩, by rw [← e]⟩
  cases a : hasW (renW p W) (p v) <;> cases b : hasW W v <;> simp_all
theorem turn_ren (inj : ∀ u v, G u → G v → p u = p v → u = v) (hG : ∀ u x v, G u → stp u x = some v → G v) (hs : ∀ u x, G u → stp' (p u) x = (stp u x).map p)
    {W : Ways} (hW : ∀ z ∈ W, G z.1) {z : Nat × List Nat} (hz : G z.1) (x : Nat) : walkTurn stp' (p z.1, z.2) (renW p W) x = renW p (walkTurn stp z W x) ∧ ∀ y ∈ walkTurn stp z W x, G y.1 := by
  unfold walkTurn
  dsimp only
  rw [hs _ _ hz]
  cases e : stp z.1 x with
  | none => exact ⟨rfl, hW⟩
  | some v =>
    have gv := hG _ _ _ hz e
    show (if hasW (renW p W) (p v) = true then renW p W else renW p W ++ [(p v, z.2 ++ [x])]) = _ ∧ _
    rw [has_ren inj hW gv]
    dsimp only
    by_cases c : hasW W v = true
    · rw [if_pos c, if_pos c]
      exact ⟨rfl, hW⟩
    · rw [if_neg c, if_neg c]
      refine ⟨by unfold renW; rw [List.map_append]; rfl, fun y hy => ?_⟩
      rcases List.mem_append.mp hy with q | q
      · exact hW y q
      · have e2 : y = (v, z.2 ++ [x]) := by simpa using q
        rw [e2]; exact gv
theorem turns_ren (inj : ∀ u v, G u → G v → p u = p v → u = v) (hG : ∀ u x v, G u → stp u x = some v → G v) (hs : ∀ u x, G u → stp' (p u) x = (stp u x).map p) {z : Nat × List Nat} (hz : G z.1) :
    ∀ (l : List Nat) (W : Ways), (∀ y ∈ W, G y.1) → l.foldl (walkTurn stp' (p z.1, z.2)) (renW p W) = renW p (l.foldl (walkTurn stp z) W) ∧ ∀ y ∈ l.foldl (walkTurn stp z) W, G y.1
  | [], W, hW => ⟨rfl, hW⟩
  | x :: l, W, hW => by
    obtain ⟨e, k⟩ := turn_ren inj hG hs hW hz x
    rw [List.foldl_cons, List.foldl_cons, e]
    exact turns_ren inj hG hs hz l _ k
theorem walk_ren (inj : ∀ u v, G u → G v → p u = p v → u = v) (hG : ∀ u x v, G u → stp u x = some v → G v) (hs : ∀ u x, G u → stp' (p u) x = (stp u x).map p) (h0 : G 0) (p0 : p 0 = 0) (n : Nat) :
    ∀ m, walkTo stp' n m = renW p (walkTo stp n m) ∧ ∀ y ∈ walkTo stp n m, G y.1
  | 0 => by
    refine ⟨?_, fun y hy => ?_⟩
    · show [(0, [])] = [(p 0, [])]
      rw [p0]
    · have e : y = (0, []) := by simpa [walkTo] using hy
      rw [e]; exact h0
  | m + 1 => by
    obtain ⟨e, k⟩ := walk_ren inj hG hs h0 p0 n m
    rw [walkTo_succ, walkTo_succ, e]
    unfold walkKnot
    have q : (renW p (walkTo stp n m))[m]? = ((walkTo stp n m)[m]?).map fun z => (p z.1, z.2) := by unfold renW; rw [List.getElem?_map]
    rw [q]
    cases h : (walkTo stp n m)[m]? with
    | none => exact ⟨rfl, k⟩
    | some z => exact turns_ren inj hG hs (k z (List.mem_of_getElem? h)) _ _ k
end
end Fc
/-! The graph of moves: the program's threads and the specification's edges, one but for the knots' names. -/
namespace Fc
open Vbcjai

def tri (e : Edge) : Tri := (e.from_, e.by_ / 2, e.to_)
def Evens (l : List Edge) : Prop := ∀ e ∈ l, e.by_ % 2 = 0
theorem mem_tri {l : List Edge} (h : Evens l) {u f v : Nat} : (u, f, v) ∈ l.map tri ↔ (⟨u, 2 * f, v⟩ : Edge) ∈ l := by
  rw [List.mem_map]
  constructor
  · rintro ⟨⟨a, b, c⟩, he, e⟩
    have q : b % 2 = 0 := h _ he
    unfold tri at e
    obtain ⟨rfl, rfl, rfl⟩ : a = u ∧ b / 2 = f ∧ c = v := by simpa using e
    have z : 2 * (b / 2) = b := by omega
    rw [z]
    exact he
  · intro he
    refine ⟨_, he, ?_⟩
    unfold tri
    simp
theorem stepBy_is {l : List Edge} (h : Evens l) (u x : Nat) : stepBy l u x = stepT (l.map tri) u x := by
  have key : ∀ (l : List Edge), Evens l → (l.map tri).find? (fun e => e.1 == u && e.2.1 == x / 2) = (l.find? fun e => e.from_ == u && e.by_ / 2 == x / 2).map tri := by
    intro l _
    rw [List.find?_map]
    rfl
  have key' : ∀ (l : List Edge), Evens l → (l.map tri).find? (fun e => e.2.2 == u && e.2.1 == x / 2) = (l.find? fun e => e.to_ == u && e.by_ / 2 == x / 2).map tri := by
    intro l _
    rw [List.find?_map]
    rfl
  have find_congr : ∀ {p q : Edge → Bool} (l : List Edge), (∀ e ∈ l, p e = q e) → l.find? p = l.find? q := by
    intro p q l
    induction l with
    | nil => intro _; rfl
    | cons a l ih =>
      intro hl
      rw [List.find?_cons, List.find?_cons, hl a List.mem_cons_self, ih fun e he => hl e (List.mem_cons_of_mem _ he)]
  unfold stepBy stepT
  by_cases c : x % 2 = 0
  · rw [if_pos c, if_pos c, key l h, Option.map_map]
    rw [find_congr (p := fun e => e.from_ == u && e.by_ == x) (q := fun e => e.from_ == u && e.by_ / 2 == x / 2) l fun e he => by
      have q := h e he
      have z : (e.by_ == x) = (e.by_ / 2 == x / 2) := by
        have k : e.by_ = x ↔ e.by_ / 2 = x / 2 := by omega
        cases a : e.by_ == x <;> cases b : e.by_ / 2 == x / 2 <;> simp_all
      rw [z]]
    rfl
  · rw [if_neg c, if_neg c, key' l h, Option.map_map]
    rw [find_congr (p := fun e => e.to_ == u && e.by_ == x - 1) (q := fun e => e.to_ == u && e.by_ / 2 == x / 2) l fun e he => by
      have q := h e he
      have z : (e.by_ == x - 1) = (e.by_ / 2 == x / 2) := by
        have k : e.by_ = x - 1 ↔ e.by_ / 2 = x / 2 := by omega
        cases a : e.by_ == x - 1 <;> cases b : e.by_ / 2 == x / 2 <;> simp_all
      rw [z]]
    rfl

/-! ### folded -/
theorem nodup_eraseDups : ∀ (n : Nat) (l : List Edge), l.length ≤ n → l.eraseDups.Nodup
  | _, [], _ => by simp
  | 0, a :: l, h => by simp at h
  | n + 1, a :: l, h => by
    rw [List.eraseDups_cons, List.nodup_cons]
    refine ⟨fun q => ?_, nodup_eraseDups n _ ?_⟩
    · rw [List.mem_eraseDups, List.mem_filter] at q
      simp at q
    · have := List.length_filter_le (fun b => !b == a) l
      rw [List.length_cons] at h
      omega
theorem findSome_none {α β : Type} {f : α → Option β} {l : List α} (h : l.findSome? f = none) : ∀ a ∈ l, f a = none := List.findSome?_eq_none_iff.mp h
theorem clash_none {l : List Edge} (hE : Evens l) (h : Vbcjai.clash l = none) : NoClash (l.map tri) := by
  unfold Vbcjai.clash at h
  rintro x y ⟨ne, ⟨u, f, a, b⟩ | ⟨v, f, a, b⟩⟩
  · rw [mem_tri hE] at a b
    have q := findSome_none (findSome_none h _ a) _ b
    dsimp only at q
    rw [if_pos ⟨rfl, rfl, ne⟩] at q
    cases q
  · rw [mem_tri hE] at a b
    have q := findSome_none (findSome_none h _ a) _ b
    dsimp only at q
    by_cases c : 2 * f = 2 * f ∧ x = y ∧ v ≠ v
    · exact absurd rfl c.2.2
    · rw [if_neg c, if_pos ⟨rfl, rfl, ne⟩] at q
      cases q
theorem clash_some {l : List Edge} (hE : Evens l) {a b : Nat} (h : Vbcjai.clash l = some (a, b)) : a < b ∧ Clash (l.map tri) a b := by
  unfold Vbcjai.clash at h
  obtain ⟨e, he, h⟩ := List.exists_of_findSome?_eq_some h
  obtain ⟨f, hf, h⟩ := List.exists_of_findSome?_eq_some h
  obtain ⟨eu, eb, ev⟩ := e
  obtain ⟨fu, fb, fv⟩ := f
  have q := hE _ he
  dsimp only at h q
  have back : ∀ {u b v : Nat}, b % 2 = 0 → (⟨u, b, v⟩ : Edge) ∈ l → (u, b / 2, v) ∈ l.map tri := fun {u b v} hb m => List.mem_map.mpr ⟨_, m, rfl⟩
  have fin : ∀ {x y : Nat}, x ≠ y → Clash (l.map tri) x y → min x y < max x y ∧ Clash (l.map tri) (min x y) (max x y) := fun {x y} ne c => by
    rcases Nat.lt_or_ge x y with k | k
    · rw [Nat.min_eq_left (Nat.le_of_lt k), Nat.max_eq_right (Nat.le_of_lt k)]
      exact ⟨k, c⟩
    · rw [Nat.min_eq_right k, Nat.max_eq_left k]
      exact ⟨by omega, c.symm⟩
  by_cases c1 : eb = fb ∧ eu = fu ∧ ev ≠ fv
  · rw [if_pos c1] at h
    obtain ⟨rfl, rfl, ne⟩ := c1
    obtain ⟨rfl, rfl⟩ : min ev fv = a ∧ max ev fv = b := by simpa using h
    exact fin ne ⟨ne, .inl ⟨eu, eb / 2, back q he, back q hf⟩⟩
  · rw [if_neg c1] at h
    by_cases c2 : eb = fb ∧ ev = fv ∧ eu ≠ fu
    · rw [if_pos c2] at h
      obtain ⟨rfl, rfl, ne⟩ := c2
      obtain ⟨rfl, rfl⟩ : min eu fu = a ∧ max eu fu = b := by simpa using h
      exact fin ne ⟨ne, .inr ⟨ev, eb / 2, back q he, back q hf⟩⟩
    · rw [if_neg c2] at h
      cases h
/-- folded, and nothing clashes -/
structure Folded (E T : List Tri) : Prop where
  ex : ∃ r, Col E r T
  no : NoClash T
theorem foldAll_is {E : List Tri} {K : Nat} (hK : 0 < K) (hE : ∀ a f b, (a, f, b) ∈ E → a < K ∧ b < K) : ∀ (f : Nat) (l : List Edge) (r : Nat → Nat), Col E r (l.map tri) → Evens l → l.Nodup → fixedBelow K r ≤ f →
    Folded E ((foldAll f l).map tri) ∧ Evens (foldAll f l) ∧ (foldAll f l).Nodup
  | 0, l, r, c, _, _, h => absurd (fixed_pos hK c.zero) (by omega)
  | f + 1, l, r, c, ev, nd, h => by
    unfold foldAll
    cases e : Vbcjai.clash l with
    | none => exact ⟨⟨⟨r, c⟩, clash_none ev e⟩, ev, nd⟩
    | some z =>
      obtain ⟨a, b⟩ := z
      obtain ⟨lt, cl⟩ := clash_some ev e
      have bK : b < K := by
        obtain ⟨_, _, hb⟩ := c.clash cl
        have kn : ∃ x, x < K ∧ r x = b := by
          obtain ⟨_, ⟨u, g, _, m⟩ | ⟨v, g, _, m⟩⟩ := cl
          · obtain ⟨p, q, m', _, e2⟩ := (c.mem _ _ _).mp m
            exact ⟨q, (hE _ _ _ m').2, e2⟩
          · obtain ⟨p, q, m', e1, _⟩ := (c.mem _ _ _).mp m
            exact ⟨p, (hE _ _ _ m').1, e1⟩
        obtain ⟨x, hx, rfl⟩ := kn
        have := c.le x
        omega
      have ev' : Evens ((l.map (glued a b)).eraseDups) := fun e he => by
        rw [List.mem_eraseDups, List.mem_map] at he
        obtain ⟨d, hd, rfl⟩ := he
        exact ev d hd
      have c' : Col E (fun x => put a b (r x)) (((l.map (glued a b)).eraseDups).map tri) := by
        refine c.step cl lt fun u g v => ?_
        rw [mem_tri ev', List.mem_eraseDups, List.mem_map]
        constructor
        · rintro ⟨⟨x, y, z⟩, he, q⟩
          unfold glued at q
          obtain ⟨q1, q2, q3⟩ : (if x = b then a else x) = u ∧ y = 2 * g ∧ (if z = b then a else z) = v := by simpa using q
          subst q2
          exact ⟨x, z, (mem_tri ev).mpr he, q1, q3⟩
        · rintro ⟨x, z, m, q1, q3⟩
          exact ⟨⟨x, 2 * g, z⟩, (mem_tri ev).mp m, by unfold glued; unfold put at q1 q3; rw [q1, q3]⟩
      have lt' := fixed_step c cl lt bK
      exact foldAll_is hK hE f _ _ c' ev' (nodup_eraseDups _ _ (Nat.le_refl _)) (by omega)

/-! ### the loops -/
def threadT (u x v : Nat) : Tri := if x % 2 = 0 then (u, x / 2, v) else (v, x / 2, u)
theorem tri_edgeOf (u x v : Nat) : tri (edgeOf u x v) = threadT u x v := by
  unfold edgeOf threadT tri
  by_cases c : x % 2 = 0
  · rw [if_pos c, if_pos c]
  · rw [if_neg c, if_neg c]
    dsimp only
    rw [show (x - 1) / 2 = x / 2 by omega]
def knotAt (len fresh k : Nat) : Nat := if k = 0 ∨ k = len then 0 else fresh + (k - 1)
def loopT (t : List Nat) (fresh : Nat) : List Tri := (List.range t.length).map fun k => threadT (knotAt t.length fresh k) (t.getD k 0) (knotAt t.length fresh (k + 1))
def loopsStep (T : List Tri) (w : List Nat) : List Tri := if 0 < (taut w).length then T ++ loopT (taut w) (1 + T.length) else T
def loopsT (ws : List (List Nat)) : List Tri := ws.foldl loopsStep []
theorem loopT_length (t : List Nat) (fresh : Nat) : (loopT t fresh).length = t.length := by
  unfold loopT
  rw [List.length_map, List.length_range]
theorem loopFrom_cons (u k x y : Nat) (r : List Nat) : loopFrom u k (x :: y :: r) = edgeOf u x k :: loopFrom k (k + 1) (y :: r) := rfl
theorem loopFrom_get : ∀ (t : List Nat) (u k : Nat), (loopFrom u k t).length = t.length ∧ ∀ i, i < t.length → (loopFrom u k t)[i]? = some (edgeOf (if i = 0 then u else k + (i - 1)) (t.getD i 0) (if i + 1 = t.length then 0 else k + i))
  | [], u, k => ⟨rfl, fun i h => absurd h (Nat.not_lt_zero i)⟩
  | [x], u, k => by
    refine ⟨rfl, fun i h => ?_⟩
    have e : i = 0 := by simpa using h
    subst e
    rfl
  | x :: y :: r, u, k => by
    obtain ⟨h1, h2⟩ := loopFrom_get (y :: r) k (k + 1)
    rw [loopFrom_cons]
    refine ⟨by rw [List.length_cons, h1]; rfl, fun i h => ?_⟩
    cases i with
    | zero => rfl
    | succ i =>
      have h' : i < (y :: r).length := by simpa using h
      rw [List.getElem?_cons_succ, h2 i h', if_neg (Nat.succ_ne_zero i)]
      have e1 : (if i = 0 then k else k + 1 + (i - 1)) = k + (i + 1 - 1) := by
        by_cases c : i = 0
        · rw [if_pos c, c]
          rfl
        · rw [if_neg c]; omega
      have e2 : (if i + 1 = (y :: r).length then 0 else k + 1 + i) = if i + 1 + 1 = (x :: y :: r).length then 0 else k + (i + 1) := by
        simp only [List.length_cons]
        by_cases c : i + 1 = r.length + 1
        · rw [if_pos c, if_pos (by omega)]
        · rw [if_neg c, if_neg (by omega)]; omega
      rw [e1, e2]
      rfl
/-- the specification's edges, renamed, are the program's threads -/
structure Named (n : Nat) (g : Graph) (T : List Tri) (p q : Nat → Nat) : Prop where
  eq : T = g.edges.map fun e => (p e.from_, e.by_ / 2, p e.to_)
  inv : ∀ u, u < g.knots → q (p u) = u ∧ p u ≤ T.length
  below : ∀ e ∈ g.edges, e.from_ < g.knots ∧ e.to_ < g.knots ∧ e.by_ % 2 = 0 ∧ e.by_ / 2 < n
  zero : p 0 = 0
  zero' : q 0 = 0
  pos : 0 < g.knots
theorem edgeOf_by (u x v : Nat) : (edgeOf u x v).by_ % 2 = 0 ∧ (edgeOf u x v).by_ / 2 = x / 2 := by
  unfold edgeOf
  by_cases c : x % 2 = 0
  · rw [if_pos c]; exact ⟨c, rfl⟩
  · rw [if_neg c]
    dsimp only
    omega
theorem ren_edgeOf (p : Nat → Nat) (u x v : Nat) : (p (edgeOf u x v).from_, (edgeOf u x v).by_ / 2, p (edgeOf u x v).to_) = threadT (p u) x (p v) := by
  unfold edgeOf threadT
  by_cases c : x % 2 = 0
  · rw [if_pos c, if_pos c]
  · rw [if_neg c, if_neg c]
    dsimp only
    rw [show (x - 1) / 2 = x / 2 by omega]
theorem edgeOf_ends {P : Nat → Prop} {u x v : Nat} (hu : P u) (hv : P v) : P (edgeOf u x v).from_ ∧ P (edgeOf u x v).to_ := by
  unfold edgeOf
  split
  · exact ⟨hu, hv⟩
  · exact ⟨hv, hu⟩
theorem Named.loop {n : Nat} {g : Graph} {T : List Tri} {p q : Nat → Nat} (h : Named n g T p q) {w : List Nat} (hw : ∀ x ∈ w, x < 2 * n) : ∃ p' q', Named n (addLoop g w) (loopsStep T w) p' q' := by
  unfold addLoop loopsStep
  have ht : ∀ x ∈ taut w, x < 2 * n := fun x hx => hw x (taut_mem hx)
  generalize taut w = t at ht
  by_cases c : t.isEmpty = true
  · have e : t = [] := List.isEmpty_iff.mp c
    subst e
    exact ⟨p, q, h⟩
  · have ne : t ≠ [] := fun e => c (by rw [e]; rfl)
    have lp : 0 < t.length := List.length_pos_iff.mpr ne
    show ∃ p' q', Named n (if t.isEmpty = true then g else ⟨g.knots + (t.length - 1), g.edges ++ loopFrom 0 g.knots t⟩) _ p' q'
    rw [if_neg c, if_pos lp]
    have hpos := h.pos
    let p' : Nat → Nat := fun u => if u < g.knots then p u else u - g.knots + (1 + T.length)
    let q' : Nat → Nat := fun u => if u ≤ T.length then q u else u - (1 + T.length) + g.knots
    have p_old : ∀ u, u < g.knots → p' u = p u := fun u hu => if_pos hu
    have p_new : ∀ u, ¬ u < g.knots → p' u = u - g.knots + (1 + T.length) := fun u hu => if_neg hu
    obtain ⟨l1, l2⟩ := loopFrom_get t 0 g.knots
    have lb : ∀ e ∈ loopFrom 0 g.knots t, e.from_ < g.knots + (t.length - 1) ∧ e.to_ < g.knots + (t.length - 1) ∧ e.by_ % 2 = 0 ∧ e.by_ / 2 < n := fun e he => by
      obtain ⟨i, hi⟩ := List.getElem?_of_mem he
      have hil : i < t.length := by
        have z := (List.getElem?_eq_some_iff.mp hi).1
        omega
      rw [l2 i hil] at hi
      have e2 := Option.some.inj hi
      have k1 : (if i = 0 then 0 else g.knots + (i - 1)) < g.knots + (t.length - 1) := by split <;> omega
      have k2 : (if i + 1 = t.length then 0 else g.knots + i) < g.knots + (t.length - 1) := by split <;> omega
      have x2 : t.getD i 0 < 2 * n := by
        rw [List.getD_eq_getElem?_getD, List.getElem?_eq_getElem hil]
        exact ht _ (List.getElem_mem hil)
      obtain ⟨a, b⟩ := edgeOf_ends (P := fun u => u < g.knots + (t.length - 1)) (x := t.getD i 0) k1 k2
      obtain ⟨b1, b2⟩ := edgeOf_by (if i = 0 then 0 else g.knots + (i - 1)) (t.getD i 0) (if i + 1 = t.length then 0 else g.knots + i)
      rw [← e2]
      exact ⟨a, b, b1, by rw [b2]; omega⟩
    have hlen : (T ++ loopT t (1 + T.length)).length = T.length + t.length := by rw [List.length_append, loopT_length]
    refine ⟨p', q', ⟨?_, fun u hu => ?_, fun e he => ?_, ?_, ?_, ?_⟩⟩
    · rw [List.map_append]
      congr 1
      · conv => lhs; rw [h.eq]
        refine List.map_congr_left fun e he => ?_
        obtain ⟨a, b, _⟩ := h.below e he
        show _ = (p' e.from_, e.by_ / 2, p' e.to_)
        rw [p_old _ a, p_old _ b]
      · apply List.ext_getElem?
        intro i
        by_cases hi : i < t.length
        · rw [List.getElem?_map, l2 i hi]
          unfold loopT
          rw [List.getElem?_map, List.getElem?_range hi]
          show some _ = some _
          congr 1
          show threadT _ _ _ = (p' _, _, p' _)
          rw [ren_edgeOf]
          have k1 : knotAt t.length (1 + T.length) i = p' (if i = 0 then 0 else g.knots + (i - 1)) := by
            unfold knotAt
            by_cases z : i = 0
            · rw [if_pos (.inl z), if_pos z, p_old 0 hpos, h.zero]
            · rw [if_neg (by omega), if_neg z, p_new _ (by omega)]; omega
          have k2 : knotAt t.length (1 + T.length) (i + 1) = p' (if i + 1 = t.length then 0 else g.knots + i) := by
            unfold knotAt
            by_cases z : i + 1 = t.length
            · rw [if_pos (.inr z), if_pos z, p_old 0 hpos, h.zero]
            · rw [if_neg (by omega), if_neg z, p_new _ (by omega)]; omega
          rw [k1, k2]
        · rw [List.getElem?_eq_none (by rw [loopT_length]; omega), List.getElem?_eq_none (by rw [List.length_map, l1]; omega)]
    · dsimp only at hu
      rw [hlen]
      by_cases k : u < g.knots
      · obtain ⟨a, b⟩ := h.inv u k
        rw [p_old u k]
        refine ⟨?_, by omega⟩
        show (if p u ≤ T.length then q (p u) else _) = u
        rw [if_pos b, a]
      · rw [p_new u k]
        refine ⟨?_, by omega⟩
        show (if _ ≤ T.length then _ else u - g.knots + (1 + T.length) - (1 + T.length) + g.knots) = u
        rw [if_neg (by omega)]
        omega
    · rcases List.mem_append.mp he with m | m
      · obtain ⟨a, b, c1, c2⟩ := h.below e m
        dsimp only
        exact ⟨by omega, by omega, c1, c2⟩
      · exact lb e m
    · show p' 0 = 0
      rw [p_old 0 hpos, h.zero]
    · show (if 0 ≤ T.length then q 0 else _) = 0
      rw [if_pos (Nat.zero_le _), h.zero']
    · show 0 < g.knots + (t.length - 1)
      omega
theorem Named.start (n : Nat) : Named n ⟨1, []⟩ [] id id where
  eq := rfl
  inv := fun u hu => ⟨rfl, by dsimp only at hu; show u ≤ 0; omega⟩
  below := fun e he => by cases he
  zero := rfl
  zero' := rfl
  pos := Nat.one_pos
theorem named_all {n : Nat} : ∀ (ws : List (List Nat)) (g : Graph) (T : List Tri) (p q : Nat → Nat), Named n g T p q → (∀ w ∈ ws, ∀ x ∈ w, x < 2 * n) → ∃ p' q', Named n (ws.foldl addLoop g) (ws.foldl loopsStep T) p' q'
  | [], g, T, p, q, h, _ => ⟨p, q, h⟩
  | w :: ws, g, T, p, q, h, hw => by
    obtain ⟨p1, q1, h1⟩ := h.loop (hw w List.mem_cons_self)
    exact named_all ws _ _ p1 q1 h1 fun v hv => hw v (List.mem_cons_of_mem _ hv)

/-! ### all knots hang together -/
inductive Conn (T : List Tri) : Nat → Prop
  | zero : Conn T 0
  | fwd {u f v : Nat} : Conn T u → (u, f, v) ∈ T → Conn T v
  | bwd {u f v : Nat} : Conn T v → (u, f, v) ∈ T → Conn T u
theorem Conn.more {T T' : List Tri} {u : Nat} (h : Conn T u) (s : ∀ e ∈ T, e ∈ T') : Conn T' u := by
  induction h with
  | zero => exact .zero
  | fwd _ m ih => exact .fwd ih (s _ m)
  | bwd _ m ih => exact .bwd ih (s _ m)
def AllConn (T : List Tri) : Prop := ∀ u f v, (u, f, v) ∈ T → Conn T u ∧ Conn T v
theorem thread_conn {T : List Tri} {u x v : Nat} (h : threadT u x v ∈ T) (k : Conn T u) : Conn T v := by
  unfold threadT at h
  split at h
  · exact .fwd k h
  · exact .bwd k h
theorem loop_conn {t : List Nat} {fresh : Nat} {T : List Tri} (s : ∀ e ∈ loopT t fresh, e ∈ T) : ∀ k, k ≤ t.length → Conn T (knotAt t.length fresh k)
  | 0, _ => by
    unfold knotAt
    rw [if_pos (.inl rfl)]
    exact .zero
  | k + 1, h => thread_conn (s _ (List.mem_map.mpr ⟨k, List.mem_range.mpr h, rfl⟩)) (loop_conn s k (Nat.le_of_lt h))
theorem threadT_ends {P : Nat → Prop} {a x b u f v : Nat} (e : threadT a x b = (u, f, v)) (ha : P a) (hb : P b) : P u ∧ P v := by
  unfold threadT at e
  split at e
  · obtain ⟨rfl, _, rfl⟩ : a = u ∧ x / 2 = f ∧ b = v := by simpa using e
    exact ⟨ha, hb⟩
  · obtain ⟨rfl, _, rfl⟩ : b = u ∧ x / 2 = f ∧ a = v := by simpa using e
    exact ⟨hb, ha⟩
theorem loops_conn {T : List Tri} (h : AllConn T) (w : List Nat) : AllConn (loopsStep T w) := by
  unfold loopsStep
  split
  · intro u f v m
    rcases List.mem_append.mp m with q | q
    · obtain ⟨a, b⟩ := h u f v q
      exact ⟨a.more fun e he => List.mem_append_left _ he, b.more fun e he => List.mem_append_left _ he⟩
    · obtain ⟨k, hk, e⟩ := List.mem_map.mp q
      have hk' := List.mem_range.mp hk
      have s : ∀ e ∈ loopT (taut w) (1 + T.length), e ∈ T ++ loopT (taut w) (1 + T.length) := fun e he => List.mem_append_right _ he
      exact threadT_ends e (loop_conn s k (Nat.le_of_lt hk')) (loop_conn s (k + 1) hk')
  · exact h
theorem loopsT_conn (ws : List (List Nat)) : AllConn (loopsT ws) := by
  have go : ∀ (ws : List (List Nat)) (T : List Tri), AllConn T → AllConn (ws.foldl loopsStep T) := by
    intro ws
    induction ws with
    | nil => intro T h; exact h
    | cons w ws ih => intro T h; exact ih _ (loops_conn h w)
  exact go ws [] fun u f v m => by cases m
theorem Conn.col {E T : List Tri} {r : Nat → Nat} (c : Col E r T) {u : Nat} (h : Conn E u) : Conn T (r u) := by
  induction h with
  | zero => rw [c.zero]; exact .zero
  | fwd _ m ih => exact .fwd ih ((c.mem _ _ _).mpr ⟨_, _, m, rfl, rfl⟩)
  | bwd _ m ih => exact .bwd ih ((c.mem _ _ _).mpr ⟨_, _, m, rfl, rfl⟩)
theorem Folded.conn {E T : List Tri} (h : Folded E T) (k : AllConn E) : AllConn T := by
  obtain ⟨r, c⟩ := h.ex
  intro u f v m
  obtain ⟨a, b, m', rfl, rfl⟩ := (c.mem _ _ _).mp m
  exact ⟨(k _ _ _ m').1.col c, (k _ _ _ m').2.col c⟩
theorem Conn.comes {T : List Tri} {n : Nat} (no : NoClash T) (hn : ∀ u f v, (u, f, v) ∈ T → f < n) {u : Nat} (h : Conn T u) : Comes (stepT T) n u := by
  induction h with
  | zero => exact ⟨[], (fun x hx => by cases hx), rfl⟩
  | fwd _ m ih =>
    rename_i u f v _
    obtain ⟨w, h1, h2⟩ := ih
    refine ⟨w ++ [2 * f], fun x hx => ?_, ?_⟩
    · rcases List.mem_append.mp hx with q | q
      · exact h1 x q
      · have e : x = 2 * f := by simpa using q
        have := hn _ _ _ m
        omega
    · rw [pathT_append, h2]
      show (stepT T u (2 * f)).bind _ = _
      have s : stepT T u (2 * f) = some v := (stepT_iff no).mpr (by
        unfold Leads
        rw [if_pos (by omega), show 2 * f / 2 = f by omega]
        exact m)
      rw [s]
      rfl
  | bwd _ m ih =>
    rename_i u f v _
    obtain ⟨w, h1, h2⟩ := ih
    refine ⟨w ++ [2 * f + 1], fun x hx => ?_, ?_⟩
    · rcases List.mem_append.mp hx with q | q
      · exact h1 x q
      · have e : x = 2 * f + 1 := by simpa using q
        have := hn _ _ _ m
        omega
    · rw [pathT_append, h2]
      show (stepT T v (2 * f + 1)).bind _ = _
      have s : stepT T v (2 * f + 1) = some u := (stepT_iff no).mpr (by
        unfold Leads
        rw [if_neg (by omega), show (2 * f + 1) / 2 = f by omega]
        exact m)
      rw [s]
      rfl

/-! ### the graph of both -/
theorem walked_is {l : List Edge} (hE : Evens l) (n : Nat) : ∀ (f i : Nat) (k : Ways), walked n l f i k = (List.range' i f).foldl (walkKnot (stepT (l.map tri)) n) k
  | 0, i, k => rfl
  | f + 1, i, k => by
    unfold walked
    rw [List.range'_succ, List.foldl_cons]
    cases e : k[i]? with
    | none =>
      have stay : ∀ (f i : Nat) (k : Ways), k[i]? = none → (List.range' i f).foldl (walkKnot (stepT (l.map tri)) n) k = k := by
        intro f
        induction f with
        | zero => intro i k _; rfl
        | succ f ih =>
          intro i k h
          rw [List.range'_succ, List.foldl_cons]
          have e : walkKnot (stepT (l.map tri)) n k i = k := by unfold walkKnot; rw [h]
          rw [e]
          exact ih (i + 1) k (List.getElem?_eq_none (by have := List.getElem?_eq_none_iff.mp h; omega))
      have e1 : walkKnot (stepT (l.map tri)) n k i = k := by unfold walkKnot; rw [e]
      rw [e1, stay f (i + 1) k (List.getElem?_eq_none (by have := List.getElem?_eq_none_iff.mp e; omega))]
    | some z =>
      dsimp only
      rw [walked_is hE n f (i + 1)]
      congr 1
      unfold walkKnot
      rw [e]
      dsimp only
      congr 1
      funext acc x
      unfold walkTurn
      rw [stepBy_is hE]
      rfl
/-- all that is known of the specification's graph M and the program's threads T -/
structure Both (n : Nat) (M : Made) (T : List Tri) (P Q : Nat → Nat) (K : Nat) : Prop where
  ev : Evens M.edges
  nd : M.edges.Nodup
  no : NoClash (M.edges.map tri)
  no' : NoClash T
  ren : Ren (M.edges.map tri) T P Q
  ways : M.ways = walkTo (stepT (M.edges.map tri)) n (K + 1)
  below : ∀ u, Knot (M.edges.map tri) u → u < K
  letters : ∀ u f v, (u, f, v) ∈ T → f < n
  conn : AllConn T
theorem both_of {n : Nat} {ws : List (List Nat)} {T : List Tri} (hw : ∀ w ∈ ws, ∀ x ∈ w, x < 2 * n) (h : Folded (loopsT ws) T) : ∃ P Q K, Both n (graphOf n ws) T P Q K := by
  obtain ⟨p, q, hN⟩ := named_all ws ⟨1, []⟩ [] id id (.start n) hw
  change Named n (ws.foldl addLoop ⟨1, []⟩) (loopsT ws) p q at hN
  unfold graphOf
  dsimp only
  generalize ws.foldl addLoop ⟨1, []⟩ = g at hN
  have ev0 : Evens g.edges := fun e he => (hN.below e he).2.2.1
  have ev1 : Evens g.edges.eraseDups := fun e he => ev0 e (List.mem_eraseDups.mp he)
  have inE : ∀ a f b, (a, f, b) ∈ g.edges.map tri → a < g.knots ∧ b < g.knots ∧ f < n := fun a f b m => by
    rw [mem_tri ev0] at m
    obtain ⟨x, y, _, z⟩ := hN.below _ m
    refine ⟨x, y, ?_⟩
    dsimp only at z
    omega
  have c0 : Col (g.edges.map tri) id (g.edges.eraseDups.map tri) := Col.start fun e => by
    rw [List.mem_map, List.mem_map]
    exact ⟨fun ⟨a, m, k⟩ => ⟨a, List.mem_eraseDups.mp m, k⟩, fun ⟨a, m, k⟩ => ⟨a, List.mem_eraseDups.mpr m, k⟩⟩
  obtain ⟨fo, ev, nd⟩ := foldAll_is hN.pos (fun a f b m => ⟨(inE a f b m).1, (inE a f b m).2.1⟩) g.knots _ id c0 ev1 (nodup_eraseDups _ _ (Nat.le_refl _)) (fixed_le _ _)
  generalize foldAll g.knots g.edges.eraseDups = l at fo ev nd
  obtain ⟨r, c⟩ := fo.ex
  obtain ⟨r', c'⟩ := h.ex
  have rn : Ren (g.edges.map tri) (loopsT ws) p q := by
    refine ⟨fun u f v => ?_, fun a f b m => ?_, hN.zero, hN.zero'⟩
    · rw [hN.eq, List.mem_map]
      constructor
      · rintro ⟨e, he, k⟩
        obtain ⟨k1, k2, k3⟩ : p e.from_ = u ∧ e.by_ / 2 = f ∧ p e.to_ = v := by simpa using k
        refine ⟨e.from_, e.to_, ?_, k1, k3⟩
        rw [← k2]
        exact List.mem_map.mpr ⟨e, he, rfl⟩
      · rintro ⟨a, b, m, k1, k3⟩
        rw [mem_tri ev0] at m
        refine ⟨_, m, ?_⟩
        dsimp only
        rw [k1, k3, show 2 * f / 2 = f by omega]
    · obtain ⟨x, y, _⟩ := inE a f b m
      exact ⟨(hN.inv a x).1, (hN.inv b y).1⟩
  have lets : ∀ u f v, (u, f, v) ∈ T → f < n := fun u f v m => by
    obtain ⟨a, b, m', _, _⟩ := (c'.mem _ _ _).mp m
    obtain ⟨a', b', m'', _, _⟩ := (rn.mem _ _ _).mp m'
    exact (inE _ _ _ m'').2.2
  refine ⟨_, _, g.knots, ⟨ev, nd, fo.no, h.no, rn.folded c c' fo.no h.no, ?_, fun u hu => ?_, lets, h.conn (loopsT_conn ws)⟩⟩
  · dsimp only
    rw [walked_is ev]
    unfold walkTo
    rw [List.range_eq_range']
  · dsimp only at hu
    rcases hu with rfl | ⟨f, v, m | m⟩
    · exact hN.pos
    · obtain ⟨a, b, m', rfl, _⟩ := (c.mem _ _ _).mp m
      have := c.le a
      have := (inE _ _ _ m').1
      omega
    · obtain ⟨a, b, m', _, rfl⟩ := (c.mem _ _ _).mp m
      have := c.le b
      have := (inE _ _ _ m').2.1
      omega
end Fc
/-! What's answered of a graph: by the program's threads as by the specification's. -/
namespace Fc
open Vbcjai

/-- the thread that a turn passes, told by the knot that it leaves and its finger -/
def passedT (u x v : Nat) : Nat × Nat := if x % 2 = 0 then (u, x / 2) else (v, x / 2)
/-- passed on the ways -/
def OnW (W : Ways) (u f : Nat) : Prop := ∃ z ∈ W, ∃ y ∈ W, ∃ x, z.2 = y.2 ++ [x] ∧ passedT y.1 x z.1 = (u, f)
theorem onW_new {stp : Nat → Nat → Option Nat} {n : Nat} {W : Ways} (h : WOk stp n W) {y : Nat × List Nat} (hy : y ∈ W) {x v : Nat} (h' : WOk stp n (W ++ [(v, y.2 ++ [x])])) (c : hasW W v ≠ true) (u f : Nat) :
    OnW (W ++ [(v, y.2 ++ [x])]) u f ↔ OnW W u f ∨ passedT y.1 x v = (u, f) := by
  constructor
  · rintro ⟨a, ha, b, hb, t, e, p⟩
    rcases List.mem_append.mp ha with qa | qa
    · rcases List.mem_append.mp hb with qb | qb
      · exact .inl ⟨a, qa, b, qb, t, e, p⟩
      · have e2 : b = (v, y.2 ++ [x]) := by simpa using qb
        rcases h.from_ a qa with r | ⟨b', hb', t', _, _, e3⟩
        · rw [r] at e
          have z := congrArg List.length e
          simp at z
        · have e4 : b'.2 = b.2 := by
            rw [e3] at e
            have z := congrArg List.dropLast e
            simpa using z
          have e5 := h'.way (List.mem_append_left _ hb') hb e4
          have e6 : b'.1 = v := by rw [e5, e2]
          exact absurd (hasW_iff.mpr (List.mem_map.mpr ⟨b', hb', e6⟩)) c
    · have e2 : a = (v, y.2 ++ [x]) := by simpa using qa
      rw [e2] at e
      have z1 : y.2 = b.2 := by
        have z := congrArg List.dropLast e
        simpa using z
      have z2 : x = t := by
        have z := congrArg List.getLast? e
        simpa using z
      have e5 := h'.way (List.mem_append_left _ hy) hb z1
      refine .inr ?_
      rw [e5, z2]
      rw [e2] at p
      exact p
  · rintro (⟨a, ha, b, hb, t, e, p⟩ | p)
    · exact ⟨a, List.mem_append_left _ ha, b, List.mem_append_left _ hb, t, e, p⟩
    · exact ⟨(v, y.2 ++ [x]), by simp, y, List.mem_append_left _ hy, x, rfl, p⟩
theorem onW_start (u f : Nat) : ¬ OnW [(0, [])] u f := by
  rintro ⟨z, hz, y, hy, x, e, _⟩
  have e2 : z = (0, []) := by simpa using hz
  rw [e2] at e
  have z := congrArg List.length e
  simp at z
def wayT (W : Ways) (u : Nat) : List Nat := ((W.find? fun z => z.1 == u).map fun z => z.2).getD []
theorem wayT_of {stp : Nat → Nat → Option Nat} {n : Nat} {W : Ways} (h : WOk stp n W) {z : Nat × List Nat} (hz : z ∈ W) : wayT W z.1 = z.2 := by
  unfold wayT
  rw [find_way h hz]
  rfl
/-- what the knots of threads are, each once -/
structure KnotsOf (T : List Tri) (N : List Nat) : Prop where
  nd : N.Nodup
  mem : ∀ u, u ∈ N ↔ Knot T u
theorem path_knot {T : List Tri} (no : NoClash T) : ∀ (w : List Nat) (u v : Nat), Knot T u → pathT (stepT T) u w = some v → Knot T v
  | [], u, v, k, h => by
    have e : u = v := Option.some.inj h
    rw [← e]; exact k
  | x :: w, u, v, k, h => by
    change (stepT T u x).bind _ = _ at h
    cases e : stepT T u x with
    | none => rw [e] at h; cases h
    | some y =>
      rw [e] at h
      exact path_knot no w y v ((stepT_iff no).mp e).knot h
section
variable {n : Nat} {M : Made} {T : List Tri} {P Q : Nat → Nat} {K : Nat}
theorem Both.step (b : Both n M T P Q K) {u : Nat} (k : Knot (M.edges.map tri) u) (x : Nat) : stepT T (P u) x = (stepT (M.edges.map tri) u x).map P := b.ren.step b.no b.no' k x
theorem Both.inj (b : Both n M T P Q K) {u v : Nat} (ku : Knot (M.edges.map tri) u) (kv : Knot (M.edges.map tri) v) (e : P u = P v) : u = v := by
  rw [← b.ren.knot ku, e, b.ren.knot kv]
theorem Both.good (b : Both n M T P Q K) : ∀ u x v, Knot (M.edges.map tri) u → stepT (M.edges.map tri) u x = some v → Knot (M.edges.map tri) v := fun _ _ _ _ h => ((stepT_iff b.no).mp h).knot
theorem Both.walk (b : Both n M T P Q K) (m : Nat) : walkTo (stepT T) n m = renW P (walkTo (stepT (M.edges.map tri)) n m) ∧ ∀ y ∈ walkTo (stepT (M.edges.map tri)) n m, Knot (M.edges.map tri) y.1 :=
  walk_ren (fun _ _ ku kv e => b.inj ku kv e) b.good (fun _ x k => b.step k x) (.inl rfl) b.ren.zero n m
theorem Both.knot' (b : Both n M T P Q K) {v : Nat} (h : Knot T v) : ∃ u, Knot (M.edges.map tri) u ∧ P u = v := by
  rcases h with rfl | ⟨f, w, m | m⟩
  · exact ⟨0, .inl rfl, b.ren.zero⟩
  · obtain ⟨x, y, m', e, _⟩ := (b.ren.mem _ _ _).mp m
    exact ⟨x, .inr ⟨f, y, .inl m'⟩, e⟩
  · obtain ⟨x, y, m', _, e⟩ := (b.ren.mem _ _ _).mp m
    exact ⟨y, .inr ⟨f, x, .inr m'⟩, e⟩
theorem Both.knotP (b : Both n M T P Q K) {u : Nat} (h : Knot (M.edges.map tri) u) : Knot T (P u) := by
  rcases h with rfl | ⟨f, w, m | m⟩
  · rw [b.ren.zero]; exact .inl rfl
  · exact .inr ⟨f, P w, .inl (b.ren.hom _ _ _ m)⟩
  · exact .inr ⟨f, P w, .inr (b.ren.hom _ _ _ m)⟩
theorem Both.comes (b : Both n M T P Q K) {v : Nat} (h : Knot T v) : Comes (stepT T) n v := by
  rcases h with rfl | ⟨f, w, m | m⟩
  · exact Conn.zero.comes b.no' b.letters
  · exact (b.conn _ _ _ m).1.comes b.no' b.letters
  · exact (b.conn _ _ _ m).2.comes b.no' b.letters
variable {N : List Nat}
theorem Both.few (b : Both n M T P Q K) (hN : KnotsOf T N) : N.length ≤ K := by
  have h := nodup_le (b := (List.range K).map P) hN.nd fun v hv => by
    obtain ⟨u, k, e⟩ := b.knot' ((hN.mem v).mp hv)
    exact List.mem_map.mpr ⟨u, List.mem_range.mpr (b.below u k), e⟩
  rw [List.length_map, List.length_range] at h
  exact h
theorem Both.there (b : Both n M T P Q K) (hN : KnotsOf T N) {m : Nat} (hm : m < N.length) : m < (walkTo (stepT T) n m).length :=
  walk_there hN.nd (fun v hv => b.comes ((hN.mem v).mp hv)) hm
theorem Both.all (b : Both n M T P Q K) (hN : KnotsOf T N) : (walkTo (stepT T) n N.length).length = N.length ∧ ∀ v ∈ N, hasW (walkTo (stepT T) n N.length) v = true :=
  walk_all hN.nd (fun v hv => b.comes ((hN.mem v).mp hv)) (fun v hv => by
    obtain ⟨e, k⟩ := b.walk N.length
    rw [e, hasW_iff, List.mem_map] at hv
    obtain ⟨z, hz, rfl⟩ := hv
    unfold renW at hz
    obtain ⟨y, hy, rfl⟩ := List.mem_map.mp hz
    exact (hN.mem _).mpr (b.knotP (k y hy))) (Nat.le_refl _)
/-- **the ways of both** -/
theorem Both.same (b : Both n M T P Q K) (hN : KnotsOf T N) : walkTo (stepT T) n N.length = renW P M.ways := by
  rw [b.ways, ← (b.walk (K + 1)).1]
  have h := b.few hN
  have e : K + 1 = N.length + (K + 1 - N.length) := by omega
  rw [e, walk_stays (Nat.le_of_eq (b.all hN).1)]
theorem Both.wok (b : Both n M T P Q K) : WOk (stepT (M.edges.map tri)) n M.ways := by rw [b.ways]; exact walk_ok _ _ _
theorem Both.goods (b : Both n M T P Q K) : ∀ y ∈ M.ways, Knot (M.edges.map tri) y.1 := by rw [b.ways]; exact (b.walk _).2
theorem Both.has (b : Both n M T P Q K) (hN : KnotsOf T N) {u : Nat} (k : Knot (M.edges.map tri) u) : ∃ z ∈ M.ways, z.1 = u := by
  have h := (b.all hN).2 (P u) ((hN.mem _).mpr (b.knotP k))
  rw [b.same hN, has_ren (G := Knot (M.edges.map tri)) (fun _ _ ku kv e => b.inj ku kv e) b.goods k, hasW_iff, List.mem_map] at h
  obtain ⟨z, hz, e⟩ := h
  exact ⟨z, hz, e⟩
/-- how many knots -/
theorem Both.count (b : Both n M T P Q K) (hN : KnotsOf T N) : M.ways.length = N.length := by
  have h := (b.all hN).1
  rw [b.same hN] at h
  unfold renW at h
  rw [List.length_map] at h
  exact h

/-! ### made or not -/
theorem Both.path (b : Both n M T P Q K) : ∀ (w : List Nat) (u : Nat), Knot (M.edges.map tri) u → pathT (stepT T) (P u) w = (pathT (stepT (M.edges.map tri)) u w).map P
  | [], u, _ => rfl
  | x :: w, u, k => by
    show (stepT T (P u) x).bind _ = ((stepT _ u x).bind _).map P
    rw [b.step k]
    cases e : stepT (M.edges.map tri) u x with
    | none => rfl
    | some v => exact b.path w v (b.good _ _ _ k e)
theorem pathBy_is {l : List Edge} (hE : Evens l) : ∀ (w : List Nat) (u : Nat), pathBy l u w = pathT (stepT (l.map tri)) u w
  | [], u => rfl
  | x :: w, u => by
    show (stepBy l u x).bind _ = (stepT _ u x).bind _
    rw [stepBy_is hE]
    congr 1
    funext v
    exact pathBy_is hE w v
theorem Both.made (b : Both n M T P Q K) (w : List Nat) : isMade M w = decide (pathT (stepT T) 0 (taut w) = some 0) := by
  unfold isMade
  rw [pathBy_is b.ev]
  have e := b.path (taut w) 0 (.inl rfl)
  rw [b.ren.zero] at e
  rw [e]
  cases h : pathT (stepT (M.edges.map tri)) 0 (taut w) with
  | none => rfl
  | some v =>
    have kv := path_knot b.no _ _ _ (.inl rfl) h
    have q : P v = 0 ↔ v = 0 := ⟨fun z => b.inj kv (.inl rfl) (by rw [z, b.ren.zero]), fun z => by rw [z, b.ren.zero]⟩
    show (some v == some 0) = decide (some (P v) = some 0)
    by_cases c : v = 0
    · rw [c, b.ren.zero]
      rfl
    · have c' : P v ≠ 0 := fun z => c (q.mp z)
      rw [decide_eq_false (by simpa using c')]
      simpa using c

/-! ### the free threads -/
/-- of an edge: the knot that it leaves by the program's name, its finger -/
def nameE (P : Nat → Nat) (e : Edge) : Nat × Nat := (P e.from_, e.by_ / 2)
theorem Both.tree (b : Both n M T P Q K) (hN : KnotsOf T N) {e : Edge} (he : e ∈ M.edges) : isTree M e = true ↔ OnW (renW P M.ways) (P e.from_) (e.by_ / 2) := by
  have ev := b.ev e he
  have m : (e.from_, e.by_ / 2, e.to_) ∈ M.edges.map tri := List.mem_map.mpr ⟨e, he, rfl⟩
  have ku : Knot (M.edges.map tri) e.from_ := .inr ⟨_, _, .inl m⟩
  have kv : Knot (M.edges.map tri) e.to_ := .inr ⟨_, _, .inr m⟩
  obtain ⟨zu, hzu, eu⟩ := b.has hN ku
  obtain ⟨zv, hzv, ev'⟩ := b.has hN kv
  have wu : wayTo M e.from_ = zu.2 := by rw [← eu]; exact wayT_of b.wok hzu
  have wv : wayTo M e.to_ = zv.2 := by rw [← ev']; exact wayT_of b.wok hzv
  unfold isTree
  rw [wu, wv, Bool.or_eq_true, beq_iff_eq, beq_iff_eq]
  have od : other e.by_ = e.by_ + 1 := by unfold other; rw [if_pos ev]
  rw [od]
  have mem : ∀ {z : Nat × List Nat}, z ∈ M.ways → (P z.1, z.2) ∈ renW P M.ways := fun {z} hz => List.mem_map.mpr ⟨z, hz, rfl⟩
  constructor
  · rintro (h | h)
    · refine ⟨_, mem hzv, _, mem hzu, e.by_, h, ?_⟩
      unfold passedT
      rw [if_pos ev, eu]
    · refine ⟨_, mem hzu, _, mem hzv, e.by_ + 1, h, ?_⟩
      unfold passedT
      rw [if_neg (by omega), eu, show (e.by_ + 1) / 2 = e.by_ / 2 by omega]
  · rintro ⟨z', hz', y', hy', x, q, p⟩
    obtain ⟨z, hz, rfl⟩ := List.mem_map.mp hz'
    obtain ⟨y, hy, rfl⟩ := List.mem_map.mp hy'
    dsimp only at q p
    -- z was found from y by x
    have lead : stepT (M.edges.map tri) y.1 x = some z.1 := by
      have a := b.wok.path z hz
      rw [q, pathT_append, b.wok.path y hy] at a
      change (stepT _ y.1 x).bind _ = _ at a
      cases s : stepT (M.edges.map tri) y.1 x with
      | none => rw [s] at a; cases a
      | some v => rw [s] at a; exact a
    have L := (stepT_iff b.no).mp lead
    unfold passedT at p
    unfold Leads at L
    by_cases c : x % 2 = 0
    · rw [if_pos c] at p L
      have p1 : P y.1 = P e.from_ := congrArg Prod.fst p
      have p2 : x / 2 = e.by_ / 2 := congrArg Prod.snd p
      have e1 := b.inj (b.goods y hy) ku p1
      rw [e1, p2] at L
      have e2 := b.no.out L m
      have e3 : x = e.by_ := by omega
      have y1 := b.wok.key hy hzu (by rw [e1, eu])
      have z1 := b.wok.key hz hzv (by rw [e2, ev'])
      refine .inl ?_
      rw [← z1, ← y1, ← e3]
      exact q
    · rw [if_neg c] at p L
      have p1 : P z.1 = P e.from_ := congrArg Prod.fst p
      have p2 : x / 2 = e.by_ / 2 := congrArg Prod.snd p
      have e1 := b.inj (b.goods z hz) ku p1
      rw [e1, p2] at L
      have e2 := b.no.out L m
      have e3 : x = e.by_ + 1 := by omega
      have y1 := b.wok.key hy hzv (by rw [e2, ev'])
      have z1 := b.wok.key hz hzu (by rw [e1, eu])
      refine .inr ?_
      rw [← z1, ← y1, ← e3]
      exact q
/-- a knot's free threads, by the program: O tells which are on the ways -/
def freeAt (T : List Tri) (n : Nat) (O : Nat → Nat → Bool) (u : Nat) : List (Nat × Nat) := ((List.range n).filter fun f => (stepT T u (2 * f)).isSome && !O u f).map fun f => (u, f)
def freeT (T : List Tri) (n : Nat) (O : Nat → Nat → Bool) (W : Ways) : List (Nat × Nat) := W.flatMap fun z => freeAt T n O z.1
theorem filter_one {p : Edge → Bool} : ∀ {l : List Edge} {e : Edge}, l.Nodup → e ∈ l → p e = true → (∀ a ∈ l, p a = true → a = e) → l.filter p = [e]
  | [], e, _, h, _, _ => by cases h
  | a :: l, e, nd, h, hp, one => by
    have q := List.nodup_cons.mp nd
    rcases List.mem_cons.mp h with k | k
    · subst k
      rw [List.filter_cons_of_pos hp]
      congr 1
      rw [List.filter_eq_nil_iff]
      intro b hb hpb
      exact q.1 (one b (List.mem_cons_of_mem _ hb) hpb ▸ hb)
    · have na : p a ≠ true := fun c => q.1 (one a List.mem_cons_self c ▸ k)
      rw [List.filter_cons_of_neg na]
      exact filter_one q.2 k hp fun b hb => one b (List.mem_cons_of_mem _ hb)
theorem Both.freeK (b : Both n M T P Q K) (hN : KnotsOf T N) {O : Nat → Nat → Bool} (hO : ∀ u f, O u f = true ↔ OnW (renW P M.ways) u f) {u : Nat} (k : Knot (M.edges.map tri) u) : ∀ l : List Nat,
    (l.flatMap fun i => M.edges.filter fun e => e.from_ == u && (e.by_ == 2 * i && !isTree M e)).map (nameE P) = (l.filter fun f => (stepT T (P u) (2 * f)).isSome && !O (P u) f).map fun f => (P u, f)
  | [] => rfl
  | i :: l => by
    rw [List.flatMap_cons, List.map_append, b.freeK hN hO k l]
    cases s : stepT (M.edges.map tri) u (2 * i) with
    | none =>
      have z : M.edges.filter (fun e => e.from_ == u && (e.by_ == 2 * i && !isTree M e)) = [] := by
        rw [List.filter_eq_nil_iff]
        intro e he h
        rw [Bool.and_eq_true, Bool.and_eq_true, beq_iff_eq, beq_iff_eq] at h
        have L : Leads (M.edges.map tri) u (2 * i) e.to_ := by
          unfold Leads
          rw [if_pos (by omega)]
          refine List.mem_map.mpr ⟨e, he, ?_⟩
          unfold tri
          rw [h.1, h.2.1]
        rw [(stepT_iff b.no).mpr L] at s
        cases s
      rw [z, List.filter_cons_of_neg (by rw [b.step k, s]; simp)]
      rfl
    | some v =>
      have L := (stepT_iff b.no).mp s
      unfold Leads at L
      rw [if_pos (by omega), show 2 * i / 2 = i by omega, mem_tri b.ev] at L
      have hs : (stepT T (P u) (2 * i)).isSome = true := by rw [b.step k, s]; rfl
      have tr := b.tree hN L
      dsimp only at tr
      rw [show 2 * i / 2 = i by omega, ← hO] at tr
      cases c : O (P u) i with
      | true =>
        have z : M.edges.filter (fun e => e.from_ == u && (e.by_ == 2 * i && !isTree M e)) = [] := by
          rw [List.filter_eq_nil_iff]
          intro e he h
          rw [Bool.and_eq_true, Bool.and_eq_true, beq_iff_eq, beq_iff_eq] at h
          have e1 : e = ⟨u, 2 * i, v⟩ := by
            obtain ⟨x, y, w⟩ := e
            obtain ⟨h1, h2, _⟩ := h
            dsimp only at h1 h2
            subst h1
            subst h2
            have a1 : (x, 2 * i / 2, w) ∈ M.edges.map tri := List.mem_map.mpr ⟨_, he, rfl⟩
            have a2 : (x, 2 * i / 2, v) ∈ M.edges.map tri := List.mem_map.mpr ⟨_, L, rfl⟩
            rw [b.no.out a1 a2]
          rw [e1, tr.mpr c] at h
          simp at h
        rw [z, List.filter_cons_of_neg (by rw [hs, c]; simp)]
        rfl
      | false =>
        have nt : isTree M ⟨u, 2 * i, v⟩ = false := by
          cases q : isTree M ⟨u, 2 * i, v⟩ with
          | false => rfl
          | true => rw [tr.mp q] at c; cases c
        have z : M.edges.filter (fun e => e.from_ == u && (e.by_ == 2 * i && !isTree M e)) = [⟨u, 2 * i, v⟩] := by
          refine filter_one b.nd L (by simp [nt]) fun e he h => ?_
          rw [Bool.and_eq_true, Bool.and_eq_true, beq_iff_eq, beq_iff_eq] at h
          obtain ⟨x, y, w⟩ := e
          obtain ⟨h1, h2, _⟩ := h
          dsimp only at h1 h2
          subst h1
          subst h2
          have a1 : (x, 2 * i / 2, w) ∈ M.edges.map tri := List.mem_map.mpr ⟨_, he, rfl⟩
          have a2 : (x, 2 * i / 2, v) ∈ M.edges.map tri := List.mem_map.mpr ⟨_, L, rfl⟩
          rw [b.no.out a1 a2]
        rw [z, List.filter_cons_of_pos (by rw [hs, c]; rfl)]
        show nameE P ⟨u, 2 * i, v⟩ :: _ = _
        have e2 : nameE P ⟨u, 2 * i, v⟩ = (P u, i) := by
          unfold nameE
          dsimp only
          rw [show 2 * i / 2 = i by omega]
        rw [e2]
        rfl
/-- **the free threads of both** -/
theorem Both.free (b : Both n M T P Q K) (hN : KnotsOf T N) {O : Nat → Nat → Bool} (hO : ∀ u f, O u f = true ↔ OnW (walkTo (stepT T) n N.length) u f) : (Vbcjai.free n M).map (nameE P) = freeT T n O (walkTo (stepT T) n N.length) := by
  rw [b.same hN] at hO ⊢
  unfold Vbcjai.free freeT renW
  have go : ∀ W : Ways, (∀ y ∈ W, Knot (M.edges.map tri) y.1) → (W.flatMap fun z => (List.range n).flatMap fun i => M.edges.filter fun e => e.from_ == z.1 && (e.by_ == 2 * i && !isTree M e)).map (nameE P) = (W.map fun z => (P z.1, z.2)).flatMap fun z => freeAt T n O z.1 := by
    intro W
    induction W with
    | nil => intro _; rfl
    | cons z W ih =>
      intro hW
      rw [List.flatMap_cons, List.map_append, ih fun y hy => hW y (List.mem_cons_of_mem _ hy), List.map_cons, List.flatMap_cons]
      congr 1
      exact b.freeK hN hO (hW z List.mem_cons_self) (List.range n)
  exact go M.ways b.goods

/-! ### the basis -/
def basisT (T : List Tri) (W : Ways) (F : List (Nat × Nat)) : List (List Nat) := F.map fun z => taut (wayT W z.1 ++ [2 * z.2] ++ back (wayT W ((stepT T z.1 (2 * z.2)).getD 0)))
theorem free_edge {e : Edge} (h : e ∈ Vbcjai.free n M) : e ∈ M.edges ∧ ∃ i, i < n ∧ e.by_ = 2 * i := by
  unfold Vbcjai.free at h
  obtain ⟨z, _, h⟩ := List.mem_flatMap.mp h
  obtain ⟨i, hi, h⟩ := List.mem_flatMap.mp h
  obtain ⟨h1, h2⟩ := List.mem_filter.mp h
  rw [Bool.and_eq_true, Bool.and_eq_true, beq_iff_eq, beq_iff_eq] at h2
  exact ⟨h1, i, List.mem_range.mp hi, h2.2.1⟩
theorem Both.way (b : Both n M T P Q K) (hN : KnotsOf T N) {u : Nat} (k : Knot (M.edges.map tri) u) : wayT (walkTo (stepT T) n N.length) (P u) = wayTo M u := by
  obtain ⟨z, hz, rfl⟩ := b.has hN k
  have a : (P z.1, z.2) ∈ walkTo (stepT T) n N.length := by rw [b.same hN]; exact List.mem_map.mpr ⟨z, hz, rfl⟩
  have e1 := wayT_of (walk_ok (stepT T) n N.length) a
  have e2 : wayTo M z.1 = z.2 := wayT_of b.wok hz
  rw [e2]
  exact e1
/-- **the basis of both** -/
theorem Both.basis (b : Both n M T P Q K) (hN : KnotsOf T N) {O : Nat → Nat → Bool} (hO : ∀ u f, O u f = true ↔ OnW (walkTo (stepT T) n N.length) u f) :
    Vbcjai.basis n M = basisT T (walkTo (stepT T) n N.length) (freeT T n O (walkTo (stepT T) n N.length)) := by
  rw [← b.free hN hO]
  unfold Vbcjai.basis basisT
  rw [List.map_map]
  refine List.map_congr_left fun e he => ?_
  obtain ⟨h1, i, _, h2⟩ := free_edge he
  obtain ⟨x, y, v⟩ := e
  dsimp only at h2
  subst h2
  have m : (x, i, v) ∈ M.edges.map tri := (mem_tri b.ev).mpr h1
  have s : stepT (M.edges.map tri) x (2 * i) = some v := (stepT_iff b.no).mpr (by
    unfold Leads
    rw [if_pos (by omega), show 2 * i / 2 = i by omega]
    exact m)
  have kx : Knot (M.edges.map tri) x := .inr ⟨_, _, .inl m⟩
  have kv : Knot (M.edges.map tri) v := .inr ⟨_, _, .inr m⟩
  show taut (wayTo M x ++ (2 * i :: back (wayTo M v))) = taut (wayT _ (P x) ++ [2 * (2 * i / 2)] ++ back (wayT _ ((stepT T (P x) (2 * (2 * i / 2))).getD 0)))
  rw [show 2 * i / 2 = i by omega, b.step kx, s, b.way hN kx]
  show _ = taut (wayTo M x ++ [2 * i] ++ back (wayT _ (P v)))
  rw [b.way hN kv, List.append_assoc]
  rfl

/-! ### told by the basis -/
/-- numbers from 1, below 0 backwards -/
def tellT (T : List Tri) (F : List (Nat × Nat)) : Nat → List Nat → List Int
  | _, [] => []
  | u, x :: r => match stepT T u x with
    | none => []
    | some v => (match F.idxOf? (passedT u x v) with
      | none => []
      | some k => [if x % 2 = 0 then ((k + 1 : Nat) : Int) else -((k + 1 : Nat) : Int)]) ++ tellT T F v r
theorem nameE_inj (b : Both n M T P Q K) {e d : Edge} (he : e ∈ M.edges) (hd : d ∈ M.edges) (h : nameE P e = nameE P d) : e = d := by
  obtain ⟨x, y, v⟩ := e
  obtain ⟨x', y', v'⟩ := d
  have h1 : P x = P x' := congrArg Prod.fst h
  have h2 : y / 2 = y' / 2 := congrArg Prod.snd h
  have m : (x, y / 2, v) ∈ M.edges.map tri := List.mem_map.mpr ⟨_, he, rfl⟩
  have m' : (x', y' / 2, v') ∈ M.edges.map tri := List.mem_map.mpr ⟨_, hd, rfl⟩
  have e1 := b.inj (.inr ⟨_, _, .inl m⟩) (.inr ⟨_, _, .inl m'⟩) h1
  subst e1
  rw [← h2] at m'
  have e2 := b.no.out m m'
  subst e2
  have a1 := b.ev _ he
  have a2 := b.ev _ hd
  dsimp only at a1 a2
  have e3 : y = y' := by omega
  subst e3
  rfl
theorem idx_name {α β : Type} [BEq α] [LawfulBEq α] [BEq β] [LawfulBEq β] {f : α → β} : ∀ {l : List α} {a : α}, (∀ c ∈ l, f c = f a → c = a) → (l.map f).idxOf? (f a) = if l.contains a = true then some (l.idxOf a) else none
  | [], a, _ => rfl
  | c :: l, a, inj => by
    rw [List.map_cons, List.idxOf?_cons]
    by_cases e : c = a
    · subst e
      simp
    · have ne : (f c == f a) = false := by
        rw [beq_eq_false_iff_ne]
        exact fun q => e (inj c List.mem_cons_self q)
      rw [ne, idx_name fun d hd => inj d (List.mem_cons_of_mem _ hd)]
      have nc : (a == c) = false := by rw [beq_eq_false_iff_ne]; exact fun q => e q.symm
      have nc' : (c == a) = false := by rw [beq_eq_false_iff_ne]; exact e
      rw [List.contains_cons, nc, Bool.false_or, List.idxOf_cons, nc']
      by_cases k : l.contains a = true
      · rw [if_pos k, if_pos k]
        rfl
      · rw [if_neg k, if_neg k]
        rfl
theorem Both.tell (b : Both n M T P Q K) {F : List (Nat × Nat)} (hF : (Vbcjai.free n M).map (nameE P) = F) : ∀ (w : List Nat) (u : Nat), Knot (M.edges.map tri) u →
    signed (byBasis M (Vbcjai.free n M) u w) = tellT T F (P u) w
  | [], u, _ => rfl
  | x :: w, u, k => by
    rw [byBasis, tellT, b.step k, stepBy_is b.ev]
    cases s : stepT (M.edges.map tri) u x with
    | none => rfl
    | some v =>
      dsimp only [Option.map_some]
      have kv := b.good _ _ _ k s
      have ih := b.tell hF w v kv
      unfold signed at ih ⊢
      rw [List.map_append, ih]
      congr 1
      have L := (stepT_iff b.no).mp s
      have me : edgeOf u x v ∈ M.edges := by
        unfold Leads at L
        unfold edgeOf
        by_cases c : x % 2 = 0
        · rw [if_pos c] at L ⊢
          rw [mem_tri b.ev, show 2 * (x / 2) = x by omega] at L
          exact L
        · rw [if_neg c] at L ⊢
          rw [mem_tri b.ev, show 2 * (x / 2) = x - 1 by omega] at L
          exact L
      have np : nameE P (edgeOf u x v) = passedT (P u) x (P v) := by
        unfold nameE edgeOf passedT
        by_cases c : x % 2 = 0
        · rw [if_pos c, if_pos c]
        · rw [if_neg c, if_neg c]
          dsimp only
          rw [show (x - 1) / 2 = x / 2 by omega]
      have ix := idx_name (f := nameE P) (l := Vbcjai.free n M) (a := edgeOf u x v) fun c hc h => nameE_inj b (free_edge hc).1 me h
      rw [hF, np] at ix
      rw [ix]
      by_cases c : (Vbcjai.free n M).contains (edgeOf u x v) = true
      · rw [if_pos c, if_pos c]
        generalize (Vbcjai.free n M).idxOf (edgeOf u x v) = j
        show [if (2 * j + x % 2) % 2 = 0 then _ else _] = [_]
        by_cases d : x % 2 = 0
        · rw [if_pos (by omega), if_pos d]
          have e : (2 * j + x % 2) / 2 + 1 = j + 1 := by omega
          rw [e]
          rfl
        · rw [if_neg (by omega), if_neg d]
          have e : (2 * j + x % 2) / 2 + 1 = j + 1 := by omega
          rw [e]
          rfl
      · rw [if_neg c, if_neg c]
        rfl

/-! ### full, onto -/
def fullT (T : List Tri) (n : Nat) (N : List Nat) : Bool := N.all fun u => (List.range (2 * n)).all fun x => (stepT T u x).isSome
theorem Both.full (b : Both n M T P Q K) (hN : KnotsOf T N) : (M.ways.all fun z => (List.range (2 * n)).all fun x => (stepBy M.edges z.1 x).isSome) = fullT T n N := by
  have h : (M.ways.all fun z => (List.range (2 * n)).all fun x => (stepBy M.edges z.1 x).isSome) = true ↔ fullT T n N = true := by
    unfold fullT
    rw [List.all_eq_true, List.all_eq_true]
    constructor
    · intro h u hu
      obtain ⟨v, kv, rfl⟩ := b.knot' ((hN.mem u).mp hu)
      obtain ⟨z, hz, rfl⟩ := b.has hN kv
      have q := h z hz
      rw [List.all_eq_true] at q ⊢
      intro x hx
      have a := q x hx
      rw [stepBy_is b.ev] at a
      rw [b.step kv, Option.isSome_map]
      exact a
    · intro h z hz
      have kz := b.goods z hz
      have q := h (P z.1) ((hN.mem _).mpr (b.knotP kz))
      rw [List.all_eq_true] at q ⊢
      intro x hx
      have a := q x hx
      rw [b.step kz, Option.isSome_map] at a
      rw [stepBy_is b.ev]
      exact a
  cases a : (M.ways.all fun z => (List.range (2 * n)).all fun x => (stepBy M.edges z.1 x).isSome) <;> cases c : fullT T n N <;> simp_all
theorem Both.index (b : Both n M T P Q K) (hN : KnotsOf T N) : indexOf n M = if fullT T n N = true then N.length else 0 := by
  unfold indexOf
  rw [b.full hN, b.count hN]
theorem Both.onto (b : Both n M T P Q K) (hN : KnotsOf T N) : ((List.range n).all fun i => isMade M [2 * i]) = (decide (N.length = 1) && fullT T n N) := by
  have made1 : ∀ i, isMade M [2 * i] = true ↔ stepT T 0 (2 * i) = some 0 := fun i => by
    rw [b.made, decide_eq_true_iff]
    show (stepT T 0 (2 * i)).bind _ = some 0 ↔ _
    cases stepT T 0 (2 * i) with
    | none => exact Iff.rfl
    | some v => exact Iff.rfl
  have zero : 0 ∈ N := (hN.mem 0).mpr (.inl rfl)
  have h : ((List.range n).all fun i => isMade M [2 * i]) = true ↔ (decide (N.length = 1) && fullT T n N) = true := by
    rw [List.all_eq_true, Bool.and_eq_true, decide_eq_true_iff]
    constructor
    · intro h
      have fwd : ∀ i, i < n → stepT T 0 (2 * i) = some 0 := fun i hi => (made1 i).mp (h i (List.mem_range.mpr hi))
      have st : ∀ x, x < 2 * n → stepT T 0 x = some 0 := fun x hx => by
        by_cases c : x % 2 = 0
        · have e : x = 2 * (x / 2) := by omega
          rw [e]
          exact fwd (x / 2) (by omega)
        · have L := (stepT_iff b.no').mp (fwd (x / 2) (by omega))
          have L' := L.back
          have e : other (2 * (x / 2)) = x := by unfold other; rw [if_pos (by omega)]; omega
          rw [e] at L'
          exact (stepT_iff b.no').mpr L'
      have p0 : ∀ (w : List Nat), (∀ x ∈ w, x < 2 * n) → pathT (stepT T) 0 w = some 0 := by
        intro w
        induction w with
        | nil => intro _; rfl
        | cons x w ih =>
          intro hw
          show (stepT T 0 x).bind _ = _
          rw [st x (hw x List.mem_cons_self)]
          exact ih fun y hy => hw y (List.mem_cons_of_mem _ hy)
      have all0 : ∀ u ∈ N, u = 0 := fun u hu => by
        obtain ⟨w, h1, h2⟩ := b.comes ((hN.mem u).mp hu)
        rw [p0 w h1] at h2
        exact (Option.some.inj h2).symm
      have l1 : N.length = 1 := by
        have a := nodup_le (b := [0]) hN.nd fun u hu => by rw [all0 u hu]; exact List.mem_cons_self
        have p := List.length_pos_of_mem zero
        rw [List.length_singleton] at a
        omega
      refine ⟨l1, ?_⟩
      unfold fullT
      rw [List.all_eq_true]
      intro u hu
      rw [List.all_eq_true]
      intro x hx
      rw [all0 u hu, st x (List.mem_range.mp hx)]
      rfl
    · rintro ⟨l1, f⟩ i hi
      obtain ⟨a, e⟩ := List.length_eq_one_iff.mp l1
      have all0 : ∀ u ∈ N, u = 0 := fun u hu => by
        rw [e] at hu zero
        have z1 : u = a := by simpa using hu
        have z2 : 0 = a := by simpa using zero
        rw [z1, z2]
      unfold fullT at f
      rw [List.all_eq_true] at f
      have q := f 0 zero
      rw [List.all_eq_true] at q
      have s := q (2 * i) (List.mem_range.mpr (by have := List.mem_range.mp hi; omega))
      rw [made1]
      cases c : stepT T 0 (2 * i) with
      | none => rw [c] at s; cases s
      | some v =>
        have k := ((stepT_iff b.no').mp c).knot
        rw [all0 v ((hN.mem v).mpr k)]
  cases a : ((List.range n).all fun i => isMade M [2 * i]) <;> cases c : (decide (N.length = 1) && fullT T n N) <;> simp_all
end
end Fc
set_option maxRecDepth 100000
set_option maxHeartbeats 2000000
namespace Fc
open PySem PySem.Spec PyProof.Rows L2

/-! ### a def of the text, found by its global name -/
def top (i : Nat) : Stmt := PySem.Challenge.pw_fingercord_s01_answers.main.body.getD i (.Pass ⟨0, 0, 0, 0⟩)
/-- at the global name g stands the def st, called x -/
structure Has (K : PySem.W.Frag) (mg : Str → Option Value) (g x qual : Str) (st : Stmt) : Prop where
  ex : ∃ (f : Addr) (fd : FuncData), Fun K x qual st f fd ∧ mg g = some (.ref f)
/-- what stands at the global name g keeps the promise sp -/
structure Ok (P : Program) (w : World) (K : PySem.W.Frag) (mg : Str → Option Value) (base : Heap) (CX : CXT) (k : Nat) (g : Str) (ps : List Str) (sp : Sp) : Prop where
  ex : ∃ (f : Addr) (fd : FuncData), FnOk P w K mg base CX k f fd ps sp ∧ mg g = some (.ref f) ∧ PySem.W.keepIn K (.ref f) = true ∧ Binds K fd ps []
section
variable {P : Program} {w : World} {K : PySem.W.Frag} {mg : Str → Option Value} {base : Heap} {g x qual : Str} {st : Stmt} {N ps : List Str} {sp : Sp} {k : Nat}
/-- its arguments bind in order -/
def BindsP (x qual : Str) (st : Stmt) (ps : List Str) : Prop := ∀ (kV doc pm : Value) (an : Option Addr) (cdv ct : Value) (us : List Value), us.length = ps.length → bindArgs (PySem.W.fnOf x qual (defArgs st) (defBody st) (defScope st) .none kV doc pm an cdv ct) ⟨us, []⟩ = pure (ps.zip us)
theorem Has.ok (T : Has K mg g x qual st) (S : FnScope N ps (defScope st)) (b : BindsP x qual st ps) (len : ∀ vs H Q E, sp vs H Q E → vs.length = ps.length)
    (body : ∀ (f : Addr) (cdv : Value) (A : Around) (outer : List Env) (s : Shared) (H : Hp) (vs : List V) (Q : VK) (E : XK), Room k (A.deeper (envOfC qual (defScope st) s.heap.objs.size f cdv)) → sp vs H Q E →
      ∃ t, PSs (cxOf CX0 P w K mg base N qual (defScope st) f cdv A outer s H E).nox (defBody st) t ∧ t { nx := fun _ H' => Q .non H', rt := Q } (start N vs) H) : Ok P w K mg base CX0 (k + 1) g ps sp := by
  obtain ⟨f, fd, F, e⟩ := T.ex
  exact ⟨f, fd, F.ok S len (body f), e, F.kp, F.binds b⟩
theorem Has.okX (T : Has K mg g x qual st) (S : FnScope N ps (defScope st)) (b : BindsP x qual st ps) (len : ∀ vs H Q E, sp vs H Q E → vs.length = ps.length)
    (body : ∀ (f : Addr) (cdv : Value) (A : Around) (outer : List Env) (s : Shared) (H : Hp) (vs : List V) (Q : VK) (E : XK), Room k (A.deeper (envOfC qual (defScope st) s.heap.objs.size f cdv)) → sp vs H Q E →
      ∃ t, PSs (cxOf (L2.CX P w) P w K mg base N qual (defScope st) f cdv A outer s H E) (defBody st) t ∧ t { nx := fun _ H' => Q .non H', rt := Q } (start N vs) H) : Ok P w K mg base (L2.CX P w) (k + 1) g ps sp := by
  obtain ⟨f, fd, F, e⟩ := T.ex
  exact ⟨f, fd, F.okX S len (body f), e, F.kp, F.binds b⟩
end
section
variable {X : Cx} {CX : CXT} {k : Nat} {g : Str} {ps : List Str} {sp : Sp} {E : XK} {p pos : Pos} {e : Expr} {es : List Expr} {t : TA}
theorem pcall (F : Ok X.prog X.w X.K X.mg X.base CX k g ps sp) (hr : Room k X.A) (hg : Gl X g) (hx : Passes CX X E) (ha : PA X (e :: es) t) (hdb : (g == ("__debug__" : Str)) = false := by decide)
    (he : starEach (e :: es) X.env = (false, eval e X.env) :: starEach es X.env := by rfl) (hpl : (backTo pos (starEach es X.env)).any (·.1) = false := by rfl) :
    PE X (.Call (.Name g p) (e :: es) [] pos) (tCall sp [] E t) := by
  obtain ⟨f, fd, G, gm, kp, b⟩ := F.ex
  exact pe_call G hr hg gm kp b .nil hx ha hdb he hpl
end
/-! ### what holds of a value in a heap, and stays while the heap grows -/
abbrev Ex := Evl.Ex
abbrev ET := Evl.EvT
abbrev Rel := V → Hp → Prop
class Mono (R : Rel) : Prop where
  mono : ∀ {v : V} {H H' : Hp}, Ex H H' → R v H → R v H'
def IsV (x : V) : Rel := fun v _ => v = x
instance (x : V) : Mono (IsV x) := ⟨fun _ r => r⟩
abbrev IsI (i : Int) : Rel := IsV (.int i)
abbrev IsB (b : Bool) : Rel := IsV (.bl b)
/-- a list of these values -/
def IsL (xs : List V) : Rel := fun v H => ∃ p, v = .ref p ∧ H p = some (.lst xs)
instance (xs : List V) : Mono (IsL xs) := ⟨fun e ⟨p, a, b⟩ => ⟨p, a, e _ _ b⟩⟩
/-- a list of numbers -/
def iv (w : List Nat) : List V := w.map fun (x : Nat) => V.int (x : Int)
abbrev IsN (w : List Nat) : Rel := IsL (iv w)
def All2 : List Rel → List V → Hp → Prop
  | [], [], _ => True
  | R :: Rs, v :: vs, H => R v H ∧ All2 Rs vs H
  | _, _, _ => False
class MonoL (Rs : List Rel) : Prop where
  mono : ∀ {vs : List V} {H H' : Hp}, Ex H H' → All2 Rs vs H → All2 Rs vs H'
instance : MonoL [] := ⟨fun {vs _ _} _ r => by cases vs with | nil => exact r | cons _ _ => exact r⟩
instance (R : Rel) (Rs : List Rel) [a : Mono R] [b : MonoL Rs] : MonoL (R :: Rs) := ⟨fun {vs _ _} e r => by
  cases vs with
  | nil => exact r
  | cons v vs => exact ⟨a.mono e r.1, b.mono e r.2⟩⟩
/-- a tuple of such -/
def TupOf (Rs : List Rel) : Rel := fun v H => ∃ p xs, v = .ref p ∧ H p = some (.tup xs) ∧ All2 Rs xs H
instance (Rs : List Rel) [b : MonoL Rs] : Mono (TupOf Rs) := ⟨fun e ⟨p, xs, a, h, r⟩ => ⟨p, xs, a, e _ _ h, b.mono e r⟩⟩
/-- a list, item by item -/
def LstOf {β : Type} (R : β → Rel) (bs : List β) : Rel := fun v H => ∃ p xs, v = .ref p ∧ H p = some (.lst xs) ∧ Paired (fun b x => R b x H) bs xs
theorem paired_mono {β : Type} {R : β → Rel} [m : ∀ b, Mono (R b)] {H H' : Hp} (e : Ex H H') : ∀ {bs : List β} {xs : List V}, Paired (fun b x => R b x H) bs xs → Paired (fun b x => R b x H') bs xs
  | _, _, .nil => .nil
  | _, _, .cons r t => .cons ((m _).mono e r) (paired_mono e t)
instance {β : Type} (R : β → Rel) (bs : List β) [∀ b, Mono (R b)] : Mono (LstOf R bs) := ⟨fun e ⟨p, xs, a, h, r⟩ => ⟨p, xs, a, e _ _ h, paired_mono e r⟩⟩
theorem paired_get {β : Type} {F : β → V → Prop} : ∀ {bs : List β} {xs : List V} {i : Nat} {b : β}, Paired F bs xs → bs[i]? = some b → ∃ x, xs[i]? = some x ∧ F b x
  | _, _, _, _, .nil, h => by simp at h
  | _, _, 0, b, .cons r t, h => by
    have e := Option.some.inj h
    subst e
    exact ⟨_, rfl, r⟩
  | _, _, i + 1, b, .cons r t, h => paired_get (i := i) t h
theorem paired_len {β : Type} {F : β → V → Prop} : ∀ {bs : List β} {xs : List V}, Paired F bs xs → bs.length = xs.length
  | _, _, .nil => rfl
  | _, _, .cons _ t => congrArg (· + 1) (paired_len t)
theorem paired_snoc {β : Type} {F : β → V → Prop} : ∀ {bs : List β} {xs : List V} {b : β} {x : V}, Paired F bs xs → F b x → Paired F (bs ++ [b]) (xs ++ [x])
  | _, _, _, _, .nil, h => .cons h .nil
  | _, _, _, _, .cons r t, h => .cons r (paired_snoc t h)
theorem lstOf_val {β : Type} {h : β → V} {bs : List β} {v : V} {H : Hp} (r : LstOf (fun b => IsV (h b)) bs v H) : IsL (bs.map h) v H := by
  obtain ⟨p, xs, e, hp, q⟩ := r
  refine ⟨p, e, ?_⟩
  have k : ∀ {bs : List β} {xs : List V}, Paired (fun b x => IsV (h b) x H) bs xs → xs = bs.map h := by
    intro bs xs q
    induction q with
    | nil => rfl
    | cons r _ ih => rw [ih, show _ = h _ from r]; rfl
  rw [← k q]
  exact hp
theorem isL_of {β : Type} {h : β → V} {bs : List β} {v : V} {H : Hp} (r : IsL (bs.map h) v H) : LstOf (fun b => IsV (h b)) bs v H := by
  obtain ⟨p, e, hp⟩ := r
  refine ⟨p, _, e, hp, ?_⟩
  clear hp
  induction bs with
  | nil => exact .nil
  | cons b bs ih => exact .cons rfl ih
/-- None, or something -/
def OptOf {β : Type} (R : β → Rel) : Option β → Rel
  | none => IsV .non
  | some b => R b
instance {β : Type} (R : β → Rel) (o : Option β) [m : ∀ b, Mono (R b)] : Mono (OptOf R o) := by
  cases o with
  | none => exact inferInstanceAs (Mono (IsV .non))
  | some b => exact m b

/-! ### what an expression comes to, making new objects alone -/
def ER (te : TE) (σ : L2.St) (H : Hp) (R : Rel) : Prop := ∀ H1, Ex H H1 → ∀ Q : VK, (∀ v H2, Ex H1 H2 → R v H2 → Q v H2) → te σ H1 Q
def EA (ta : TA) (σ : L2.St) (H : Hp) (Rs : List Rel) : Prop := ∀ H1, Ex H H1 → ∀ Q : List V → Hp → Prop, (∀ vs H2, Ex H1 H2 → All2 Rs vs H2 → Q vs H2) → ta σ H1 Q
def EO (to : TO) (σ : L2.St) (H : Hp) (o : Option Int) : Prop := ∀ H1, Ex H H1 → ∀ Q : Option Int → Hp → Prop, (∀ H2, Ex H1 H2 → Q o H2) → to σ H1 Q
section
variable {K : PySem.W.Frag} {σ : L2.St} {H H' : Hp} {ta tb te tc : TE} {t u : TT} {x y z v : V} {R Ra Rb : Rel} {i j : Int}
theorem Ex.rfl : Ex H H := fun _ _ h => h
theorem ER.mono (e : Ex H H') (h : ER te σ H R) : ER te σ H' R := fun H1 a Q q => h H1 (e.trans a) Q q
theorem ER.imp (h : ER te σ H Ra) (k : ∀ v H1, Ex H H1 → Ra v H1 → Rb v H1) : ER te σ H Rb := fun H1 a Q q => h H1 a Q fun v H2 e r => q v H2 e (k v H2 (a.trans e) r)
theorem er_to {R' : Rel} (h : ER te σ H R) (e : R = R') : ER te σ H R' := e ▸ h
theorem er_var [m : Mono R] {k : Nat} (r : R v H) (h : σ[k]? = some (some v)) : ER (tVar k) σ H R := fun H1 e _ q => ⟨v, h, q v H1 Ex.rfl (m.mono e r)⟩
theorem er_v {k : Nat} (h : σ[k]? = some (some v)) : ER (tVar k) σ H (IsV v) := er_var (R := IsV v) (show v = v from (Eq.refl v)) h
theorem er_c : ER (tC v) σ H (IsV v) := fun H1 _ _ q => q v H1 Ex.rfl (Eq.refl v)
theorem er_I0 {g : Int → Int → V} (ha : ER ta σ H (IsI i)) (hb : ER tb σ H (IsI j)) : ER (tOp (rI0 g) ta tb) σ H (IsV (g i j)) := fun H1 e Q q =>
  ha H1 e _ fun a H2 e2 ra => hb H2 (e.trans e2) _ fun b H3 e3 rb => ⟨i, j, ra, rb, q _ H3 (e2.trans e3) (Eq.refl _)⟩
theorem er_I {C : Int → Int → Prop} {g : Int → Int → V} (ha : ER ta σ H (IsI i)) (hb : ER tb σ H (IsI j)) (hc : C i j) : ER (tOp (rI C g) ta tb) σ H (IsV (g i j)) := fun H1 e Q q =>
  ha H1 e _ fun a H2 e2 ra => hb H2 (e.trans e2) _ fun b H3 e3 rb => ⟨i, j, ra, rb, hc, q _ H3 (e2.trans e3) (Eq.refl _)⟩
theorem er_U {g : Int → V} (ha : ER ta σ H (IsI i)) : ER (tUn (rU g) ta) σ H (IsV (g i)) := fun H1 e Q q =>
  ha H1 e _ fun a H2 e2 ra => ⟨i, ra, q _ H2 e2 (Eq.refl _)⟩
theorem er_eq (ha : ER ta σ H (IsV x)) (hb : ER tb σ H (IsV y)) (hs : scal x y = true) : ER (tOp rEq ta tb) σ H (IsB (decide (x = y))) := fun H1 e Q q =>
  ha H1 e _ fun a H2 e2 ra => hb H2 (e.trans e2) _ fun b H3 e3 rb => by
    have ra' : a = x := ra
    have rb' : b = y := rb
    subst ra'
    subst rb'
    exact ⟨hs, q _ H3 (e2.trans e3) (Eq.refl _)⟩
theorem er_ne (ha : ER ta σ H (IsV x)) (hb : ER tb σ H (IsV y)) (hs : scal x y = true) : ER (tOp rNe ta tb) σ H (IsB (!decide (x = y))) := fun H1 e Q q =>
  ha H1 e _ fun a H2 e2 ra => hb H2 (e.trans e2) _ fun b H3 e3 rb => by
    have ra' : a = x := ra
    have rb' : b = y := rb
    subst ra'
    subst rb'
    exact ⟨hs, q _ H3 (e2.trans e3) (Eq.refl _)⟩
theorem er_isN (ha : ER ta σ H (IsV x)) : ER (tOp (fun x y H Q => y = .non ∧ Q (.bl (decide (x = .non))) H) ta (tC .non)) σ H (IsB (decide (x = .non))) := fun H1 e Q q =>
  ha H1 e _ fun a H2 e2 ra => by
    have ra' : a = x := ra
    subst ra'
    exact ⟨rfl, q _ H2 e2 (Eq.refl _)⟩
/-! tests -/
theorem et_test {b : Bool} (h : ER te σ H (IsB b)) : ET (tTest te) σ H b := fun H1 e _ q => h H1 e _ fun v H2 e2 r => ⟨b, r, q H2 e2⟩
theorem et_B {b : Bool} (h : ER te σ H (IsB b)) : ET (tB te) σ H b := fun H1 e _ q => h H1 e _ fun v H2 e2 r => ⟨b, r, q H2 e2⟩
theorem et_is {a b : Bool} (h : ET t σ H a) (e : a = b) : ET t σ H b := e ▸ h
theorem er_andV {a b : Bool} (h1 : ER ta σ H (IsB a)) (h2 : a = true → ER tb σ H (IsB b)) : ER (tAndV ta tb) σ H (IsB (a && b)) := fun H1 e Q q => h1 H1 e _ fun v H2 e2 r => ⟨a, r, by
  cases a with
  | true => exact h2 (Eq.refl _) H2 (e.trans e2) _ fun w H3 e3 r3 => q w H3 (e2.trans e3) r3
  | false => exact q _ H2 e2 (Eq.refl _)⟩
theorem er_notV {a : Bool} (h1 : ER ta σ H (IsB a)) : ER (tNotV ta) σ H (IsB (!a)) := fun H1 e _ q => h1 H1 e _ fun v H2 e2 r => ⟨a, r, q _ H2 e2 (Eq.refl _)⟩
theorem er_if {b : Bool} (h : ET t σ H b) (h1 : b = true → ER ta σ H R) (h2 : b = false → ER tb σ H R) : ER (tIf t ta tb) σ H R := fun H1 e Q q => h H1 e _ fun H2 e2 => by
  cases b with
  | true => exact h1 (Eq.refl _) H2 (e.trans e2) _ fun w H3 e3 r3 => q w H3 (e2.trans e3) r3
  | false => exact h2 (Eq.refl _) H2 (e.trans e2) _ fun w H3 e3 r3 => q w H3 (e2.trans e3) r3
/-! arguments -/
theorem ea_nil : EA tNil σ H [] := fun H1 _ _ q => q [] H1 Ex.rfl trivial
theorem ea_cons {tr : TA} {Rs : List Rel} [m : Mono R] (h : ER te σ H R) (hr : EA tr σ H Rs) : EA (tCons te tr) σ H (R :: Rs) := fun H1 e _ q =>
  h H1 e _ fun v H2 e2 r => hr H2 (e.trans e2) _ fun vs H3 e3 rs => q _ H3 (e2.trans e3) ⟨m.mono e3 r, rs⟩
theorem ea1 [Mono R] (h : ER te σ H R) : EA (tCons te tNil) σ H [R] := ea_cons h ea_nil
theorem ea2 [Mono Ra] [Mono Rb] (h : ER ta σ H Ra) (k : ER tb σ H Rb) : EA (tCons ta (tCons tb tNil)) σ H [Ra, Rb] := ea_cons h (ea1 k)
/-! lists -/
theorem er_ixL {xs : List V} (ha : ER ta σ H (IsL xs)) (hb : ER tb σ H (IsI i)) (h : atI xs i = some v) : ER (tOp (rIxL K) ta tb) σ H (IsV v) := fun H1 e Q q =>
  ha H1 e _ fun a H2 e2 ⟨p, ep, hp⟩ => hb H2 (e.trans e2) _ fun b H3 e3 rb => ⟨p, xs, i, v, ep, rb, .of (e3 _ _ hp), h, q _ H3 (e2.trans e3) (Eq.refl _)⟩
theorem er_ixR {β : Type} {F : β → Rel} [m : ∀ b, Mono (F b)] {bs : List β} {b : β} {k : Nat} (ha : ER ta σ H (LstOf F bs)) (hb : ER tb σ H (IsI (k : Int))) (h : bs[k]? = some b) : ER (tOp (rIxL K) ta tb) σ H (F b) := fun H1 e Q q =>
  ha H1 e _ fun a H2 e2 ⟨p, xs, ep, hp, pr⟩ => hb H2 (e.trans e2) _ fun c H3 e3 rb => by
    obtain ⟨x, hx, r⟩ := paired_get pr h
    exact ⟨p, xs, _, x, ep, rb, .of (e3 _ _ hp), atI_nat hx, q _ H3 (e2.trans e3) ((m b).mono e3 r)⟩
theorem er_ixK {xs : List V} {d : Addr} (hK : ∀ H, SqT K H d xs) (ha : ER ta σ H (IsV (.ref d))) (hb : ER tb σ H (IsI i)) (h : atI xs i = some v) : ER (tOp (rIxT K) ta tb) σ H (IsV v) := fun H1 e Q q =>
  ha H1 e _ fun a H2 e2 ra => hb H2 (e.trans e2) _ fun b H3 e3 rb => ⟨d, xs, i, v, ra, rb, hK _, h, q _ H3 (e2.trans e3) (Eq.refl _)⟩
theorem er_len {xs : List V} (ha : ER ta σ H (IsL xs)) : ER (tCB (Evl.rLenS K) (tCons ta tNil)) σ H (IsI (xs.length : Int)) := fun H1 e Q q =>
  ha H1 e _ fun a H2 e2 ⟨p, ep, hp⟩ => ⟨p, xs, by rw [ep], .inl (.of hp), q _ H2 e2 (Eq.refl _)⟩
theorem er_lenR {β : Type} {F : β → Rel} {bs : List β} (ha : ER ta σ H (LstOf F bs)) : ER (tCB (Evl.rLenS K) (tCons ta tNil)) σ H (IsI (bs.length : Int)) := fun H1 e Q q =>
  ha H1 e _ fun a H2 e2 ⟨p, xs, ep, hp, pr⟩ => ⟨p, xs, by rw [ep], .inl (.of hp), q _ H2 e2 (by rw [paired_len pr]; exact Eq.refl _)⟩
theorem eo_none : EO tNoPart σ H none := fun H1 _ _ q => q H1 Ex.rfl
theorem eo_some (h : ER te σ H (IsI i)) : EO (tPart te) σ H (some i) := fun H1 e _ q => h H1 e _ fun v H2 e2 r => ⟨i, r, q H2 e2⟩
theorem new_isL {H1 : Hp} {p : Addr} {xs : List V} : IsL xs (.ref p) (upd H1 p (.lst xs)) := ⟨p, Eq.refl _, upd_same⟩
theorem er_sl {tl th : TO} {xs : List V} {lo hi : Option Int} (h : ER te σ H (IsL xs)) (h1 : EO tl σ H lo) (h2 : EO th σ H hi) : ER (tSl (rSlL K) te tl th) σ H (IsL (cutV xs lo hi)) := fun H1 e Q q =>
  h H1 e _ fun a H2 e2 ⟨p, ep, hp⟩ => h1 H2 (e.trans e2) _ fun H3 e3 => h2 H3 ((e.trans e2).trans e3) _ fun H4 e4 =>
    ⟨p, xs, ep, .of ((e3.trans e4) _ _ hp), fun n hn => q _ _ (((e2.trans e3).trans e4).trans (Evl.Ex.new hn)) new_isL⟩
theorem er_cat {xs ys : List V} (ha : ER ta σ H (IsL xs)) (hb : ER tb σ H (IsL ys)) (hz : xs.length + ys.length ≤ sizeLine) : ER (tOp rCat ta tb) σ H (IsL (xs ++ ys)) := fun H1 e Q q =>
  ha H1 e _ fun a H2 e2 ⟨p, ep, hp⟩ => hb H2 (e.trans e2) _ fun b H3 e3 ⟨p', ep', hp'⟩ =>
    ⟨p, p', xs, ys, ep, ep', e3 _ _ hp, hp', hz, fun n hn => q _ _ ((e2.trans e3).trans (Evl.Ex.new hn)) new_isL⟩
theorem er_rep {xs : List V} (ha : ER ta σ H (IsL xs)) (hb : ER tb σ H (IsI i)) (hi : 0 ≤ i ∧ i < 2 ^ 63) (hz : xs.length * i.toNat ≤ sizeLine) : ER (tOp rRep ta tb) σ H (IsL (List.replicate i.toNat xs).flatten) := fun H1 e Q q =>
  ha H1 e _ fun a H2 e2 ⟨p, ep, hp⟩ => hb H2 (e.trans e2) _ fun b H3 e3 rb =>
    ⟨p, i, xs, ep, rb, e3 _ _ hp, by omega, hi.2, hz, fun n hn => q _ _ ((e2.trans e3).trans (Evl.Ex.new hn)) new_isL⟩
theorem isL_all2 : ∀ {xs vs : List V} {H : Hp}, All2 (xs.map IsV) vs H → vs = xs
  | [], [], _, _ => rfl
  | [], _ :: _, _, h => h.elim
  | _ :: _, [], _, h => h.elim
  | x :: xs, v :: vs, H, h => by rw [isL_all2 h.2, show v = x from h.1]
/-- a written list of values -/
theorem er_lst {ta : TA} {xs : List V} (h : EA ta σ H (xs.map IsV)) (hz : xs.length ≤ 1000) : ER (tLst ta) σ H (IsL xs) := fun H1 e Q q =>
  h H1 e _ fun vs H2 e2 r => by
    have z := isL_all2 r
    subst z
    exact ⟨Nat.le_trans hz (by decide), fun n hn => q _ _ (e2.trans (Evl.Ex.new hn)) new_isL⟩
theorem er_tup {ta : TA} {Rs : List Rel} [m : MonoL Rs] (h : EA ta σ H Rs) (hz : Rs.length ≤ 1000) : ER (tTup ta) σ H (TupOf Rs) := fun H1 e Q q =>
  h H1 e _ fun vs H2 e2 r => by
    have k : ∀ {Rs : List Rel} {vs : List V}, All2 Rs vs H2 → vs.length = Rs.length := by
      intro Rs
      induction Rs with
      | nil => intro vs h; cases vs with | nil => rfl | cons _ _ => exact h.elim
      | cons _ _ ih => intro vs h; cases vs with | nil => exact h.elim | cons _ _ => exact congrArg (· + 1) (ih h.2)
    exact ⟨Nat.le_trans (Nat.le_of_eq (k r)) (Nat.le_trans hz (by decide)), fun n hn => q _ _ (e2.trans (Evl.Ex.new hn)) ⟨n, vs, Eq.refl _, upd_same, m.mono (Evl.Ex.new hn) r⟩⟩
/-! calls -/
/-- a def that makes new objects alone: what's handed in, what must hold, what comes -/
def spF {α : Type} (Rs : α → List Rel) (ok : α → Prop) (post : α → Rel) : Sp := fun vs H Q _ => ∃ a, ok a ∧ All2 (Rs a) vs H ∧ ∀ v H', Ex H H' → post a v H' → Q v H'
theorem er_call {α : Type} {Rs : α → List Rel} {ok : α → Prop} {post : α → Rel} {E : XK} {ta : TA} (a : α) (h : EA ta σ H (Rs a)) (hk : ok a) : ER (tCall (spF Rs ok post) [] E ta) σ H (post a) := fun H1 e Q q =>
  h H1 e _ fun vs H2 e2 r => by
    rw [List.append_nil]
    exact ⟨a, hk, r, fun v H' e3 r3 => q v H' (e2.trans e3) r3⟩
/-- the number of a refusal, in a heap that has grown -/
def Refs (C : Addr) (H : Hp) (E : XK) (n : Int) : Prop := ∀ d H', Ex H H' → H' d = some (.xd [("number", .int n)]) → E (.ref C) (some d) H'
/-- a def that may refuse -/
def spX {α : Type} (C : Addr) (Rs : α → List Rel) (ok : α → Prop) (no : α → Option Int) (post : α → Rel) : Sp := fun vs H Q E => ∃ a, ok a ∧ All2 (Rs a) vs H ∧
  (no a = none → ∀ v H', Ex H H' → post a v H' → Q v H') ∧ ∀ n, no a = some n → Refs C H E n
end
/-! ### statements -/
section
variable {K : PySem.W.Frag} {σ : L2.St} {H H' : Hp} {ta tb te tc : TE} {t : TT} {R : Rel} {D : Ends} {tu tw : TS}
theorem st_asg {i : Nat} (h : ER te σ H R) (k : ∀ v H1, Ex H H1 → R v H1 → D.nx (σ.set i (some v)) H1) : tAsg te (gName i) D σ H := h H Ex.rfl _ k
theorem st_ret (h : ER te σ H R) (k : ∀ v H1, Ex H H1 → R v H1 → D.rt v H1) : tRet te D σ H := h H Ex.rfl _ k
theorem st_drop (h : ER te σ H R) (k : ∀ v H1, Ex H H1 → R v H1 → D.nx σ H1) : tDrop te D σ H := h H Ex.rfl _ k
theorem st_if {b : Bool} (h : ET t σ H b) (h1 : b = true → ∀ H1, Ex H H1 → tu D σ H1) (h2 : b = false → ∀ H1, Ex H H1 → tw D σ H1) : tIfS t tu tw D σ H := h H Ex.rfl _ fun H1 e => by
  cases b with
  | true => exact h1 rfl H1 e
  | false => exact h2 rfl H1 e
end
/-! ### some objects change, the others stand -/
def ExB (ls : List Addr) (H H' : Hp) : Prop := ∀ a o, a ∉ ls → H a = some o → H' a = some o
section
variable {ls : List Addr} {H H1 H2 : Hp} {l : Addr} {o : HO}
theorem ExB.rfl : ExB ls H H := fun _ _ _ h => h
theorem ExB.of (e : Ex H H1) : ExB ls H H1 := fun a o _ h => e a o h
theorem ExB.trans (a : ExB ls H H1) (b : ExB ls H1 H2) : ExB ls H H2 := fun x o n h => b x o n (a x o n h)
theorem ExB.more (a : ExB ls H H1) (e : Ex H1 H2) : ExB ls H H2 := a.trans (.of e)
theorem ExB.upd (hl : l ∈ ls) : ExB ls H (upd H l o) := fun a u n h => by
  rw [upd_ne (fun e => n (by rw [e]; exact hl))]
  exact h
/-- those that change weren't there at first -/
theorem ExB.ex {H0 : Hp} (e : Ex H0 H) (h : ExB ls H H1) (n : ∀ l ∈ ls, H0 l = none) : Ex H0 H1 := fun a o q => h a o (fun m => by rw [n a m] at q; cases q) (e a o q)
end
end Fc
set_option maxRecDepth 100000
set_option maxHeartbeats 2000000
namespace Fc
open PySem PySem.Spec PyProof.Rows L2
/-! ### a < b of two lists of numbers -/
theorem firstLt_succ (e r : Nat → Bool) (fin : Bool) : ∀ l : List Nat, SeqAt.firstLt e r fin (l.map Nat.succ) = SeqAt.firstLt (fun j => e (j + 1)) (fun j => r (j + 1)) fin l
  | [] => rfl
  | j :: t => by
    show (if e (j + 1) = true then _ else _) = if e (j + 1) = true then _ else _
    rw [firstLt_succ e r fin t]
theorem firstLt_less : ∀ ws zs : List Nat, SeqAt.firstLt (fun j => decide (ws.getD j 0 = zs.getD j 0)) (fun j => decide (ws.getD j 0 < zs.getD j 0)) (decide (ws.length < zs.length)) (List.range (min ws.length zs.length)) = Vbcjai.lessCord ws zs
  | [], [] => rfl
  | [], z :: zs => rfl
  | x :: ws, [] => rfl
  | x :: ws, z :: zs => by
    have ih := firstLt_less ws zs
    rw [show min (x :: ws).length (z :: zs).length = min ws.length zs.length + 1 by simp only [List.length_cons]; omega, List.range_succ_eq_map]
    show (if decide (x = z) = true then SeqAt.firstLt _ _ _ ((List.range _).map Nat.succ) else decide (x < z)) = (decide (x < z) || (x == z && Vbcjai.lessCord ws zs))
    by_cases c : x = z
    · rw [if_pos (decide_eq_true c), firstLt_succ]
      have l : decide ((x :: ws).length < (z :: zs).length) = decide (ws.length < zs.length) := by
        have k : (x :: ws).length < (z :: zs).length ↔ ws.length < zs.length := by simp only [List.length_cons]; omega
        by_cases q : ws.length < zs.length
        · rw [decide_eq_true q, decide_eq_true (k.mpr q)]
        · rw [decide_eq_false q, decide_eq_false (fun h => q (k.mp h))]
      rw [l]
      have e1 : (x == z) = true := beq_iff_eq.mpr c
      rw [e1, decide_eq_false (show ¬ x < z by omega), Bool.true_and, Bool.false_or]
      exact ih
    · rw [if_neg (by rw [decide_eq_true_iff]; exact c)]
      have e1 : (x == z) = false := beq_eq_false_iff_ne.mpr c
      rw [e1, Bool.false_and, Bool.or_false]
theorem iv_at {ws : List Nat} {its : List Value} (r : Vals (iv ws) its) (j : Nat) (h : j < its.toArray.size) : ∃ t, its.toArray[j] = .int ((ws.getD j 0 : Nat) : Int) t := by
  have hl : j < its.length := by simpa using h
  have hw : j < ws.length := by
    have := r.length
    unfold iv at this
    rw [List.length_map] at this
    omega
  have e : (iv ws)[j]? = some (V.int ((ws.getD j 0 : Nat) : Int)) := by
    unfold iv
    rw [List.getElem?_map, List.getElem?_eq_getElem hw, List.getD_eq_getElem?_getD, List.getElem?_eq_getElem hw]
    rfl
  obtain ⟨u, hu, t, ru⟩ := r.get e
  rw [List.getElem?_eq_getElem hl] at hu
  refine ⟨t, ?_⟩
  rw [List.getElem_toArray, Option.some.inj hu, ru]
def rLtN : R2 := fun x y H Q => ∃ (a b : Addr) (ws zs : List Nat), x = .ref a ∧ y = .ref b ∧ H a = some (.lst (iv ws)) ∧ H b = some (.lst (iv zs)) ∧ Q (.bl (Vbcjai.lessCord ws zs)) H
theorem op_ltN {X : Cx} (hu : X.A.units < cLine) : OpR X (compareOp .Lt) rLtN := by
  intro pins s σ H x y v u Q I rx ry h
  obtain ⟨a, b, ws, zs, rfl, rfl, ha, hb, q⟩ := h
  cases rx
  cases ry
  obtain ⟨its, r1, p1, _⟩ := I.list (.of ha)
  obtain ⟨its2, r2, p2, _⟩ := I.list (.of hb)
  have e1 : its.toArray.size = ws.length := by have := r1.length; unfold iv at this; rw [List.length_map] at this; rw [List.size_toArray]; exact this.symm
  have e2 : its2.toArray.size = zs.length := by have := r2.length; unfold iv at this; rw [List.length_map] at this; rw [List.size_toArray]; exact this.symm
  have R := SeqAt.RcLt.lists (A := X.A) (s := s) (e := fun j => decide (ws.getD j 0 = zs.getD j 0)) (r := fun j => decide (ws.getD j 0 < zs.getD j 0)) p1.isList p2.isList hu (fun j h1 h2 => by
    obtain ⟨t, et⟩ := iv_at r1 j h1
    obtain ⟨t', et'⟩ := iv_at r2 j h2
    rw [et, et']
    have z : (((ws.getD j 0 : Nat) : Int) == ((zs.getD j 0 : Nat) : Int)) = decide (ws.getD j 0 = zs.getD j 0) := by
      by_cases c : ws.getD j 0 = zs.getD j 0
      · rw [decide_eq_true c]; exact beq_iff_eq.mpr (by rw [c])
      · rw [decide_eq_false c]; exact beq_eq_false_iff_ne.mpr fun z => c (Int.ofNat.inj z)
    rw [← z]
    exact SeqAt.EqAt.int_int _ _ _ _) (fun j h1 h2 _ => by
    obtain ⟨t, et⟩ := iv_at r1 j h1
    obtain ⟨t', et'⟩ := iv_at r2 j h2
    rw [et, et']
    have z : decide (((ws.getD j 0 : Nat) : Int) < ((zs.getD j 0 : Nat) : Int)) = decide (ws.getD j 0 < zs.getD j 0) := by
      by_cases c : ws.getD j 0 < zs.getD j 0
      · rw [decide_eq_true c, decide_eq_true (Int.ofNat_lt.mpr c)]
      · rw [decide_eq_false c, decide_eq_false fun z => c (Int.ofNat_lt.mp z)]
    rw [← z]
    exact fun _ _ _ _ h => PyProof.Rows.lt_int h)
  rw [e1, e2, firstLt_less] at R
  have z : wpAny (model X.prog X.w) X.A (compareOp .Lt (.ref a) (.ref b)) (EP X pins σ Q) X.xe s := R X.prog X.w X.xe (EP X pins σ Q) ⟨.bl _, H, I, rfl, q⟩
  exact z
theorem er_ltN {σ : L2.St} {H : Hp} {ta tb : TE} {ws zs : List Nat} (ha : ER ta σ H (IsN ws)) (hb : ER tb σ H (IsN zs)) : ER (tOp rLtN ta tb) σ H (IsB (Vbcjai.lessCord ws zs)) := fun H1 e Q q =>
  ha H1 e _ fun a H2 e2 ⟨p, ep, hp⟩ => hb H2 (e.trans e2) _ fun b H3 e3 ⟨p', ep', hp'⟩ => ⟨p, p', ws, zs, ep, ep', e3 _ _ hp, hp', q _ H3 (e2.trans e3) rfl⟩
/-! ### max, min of a pair of numbers -/
def rMaxT : List V → Hp → VK → Prop := fun xs H Q => ∃ (a : Addr) (i j : Int), xs = [.ref a] ∧ H a = some (.tup [.int i, .int j]) ∧ Q (.int (max i j)) H
def rMinT : List V → Hp → VK → Prop := fun xs H Q => ∃ (a : Addr) (i j : Int), xs = [.ref a] ∧ H a = some (.tup [.int i, .int j]) ∧ Q (.int (min i j)) H
theorem alike_two (i j : Int) : PySem.W.AlikeAll [PyData.int i, PyData.int j] := by
  refine ⟨fun x hx y hy => ?_, fun x hx => ?_⟩
  · rcases List.mem_cons.mp hx with rfl | hx
    · rcases List.mem_cons.mp hy with rfl | hy
      · rfl
      · obtain rfl : y = _ := by simpa using hy
        rfl
    · obtain rfl : x = _ := by simpa using hx
      rcases List.mem_cons.mp hy with rfl | hy
      · rfl
      · obtain rfl : y = _ := by simpa using hy
        rfl
  · rcases List.mem_cons.mp hx with rfl | hx
    · exact fun z => nomatch z
    · obtain rfl : x = _ := by simpa using hx
      exact fun z => nomatch z
theorem depth_two {n : Nat} {i j : Int} (hu : n + 64 < cLine) : n + 1 + PyData.depthAll [PyData.int i, PyData.int j] < cLine := by
  have z : PyData.depthAll [PyData.int i, PyData.int j] ≤ 1 := by simp [PyData.depthAll, PyData.depth]
  omega
section
variable {X : Cx}
theorem cr_maxT (hc : X.calm = true) (hu : X.A.units + 64 < cLine) : CallR X (.builtin "max") rMaxT := by
  intro pins s σ H vs us Q I r h
  obtain ⟨a, i, j, rfl, ha, q⟩ := h
  obtain ⟨its, rv, ht, _⟩ := I.tuple (.of ha)
  obtain ⟨t, u, rfl⟩ := rv.int2
  rw [Vals.ref1 r]
  refine PySem.W.max_tuple_data (x := .int i) (xs := [.int j]) (I.ok.hd hc) (show s.heap.IsTuple a _ from ht) (.cons (.int _ _) (.cons (.int _ _) .nil)) (alike_two i j) (depth_two hu) fun k v h' tk bs _ hR hk => ?_
  have e : PySem.W.maxD (.int i) [.int j] = .int (max i j) := PySem.W.maxD_ints i [j]
  rw [e] at hR
  cases hR
  exact ⟨.int _, H, I.kept hk, ⟨_, rfl⟩, q⟩
theorem cr_minT (hc : X.calm = true) (hu : X.A.units + 64 < cLine) : CallR X (.builtin "min") rMinT := by
  intro pins s σ H vs us Q I r h
  obtain ⟨a, i, j, rfl, ha, q⟩ := h
  obtain ⟨its, rv, ht, _⟩ := I.tuple (.of ha)
  obtain ⟨t, u, rfl⟩ := rv.int2
  rw [Vals.ref1 r]
  refine PySem.W.min_tuple_data (x := .int i) (xs := [.int j]) (I.ok.hd hc) (show s.heap.IsTuple a _ from ht) (.cons (.int _ _) (.cons (.int _ _) .nil)) (alike_two i j) (depth_two hu) fun k v h' tk bs _ hR hk => ?_
  have e : PySem.W.minD (.int i) [.int j] = .int (min i j) := PySem.W.minD_ints i [j]
  rw [e] at hR
  cases hR
  exact ⟨.int _, H, I.kept hk, ⟨_, rfl⟩, q⟩
end
/-! ### a dict keyed by tuples: setdefault, dict(pairs) -/
section
variable {X : Cx} {pins : List (Addr × Obj)} {σ : L2.St} {H : Hp} {s : Shared} {a b : Addr} {r : Value} {d : V} {k : List Key} {A : Around} {E : Value → Shared → Prop}
theorem d_setdT {kvs : List (List Key × V)} {Q : Value → Shared → Prop} (hu : A.units + 1 < cLine) (I : Inv X pins σ H s) (e : H a = some (.dT kvs)) (eb : H b = some (.tup (k.map kV))) (rd : RelV d r) (hl : kvs.length < sizeLine)
    (h1 : ∀ v, valV kvs k = some v → ∀ (w' : Value) (s' : Shared), Inv X pins σ H s' → RelV v w' → Q w' s') (h2 : valV kvs k = none → ∀ (w' : Value) (s' : Shared), Inv X pins σ (upd H a (.dT (putK kvs k d))) s' → RelV d w' → Q w' s') :
    wpAny (model X.prog X.w) A (call (.builtin "dict.setdefault") [.ref a, .ref b, r]) Q E s := by
  obtain ⟨z, hd, xs, rel, dd⟩ := dt_of I.hok e
  have hz : xs.length ≤ sizeLine := by rw [← Paired.length rel]; exact z
  refine call_setdefault_heap (hsz := hz) (tupleKind_room_in1 hu) (key_of I.hok eb) hd dd (fun p hp => ?_) fun hn h' dd' hs => ?_
  · have q := rel.val k
    rw [hp] at q
    cases q0 : valV kvs k with
    | none => rw [q0] at q; exact (show False from q).elim
    | some v0 => rw [q0] at q; exact h1 v0 q0 _ _ (I.tok _) q
  · have q := rel.val k
    rw [hn] at q
    cases q0 : valV kvs k with
    | some v0 => rw [q0] at q; exact (show False from q).elim
    | none =>
      have hl2 : (putK kvs k d).length ≤ sizeLine := by have := length_putK kvs k d; omega
      obtain ⟨o, es, ep, ho, x2, x3, x4, _, x5⟩ := dd'
      refine h2 q0 _ _ (d_write I (by rw [e]; exact True.intro) hs ⟨o, ho⟩ ⟨hl2, hd, _, (rel.put k eb rd).keeps fun c ys ec => ?_, o, es, ep, ho, x2, x3, x4, x5⟩) rd
      rw [upd_ne (ne_of ec e (fun z => nomatch z))]
      exact ec
end
/-- d.setdefault(k, z), keys that are tuples -/
def tDSetT (td ty tx : TE) : TE := fun σ H Q => td σ H fun x H1 => ∃ a, x = .ref a ∧ IsD H1 a ∧ ty σ H1 fun y H2 => tx σ H2 fun z H3 => ∃ (kvs : List (List Key × V)) (k : List Key) (b : Addr), H3 a = some (.dT kvs) ∧ y = .ref b ∧ H3 b = some (.tup (k.map kV)) ∧ kvs.length < sizeLine ∧
  (∀ v, valV kvs k = some v → Q v H3) ∧ (valV kvs k = none → Q z (upd H3 a (.dT (putK kvs k z))))
section
variable {X : Cx} {o e f : Expr} {td ty tx : TE} {apos cpos : Pos}
theorem pe_setdT (hu : X.A.units + 1 < cLine) (ho : PE X o td) (he : PE X e ty) (hf : PE X f tx) (m : M2 X o "setdefault" apos e f cpos) : PE X (.Call (.Attribute o "setdefault" apos) [e, f] [] cpos) (tDSetT td ty tx) := by
  refine ⟨fun pins s σ H Q I h => ?_⟩
  refine wpAny_Call_method m.base m.few m.line PySem.F.plainAttrs_dict PySem.F.slot_dict_setdefault PySem.F.type_dict_setdefault (thn (ho.run pins s σ H _ I h) fun u s1 hx => ?_)
  obtain ⟨x, H1, I1, rx, a, ex, d, q1⟩ := hx
  subst ex
  obtain rfl : u = Value.ref a := rx
  obtain ⟨t1, t2, _⟩ := isD_at I1 d
  refine ⟨t1, t2, ?_⟩
  rw [m.trees]
  refine Calls.callWith_builtin rfl (Calls.evalArgs_plain (Calls.spliced_cons (thn (he.run pins s1 σ H1 _ I1 q1) fun iv' s2 hy => ?_)))
  obtain ⟨y, H2, I2, ry, q2⟩ := hy
  refine Calls.spliced_cons (thn (hf.run pins s2 σ H2 _ I2 q2) fun fv s3 hz => Calls.spliced_nil ?_)
  obtain ⟨z, H3, I3, rz, kvs, k, b, ea, ey, eb, hl, q3, q4⟩ := hz
  subst ey
  obtain rfl : iv' = Value.ref b := ry
  exact d_setdT hu I3 ea eb rz hl (fun v hv w' s4 I4 rw' => ⟨v, _, I4, rw', q3 v hv⟩) fun hn w' s4 I4 rw' => ⟨z, _, I4, rw', q4 hn⟩
end
def mergeT (kvs more : List (List Key × V)) : List (List Key × V) := more.foldl (fun acc kv => putK acc kv.1 kv.2) kvs
theorem length_mergeT : ∀ (more kvs : List (List Key × V)), (mergeT kvs more).length ≤ kvs.length + more.length
  | [], kvs => Nat.le_refl _
  | p :: r, kvs => by
    have h1 := length_mergeT r (putK kvs p.1 p.2)
    have h2 := length_putK kvs p.1 p.2
    show (mergeT (putK kvs p.1 p.2) r).length ≤ kvs.length + (r.length + 1)
    omega
theorem mergeT_KT {H : Hp} : ∀ {more : List (List Key × V)} {ps : List (List Key × Addr × Value)} {kvs : List (List Key × V)} {xs : List (List Key × Addr × Value)}, KT H more ps → KT H kvs xs → KT H (mergeT kvs more) (storedAllH xs ps)
  | _, _, _, _, .nil, h => h
  | p :: more, q :: ps, kvs, xs, .cons r t, h => by
    have r1 : p.1 = q.1 := r.1
    have z := h.put q.1 (by rw [← r1]; exact r.2.1) r.2.2
    show KT H (mergeT (putK kvs p.1 p.2) more) (storedAllH (storedH xs q.1 q.2.1 q.2.2) ps)
    rw [r1]
    exact mergeT_KT t z
section
variable {X : Cx}
/-- dict(xs), xs a list of pairs (a tuple of numbers or texts, a value) -/
theorem cr_dictT (hc : X.calm = true) (hu : X.A.units + 64 < cLine) : CallR X (.type "dict") (fun xs H Q => ∃ (a : Addr) (pp : List Addr) (es : List (List Key × Addr × V)), xs = [.ref a] ∧ H a = some (.lst (pp.map V.ref)) ∧
    Paired (fun p e => H p = some (.tup [.ref e.2.1, e.2.2]) ∧ H e.2.1 = some (.tup (e.1.map kV))) pp es ∧ ∀ p, H p = none → Q (.ref p) (upd H p (.dT (mergeT [] (es.map fun e => (e.1, e.2.2)))))) := by
  intro pins s σ H xs us Q I r q
  obtain ⟨a, pp, es, ex, ha, hp, q⟩ := q
  subst ex
  rw [Vals.ref1 r]
  obtain ⟨its, rv, pl, hz⟩ := I.list (.of ha)
  have ei := refs_at rv
  subst ei
  rw [List.length_map] at hz
  -- the pairs as they stand in the heap
  have all : ∀ {pp : List Addr} {es : List (List Key × Addr × V)}, Paired (fun p e => H p = some (.tup [.ref e.2.1, e.2.2]) ∧ H e.2.1 = some (.tup (e.1.map kV))) pp es →
      ∃ ps : List (List Key × Addr × Value), KT H (es.map fun e => (e.1, e.2.2)) ps ∧ ps.length = pp.length ∧ (∀ x ∈ ps, (tupleKind (mixKind X.prog X.w)).is s.heap x.1 x.2.1) ∧
        ∀ (j : Nat) (k : List Key) (b : Addr) (v : Value), ps[j]? = some (k, b, v) → ∃ p, pp[j]? = some p ∧ IsTup s.heap p #[.ref b, v] := by
    intro pp es h
    induction h with
    | nil => exact ⟨[], .nil, rfl, (fun x hx => nomatch hx), fun j k b v e => by simp at e⟩
    | cons h t ih =>
      rename_i p e pp es
      obtain ⟨ps, i1, i2, i3, i4⟩ := ih
      obtain ⟨vs, r1, t1, _⟩ := I.tuple (.of h.1)
      cases r1 with
      | cons ra rr =>
        cases rr with
        | cons rb rn =>
          cases rn
          cases ra
          rename_i w'
          refine ⟨(e.1, e.2.1, w') :: ps, .cons ⟨rfl, h.2, rb⟩ i1, by rw [List.length_cons, List.length_cons, i2], fun x hx => ?_, fun j k b v q => ?_⟩
          · rcases List.mem_cons.mp hx with z | hx
            · rw [z]; exact key_of I.hok h.2
            · exact i3 x hx
          · cases j with
            | zero =>
              have z := Option.some.inj q
              injection z with z1 z
              injection z with z2 z3
              subst z1 z2 z3
              exact ⟨p, rfl, t1⟩
            | succ j => exact i4 j k b v q
  obtain ⟨ps, kt, hlen, his, hat⟩ := all hp
  obtain ⟨o, n, ho, hcl, hd, hdat⟩ := pl
  let Ts : Nat → Addr := fun j => pp.getD j 0
  let rs : List (Value × Value) := ps.map fun x => (.ref x.2.1, x.2.2)
  have hit : PairItems s.heap ((pp.map Value.ref).toArray) Ts rs := by
    refine ⟨by simp [rs, hlen], fun j k v hj => ?_⟩
    rw [List.getElem?_map] at hj
    obtain ⟨⟨k0, b, v0⟩, e1, e2⟩ := Option.map_eq_some_iff.mp hj
    injection e2 with e3 e4
    subst e3 e4
    obtain ⟨p, h1, h2⟩ := hat j k0 b v0 e1
    refine ⟨?_, ?_⟩
    · simp only [List.getElem?_toArray, List.getElem?_map, h1, Ts, List.getD_eq_getElem?_getD]
      rfl
    · have z : Ts j = p := by simp only [Ts, List.getD_eq_getElem?_getD, h1]; rfl
      rw [z]
      exact .inl (show s.heap.IsTuple p #[Value.ref b, v0] from h2)
  have hm : (s.heap.objs.size == sysModules) = false := beq_eq_false_iff_ne.mpr (Nat.ne_of_gt I.big)
  refine call_dict_pairsH (knd := tupleKind (mixKind X.prog X.w)) (ps := ps) (PairArg.list a _ Ts rs) (I.ok.hd hc) (by show X.A.units + 1 + 1 < cLine; omega) ⟨⟨o, n, ho, hcl, hd, hdat⟩, hit⟩ ⟨by simp [rs], fun i key v e => ?_⟩ (fun h' k x hx => ?_) (by simp only [rs, List.length_map]; rw [hlen]; exact hz) fun h' tk dd k => ?_
  · have e' : rs[i]? = some (key, v) := e
    rw [List.getElem?_map] at e'
    obtain ⟨⟨k0, b, v0⟩, e1, e2⟩ := Option.map_eq_some_iff.mp e'
    injection e2 with e3 e4
    subst e3 e4
    exact ⟨k0, b, e1, rfl⟩
  · exact tupleKind_stays.stays (fun b o' vs' n' e _ => k b o' (Nat.ne_of_lt (Heap.lt_size e)) (by simp) e) (his x hx)
  · obtain ⟨o', es', ep', ho', x2, x3, x4, _, x5⟩ := dd
    have hl2 : (mergeT [] (es.map fun e => (e.1, e.2.2))).length ≤ sizeLine := by
      refine Nat.le_trans (length_mergeT _ []) ?_
      rw [List.length_nil, Nat.zero_add, Paired.length kt, hlen]
      exact hz
    have hn : H s.heap.objs.size = none := I.hok.fresh (Nat.le_refl _)
    refine ⟨.ref s.heap.objs.size, _, I.laid (t' := tk) (o := .dT (mergeT [] (es.map fun e => (e.1, e.2.2)))) (fun b u e => k b u (by simp) e) (Nat.le_refl _) ⟨hl2, hm, _, (mergeT_KT kt .nil).keeps fun c ys ec => ?_, o', es', ep', ho', x2, x3, x4, x5⟩, rfl, q _ hn⟩
    rw [upd_ne (ne_of_none ec hn)]
    exact ec
end
end Fc
set_option maxRecDepth 100000
set_option maxHeartbeats 4000000
/-! An own error class straight below Exception whose __init__ calls Exception.__init__ by name and stores a number. -/
namespace Fc
open PySem PySem.Spec PyProof.Rows L2
/-- what the written part says of the class -/
structure ErrC (K : PySem.W.Frag) (C : Addr) : Prop where
  cls : ∃ nm q N bs sn sub ab col dd k0 k1 k2 k3 k5, K.lookup C = some (excClassObj nm q C N bs PySem.ESX.exTail true sn sub ab col dd k0 k1 k2 k3 k5 "Exception.__new__")
  sa : PySem.W.findIn K (.ref C) "__setattr__" = some (some (.builtin "object.__setattr__"))
  exC : PySem.W.subIn K (.ref C) (.type "BaseException") = some true
  tyC : PySem.W.typeIn K (.ref C) = some (.type "type")
  kC : PySem.W.keepIn K (.ref C) = true
theorem typ_Ex : typeOf (.type "Exception") = pure (.type "type") := by kernel_rfl
section
variable {X : Cx} {pins : List (Addr × Obj)} {σ : L2.St} {H : Hp} {s : Shared} {a C : Addr} {f : Str} {y : V} {u : Value} {A : Around} {E : Value → Shared → Prop}
/-- self.f = y, no dict yet -/
theorem err_store {Q : Unit → Shared → Prop} (T : ErrC X.K C) (I : Inv X pins σ H s) (e : H a = some (exo a C none)) (hno : PySem.W.findIn X.K (.ref C) f = some none) (ry : RelV y u)
    (h : ∀ dx s', H dx = none → dx ≠ a → Inv X pins σ (upd (upd H dx (exd dx [(f, y)])) a (exo a C (some dx))) s' → Q () s') : wpAny (model X.prog X.w) A (setAttr (.ref a) f u) Q E s := by
  obtain ⟨nm, q, N, bs, sn, sub, ab, col, dd, k0, k1, k2, k3, k5, hC⟩ := T.cls
  have hcl : PySem.W.clsIn X.K C = some { name := nm, bases := bs, mro := .ref C :: PySem.ESX.exTail, ns := N, qualname := q, hasDict := true, slotNames := sn, subclasses := sub, abstract := ab, collection := col, hasDel := false } := by
    unfold PySem.W.clsIn
    rw [hC] <;> rfl
  obtain ⟨t1, ho⟩ := exo_at I.hok e
  obtain ⟨hp, g, d, t, os⟩ := s
  refine PySem.W.set_plain I.kIn (ox := { cls := .ref C, dict := none, data := .fields #[.ref t1, .none, .none, .none, .bool false, .none] }) (od := none) ⟨ho, rfl, rfl, trivial⟩ T.sa ?_
  refine PySem.ESX.osa_new I.kIn ho hcl rfl rfl hno fun h' tk' dx k dn dne hx hn => ?_
  have hnd : H dx = none := I.hok.fresh dn
  have nd : ∀ {b : Addr} {o : Obj}, hp.get? b = some o → b ≠ dx := fun {b o} z => Nat.ne_of_lt (Nat.lt_of_lt_of_le (Heap.lt_size z) dn)
  have na : ∀ {b : Addr}, H b = none → b ≠ a := fun {b} n z => by rw [z, e] at n; cases n
  -- all that isn't the error itself or its dict stands
  have same : ∀ {b : Addr} {o : HO}, H b = some o → b ≠ a → (upd (upd H dx (exd dx [(f, y)])) a (exo a C (some dx))) b = some o := fun {b o} z hb => by
    rw [upd_ne hb, upd_ne (ne_of_none z hnd)]; exact z
  have U : Un X.fs [] H (upd (upd H dx (exd dx [(f, y)])) a (exo a C (some dx))) hp h' := {
    keep := fun b o z n _ _ => k b o (na n) z
    slot := fun b o z n _ _ => ⟨o.slots, k b o (na n) z⟩
    free := fun b o z n _ => by rw [upd_ne (na n), upd_ne (nd z)]; exact n
    there := fun b o z _ => by
      by_cases hb : b = a
      · rw [hb]; exact ⟨_, hx⟩
      · exact ⟨o, k b o hb z⟩
    tups := fun b xs z => same z (at_ne e z exo_tup)
    frzs := fun b o v z => same z (at_ne e z exo_frz)
    tbls := fun b ps z => ⟨#[], by rw [same z (at_ne e z exo_tbl)]; simp⟩ }
  refine h dx _ hnd dne (I.un (t' := tk') U fun b o z => ?_)
  by_cases hb : b = a
  · subst hb
    rw [upd_same] at z
    cases z
    exact exo_ok hx
  · rw [upd_ne hb] at z
    by_cases hd : b = dx
    · subst hd
      rw [upd_same] at z
      cases z
      exact exd_ok hn (relO_put (fs := []) ry fun _ => True.intro)
    · rw [upd_ne hd] at z
      refine (I.hok b o z).stay (fun c v hc w => k c v (fun ca => ?_) w) (fun c hc => same hc (at_ne e hc exo_own)) fun c xs hc => same hc (at_ne e hc exo_tup)
      rcases hc with hc | hc
      · exact hb (hc.symm.trans ca)
      · exact at_ne e hc exo_own ca
/-- Exception.__init__(self, ..): nothing of it is told -/
theorem err_base {us : List Value} {Q : Value → Shared → Prop} (T : ErrC X.K C) (I : Inv X pins σ H s) (e : H a = some (exo a C none)) (hl : us.length ≤ sizeLine) (h : ∀ s', Inv X pins σ H s' → Q .none s') :
    wpAny (model X.prog X.w) A (call (.builtin "Exception.__init__") (.ref a :: us)) Q E s := by
  obtain ⟨nm, q, N, bs, sn, sub, ab, col, dd, k0, k1, k2, k3, k5, hC⟩ := T.cls
  obtain ⟨t1, ho⟩ := exo_at I.hok e
  obtain ⟨hp, g, d, t, os⟩ := s
  refine wpAny_call (PySem.HandSPX.init_base F.excBase_Exception (fun _ => rfl) (I.kIn _ _ hC) ho hl fun h' t2 k hx => ?_)
  have J := I.write (t' := t) (x := a) (e := a) (o := exo a C none) (by rw [e]; exact True.intro) (.inl rfl) k ⟨_, hx⟩ (exo_ok hx)
  have eu : upd H a (exo a C none) = H := by
    funext b
    by_cases hb : b = a
    · rw [hb, upd_same, e]
    · rw [upd_ne hb]
  rw [eu] at J
  exact h _ J
end
def tErrBase (K : PySem.W.Frag) (ta : TA) : TE := fun σ H Q => ta σ H fun vs H1 => ∃ (a C : Addr) (ws : List V), vs = .ref a :: ws ∧ ws.length ≤ 1000 ∧ ErrC K C ∧ H1 a = some (exo a C none) ∧ Q .non H1
def tErrSet (K : PySem.W.Frag) (f : Str) (to te : TE) : TS := fun D σ H => te σ H fun y H1 => to σ H1 fun x H2 => ∃ a C : Addr, x = .ref a ∧ ErrC K C ∧ PySem.W.findIn K (.ref C) f = some none ∧
  H2 a = some (exo a C none) ∧ ∀ dx, H2 dx = none → dx ≠ a → D.nx σ (upd (upd H2 dx (exd dx [(f, y)])) a (exo a C (some dx)))
section
variable {X : Cx} {o e : Expr} {es : List Expr} {to te : TE} {ta : TA} {f : Str} {p p' p1 p2 pos : Pos}
theorem pe_errBase {pl : Sem Bool} (hg : Gl X "Exception") (hm : X.mg "Exception" = none) (vE : PySem.W.findCls X.K (.type "Exception") (.type "type") "__init__" = some (.val (.builtin "Exception.__init__"))) (ha : PA X (e :: es) ta)
    (hc : eval (.Call (.Attribute (.Name "Exception" p1) "__init__" p2) (e :: es) [] pos) X.env = (do
      let ov ← eval (.Name "Exception" p1) X.env
      standAt p2.atName
      let (f, first) ← holding [ov] (getMethod ov "__init__" pl)
      callWith pos f first (backTo pos (starEach (e :: es) X.env)) (backToKw pos (keywordEach [] X.env))) := by rfl)
    (he : starEach (e :: es) X.env = (false, eval e X.env) :: starEach es X.env := by rfl) (hpl : (backTo pos (starEach es X.env)).any (·.1) = false := by rfl) :
    PE X (.Call (.Attribute (.Name "Exception" p1) "__init__" p2) (e :: es) [] pos) (tErrBase X.K ta) := by
  refine ⟨fun pins s σ H Q I h => ?_⟩
  refine PySem.W.methodCall_KW (ld_blt I hg hm PyProof.Rows.Boot.«Exception» ?_ (by decide) (by decide)) hc
  obtain ⟨m, fr⟩ := I.fr
  refine PySem.W.method_type fr I.ok.mod.kin typ_Ex (by decide +kernel) vE (by decide +kernel) ?_
  show wpAny _ _ (callWith pos (Value.builtin "Exception.__init__") [] (backTo pos (starEach (e :: es) X.env)) []) _ _ _
  refine PyProof.Rows.callWith_method1 (thn (ha.run pos pins _ σ H _ (I.tok _) h) fun us s1 hh => ?_) he hpl
  obtain ⟨vs, H1, I1, r1, a, C, ws, ev, hl, T, ea, q⟩ := hh
  subst ev
  cases r1 with
  | cons ra rw' =>
    cases ra
    refine err_base T I1 ea ?_ fun s' J => ⟨.non, H1, J, rfl, q⟩
    rw [← Paired.length rw', sizeLine_eq]
    omega
theorem ps_errSet (ho : PE X o to) (he : PE X e te) (hs : swapsWith e (some (.Attribute o f p')) pos.line X.env = pure false := by rfl) : PS X (.Assign [.Attribute o f p'] e pos) (tErrSet X.K f to te) := by
  refine ⟨fun pins s σ H D I h => ?_⟩
  refine plainObj_wpAny_Assign_Attribute (thn (he.run pins s σ H _ I h) fun v s1 hy => ?_) hs
  obtain ⟨y, H1, I1, r1, q1⟩ := hy
  refine thn (ho.run pins s1 σ H1 _ I1 q1) fun u s2 hx => ?_
  obtain ⟨x, H2, I2, r2, a, C, ex, T, hno, ea, q⟩ := hx
  subst ex
  obtain rfl : u = Value.ref a := r2
  exact err_store T I2 ea hno r1 fun dx s' n ne J => ⟨σ, _, J, q dx n ne⟩
theorem pmk_err {CX : CXT} {x : Str} {C fI : Addr} {k : Nat} {fd : FuncData} {ps : List Str} {sp : Sp} (T : ErrC X.K C) (iC : PySem.W.findIn X.K (.ref C) "__init__" = some (some (.ref fI))) (tI : PySem.W.typeIn X.K (.ref fI) = some (.type "function"))
    (F1 : FnOk X.prog X.w X.K X.mg X.base CX k fI fd ps sp) (hr : Room (k + 1) X.A) (hb : Binds X.K fd ps []) (hx : Passes CX X (fun _ _ _ => False)) (hg : Gl X x) (hm : X.mg x = some (.ref C)) (ha : PA X (e :: es) ta)
    (hdb : (x == ("__debug__" : Str)) = false := by decide) (he : starEach (e :: es) X.env = (false, eval e X.env) :: starEach es X.env := by rfl) (hpl : (backTo pos (starEach es X.env)).any (·.1) = false := by rfl) :
    PMk X (.Call (.Name x p) (e :: es) [] pos) (tMkO C sp [] ta) := by
  intro pins s σ H Q I h
  obtain ⟨nm, q, N, bs, sn, sub, ab, col, dd, k0, k1, k2, k3, k5, hC⟩ := T.cls
  refine wpAny_Call_Name_kw (ld_glob I hg hm ?_ hdb)
  refine PySem.W.callWith_K (h₀ := X.base) I.ok.mod.kin T.kC (thn (ha.run pos pins s σ H _ I h) fun us s1 hh => ?_) he hpl
  obtain ⟨vs, H1, I1, r1, hz, q1⟩ := hh
  refine ⟨I1.kIn, ?_⟩
  show wpAny _ _ (call (.ref C) us) _ _ _
  obtain ⟨hp, g, dr, tk, os⟩ := s1
  have hsz : hp.objs.size ≤ hp.objs.size + 1 := Nat.le_succ _
  have hn : H1 (hp.objs.size + 1) = none := I1.hok.fresh hsz
  have hq := q1 (hp.objs.size + 1) hn
  rw [List.append_nil] at hq
  have kk : ∀ b o, hp.get? b = some o → ((hp.push (PySem.W.kdv_tup us)).push (PySem.HandSPX.excO C hp.objs.size)).get? b = some o := fun b o z => Heap.get?_push_of_some _ (Heap.get?_push_of_some _ z)
  have hget : ((hp.push (PySem.W.kdv_tup us)).push (PySem.HandSPX.excO C hp.objs.size)).get? (hp.objs.size + 1) = some (PySem.HandSPX.excO C hp.objs.size) := by heap_get
  have I2 : Inv X pins σ (upd H1 (hp.objs.size + 1) (exo (hp.objs.size + 1) C none)) ⟨(hp.push (PySem.W.kdv_tup us)).push (PySem.HandSPX.excO C hp.objs.size), g, dr, tk, os⟩ :=
    I1.laid (t' := tk) (o := exo (hp.objs.size + 1) C none) kk hsz (exo_ok hget)
  have r2 : Vals (V.ref (hp.objs.size + 1) :: vs) (Value.ref (hp.objs.size + 1) :: us) := .cons rfl r1
  have hl : (Value.ref (hp.objs.size + 1) :: us ++ []).length = ps.length := by
    rw [List.append_nil, ← r2.length]
    exact F1.len _ _ _ _ hq
  have hus : us.length ≤ sizeLine := by rw [← Paired.length r1, sizeLine_eq]; omega
  refine wpAny_call (PySem.HandSPX.call_own F.excBase_Exception (fun _ => rfl) (I1.kIn _ _ hC) (PySem.W.looks_findIn I1.kIn iC) (fun self => PySem.W.bind_fn I1.kIn self tI) hus ?_)
  have hb2 := hb ⟨(hp.push (PySem.W.kdv_tup us)).push (PySem.HandSPX.excO C hp.objs.size), g, dr, tk, os⟩ (Value.ref (hp.objs.size + 1) :: us) I2.kIn hl
  rw [List.append_nil] at hb2
  refine codeAny_mono (F1.run _ X.stack _ _ ⟨Value.ref (hp.objs.size + 1) :: us, []⟩ _ _ _ (fun _ _ _ => False) (hr.make C us []) (I2.env0.make C us []) hb2 r2 hq) fun r s' hq' => ?_
  cases r with
  | error er => exact hx pins σ _ _ er s' I2 hq'
  | ok fl =>
    cases fl with
    | ret u =>
      obtain ⟨v, H2, os2, bare2, un2, hok2, rv, ev, d, fs, ea, ed, hd1, q2⟩ := hq'
      subst ev
      obtain ⟨h2, g2, d2, t2, os'⟩ := s'
      exact ⟨rv, mk_end (raises_own T.exC T.tyC) I1 hsz kk un2 hok2 os2 bare2 ea ed hd1 q2⟩
    | next => exact hq'.elim
    | brk => exact hq'.elim
    | cont => exact hq'.elim
end
end Fc
set_option maxRecDepth 100000
set_option maxHeartbeats 2000000
namespace Fc
open PySem PySem.Spec PyProof.Rows L2
/-! ### the program's names -/
/-- the three classes -/
structure Cl3 where
  R : Addr
  H : Addr
  W : Addr
/-- a method of the class at C -/
structure MHas (K : PySem.W.Frag) (C : Addr) (m qual : Str) (st : Stmt) : Prop where
  ex : ∃ (f : Addr) (fd : FuncData), Fun K m qual st f fd ∧ PySem.W.findIn K (.ref C) m = some (some (.ref f)) ∧ PySem.W.isFn K (.ref f) = true
/-- a class that is made with no arguments -/
structure CHas (K : PySem.W.Frag) (mg : Str → Option Value) (g : Str) (C : Addr) : Prop where
  cl : Cls K C
  g : mg g = some (.ref C)
  makes : PySem.W.makesIn K C = true
  kp : PySem.W.keepIn K (.ref C) = true
structure RHas (K : PySem.W.Frag) (mg : Str → Option Value) (C : Addr) : Prop where
  err : ErrC K C
  g : mg "Refused" = some (.ref C)
  no : PySem.W.findIn K (.ref C) "number" = some none
  init : ∃ (f : Addr) (fd : FuncData), Fun K "__init__" "Refused.__init__" (inClass (top 8) 0) f fd ∧ PySem.W.findIn K (.ref C) "__init__" = some (some (.ref f)) ∧ PySem.W.typeIn K (.ref f) = some (.type "function")
  base : PySem.W.findCls K (.type "Exception") (.type "type") "__init__" = some (.val (.builtin "Exception.__init__"))
  fld : XfC K C
  self : PySem.W.exmOne K (.ref C) (.ref C) = some true
structure Txt (K : PySem.W.Frag) (mg : Str → Option Value) (c : Cl3) : Prop where
  undo : Has K mg "undo" "undo" "undo" (top 12)
  finger_of : Has K mg "finger_of" "finger_of" "finger_of" (top 13)
  small_turn : Has K mg "small_turn" "small_turn" "small_turn" (top 14)
  turn_read : Has K mg "turn_read" "turn_read" "turn_read" (top 15)
  letter_of : Has K mg "letter_of" "letter_of" "letter_of" (top 16)
  letters_of : Has K mg "letters_of" "letters_of" "letters_of" (top 17)
  pulled_taut : Has K mg "pulled_taut" "pulled_taut" "pulled_taut" (top 18)
  turned_back : Has K mg "turned_back" "turned_back" "turned_back" (top 19)
  thread_of : Has K mg "thread_of" "thread_of" "thread_of" (top 21)
  loop_of : Has K mg "loop_of" "loop_of" "loop_of" (top 22)
  loops_of : Has K mg "loops_of" "loops_of" "loops_of" (top 23)
  unlike : Has K mg "unlike" "unlike" "unlike" (top 24)
  clash : Has K mg "clash" "clash" "clash" (top 25)
  put_for_graphs : Has K mg "put_for_graphs" "put_for" "put_for" (top 26)
  put_for_swaps : Has K mg "put_for_swaps" "put_for" "put_for" (top 63)
  made_one : Has K mg "made_one" "made_one" "made_one" (top 28)
  graph_of : Has K mg "graph_of" "graph_of" "graph_of" (top 29)
  leads_of : Has K mg "leads_of" "leads_of" "leads_of" (top 30)
  end_of : Has K mg "end_of" "end_of" "end_of" (top 31)
  is_made : Has K mg "is_made" "is_made" "is_made" (top 32)
  knots_of : Has K mg "knots_of" "knots_of" "knots_of" (top 33)
  leads_on : Has K mg "leads_on" "leads_on" "leads_on" (top 34)
  is_full : Has K mg "is_full" "is_full" "is_full" (top 35)
  sets_of : Has K mg "sets_of" "sets_of" "sets_of" (top 38)
  has_finger : Has K mg "has_finger" "has_finger" "has_finger" (top 39)
  fingers_in : Has K mg "fingers_in" "fingers_in" "fingers_in" (top 40)
  falls : Has K mg "falls" "falls" "falls" (top 41)
  want_let_go : Has K mg "want_let_go" "want_let_go" "want_let_go" (top 42)
  in_order : Has K mg "in_order" "in_order" "in_order" (top 43)
  lies_within : Has K mg "lies_within" "lies_within" "lies_within" (top 44)
  least_sets : Has K mg "least_sets" "least_sets" "least_sets" (top 45)
  want_sets : Has K mg "want_sets" "want_sets" "want_sets" (top 46)
  part_for : Has K mg "part_for" "part_for" "part_for" (top 47)
  cord_made : Has K mg "cord_made" "cord_made" "cord_made" (top 48)
  meets_all : Has K mg "meets_all" "meets_all" "meets_all" (top 49)
  fits : Has K mg "fits" "fits" "fits" (top 50)
  off_at_ends : Has K mg "off_at_ends" "off_at_ends" "off_at_ends" (top 52)
  middle_of : Has K mg "middle_of" "middle_of" "middle_of" (top 53)
  first_of_all : Has K mg "first_of_all" "first_of_all" "first_of_all" (top 54)
  one_form : Has K mg "one_form" "one_form" "one_form" (top 55)
  are_alike : Has K mg "are_alike" "are_alike" "are_alike" (top 56)
  are_the_same : Has K mg "are_the_same" "are_the_same" "are_the_same" (top 57)
  shortest_part : Has K mg "shortest_part" "shortest_part" "shortest_part" (top 58)
  root_of : Has K mg "root_of" "root_of" "root_of" (top 59)
  own_letters : Has K mg "own_letters" "own_letters" "own_letters" (top 62)
  exchanged : Has K mg "exchanged" "exchanged" "exchanged" (top 65)
  exchanged_often : Has K mg "exchanged_often" "exchanged_often" "exchanged_often" (top 66)
  want_short : Has K mg "want_short" "want_short" "want_short" (top 70)
  want_letters : Has K mg "want_letters" "want_letters" "want_letters" (top 71)
  cord_read : Has K mg "cord_read" "cord_read" "cord_read" (top 72)
  cords_read : Has K mg "cords_read" "cords_read" "cords_read" (top 73)
  turns_together : Has K mg "turns_together" "turns_together" "turns_together" (top 74)
  passed : Has K mg "passed" "passed" "passed" (top 77)
  ways_of : Has K mg "ways_of" "ways_of" "ways_of" (top 78)
  free_threads : Has K mg "free_threads" "free_threads" "free_threads" (top 79)
  basis_of : Has K mg "basis_of" "basis_of" "basis_of" (top 80)
  told_by_basis : Has K mg "told_by_basis" "told_by_basis" "told_by_basis" (top 81)
  two_read : Has K mg "two_read" "two_read" "two_read" (top 87)
  do_fingers : Has K mg "do_fingers" "do_fingers" "do_fingers" (top 88)
  do_taut : Has K mg "do_taut" "do_taut" "do_taut" (top 89)
  do_falls : Has K mg "do_falls" "do_falls" "do_falls" (top 90)
  do_sets : Has K mg "do_sets" "do_sets" "do_sets" (top 91)
  do_make : Has K mg "do_make" "do_make" "do_make" (top 92)
  do_fits : Has K mg "do_fits" "do_fits" "do_fits" (top 93)
  do_ring : Has K mg "do_ring" "do_ring" "do_ring" (top 94)
  do_alike : Has K mg "do_alike" "do_alike" "do_alike" (top 95)
  do_root : Has K mg "do_root" "do_root" "do_root" (top 96)
  do_commute : Has K mg "do_commute" "do_commute" "do_commute" (top 97)
  do_join : Has K mg "do_join" "do_join" "do_join" (top 98)
  do_moves : Has K mg "do_moves" "do_moves" "do_moves" (top 99)
  do_member : Has K mg "do_member" "do_member" "do_member" (top 100)
  do_size : Has K mg "do_size" "do_size" "do_size" (top 101)
  do_basis : Has K mg "do_basis" "do_basis" "do_basis" (top 102)
  do_write : Has K mg "do_write" "do_write" "do_write" (top 103)
  do_exchange : Has K mg "do_exchange" "do_exchange" "do_exchange" (top 104)
  do_turn : Has K mg "do_turn" "do_turn" "do_turn" (top 105)
  do_onto : Has K mg "do_onto" "do_onto" "do_onto" (top 106)
  rows_from : Has K mg "rows_from" "rows_from" "rows_from" (top 114)
  answered : Has K mg "answered" "answered" "answered" (top 115)
  answers : Has K mg "answers" "answers" "answers" (top 116)
  len : mg "len" = none
  int : mg "int" = none
  list : mg "list" = none
  dict : mg "dict" = none
  set : mg "set" = none
  sorted : mg "sorted" = none
  any : mg "any" = none
  all : mg "all" = none
  sum : mg "sum" = none
  max : mg "max" = none
  min : mg "min" = none
  range : mg "range" = none
  reversed : mg "reversed" = none
  Exception : mg "Exception" = none
  OUT_OF_RANGE : ∃ t, mg "OUT_OF_RANGE" = some (.int (-2) t)
  NO_SETS : ∃ t, mg "NO_SETS" = some (.int (-3) t)
  TOO_MANY : ∃ t, mg "TOO_MANY" = some (.int (-4) t)
  NOT_MADE : ∃ t, mg "NOT_MADE" = some (.int (-5) t)
  TOO_LONG : ∃ t, mg "TOO_LONG" = some (.int (-6) t)
  TEXT_TOO_LONG : ∃ t, mg "TEXT_TOO_LONG" = some (.int (-8) t)
  FAULT : ∃ t, mg "FAULT" = some (.int (-1000) t)
  SMALL : ∃ t, mg "SMALL" = some (.int (97) t)
  GREAT : ∃ t, mg "GREAT" = some (.int (65) t)
  MOST_SETS : ∃ t, mg "MOST_SETS" = some (.int (12) t)
  MOST_TURNS : ∃ t, mg "MOST_TURNS" = some (.int (2000) t)
  LONGEST : ∃ t, mg "LONGEST" = some (.int (2000) t)
  SEMICOLON : ∃ t, mg "SEMICOLON" = some (.int (59) t)
  MOST_FINGERS : ∃ t, mg "MOST_FINGERS" = some (.int (6) t)
  MOST_MOVES : ∃ t, mg "MOST_MOVES" = some (.int (6) t)
  MOST_TOLD : ∃ t, mg "MOST_TOLD" = some (.int (100) t)
  MOST_TIMES : ∃ t, mg "MOST_TIMES" = some (.int (64) t)
  AT_FIRST : ∃ t, mg "AT_FIRST" = some (.int (3) t)
  Refused : RHas K mg c.R
  Hand : CHas K mg "Hand" c.H
  Ways : CHas K mg "Ways" c.W
  hand_init : MHas K c.H "__init__" "Hand.__init__" (inClass (top 109) 0)
  hand_begin : MHas K c.H "begin" "Hand.begin" (inClass (top 109) 1)
  hF : NoAttr K c.H "fingers"
  hM : NoAttr K c.H "moves"
  hE : NoAttr K c.H "exchange"
  ways_init : MHas K c.W "__init__" "Ways.__init__" (inClass (top 76) 0)
  ways_find : MHas K c.W "find" "Ways.find" (inClass (top 76) 1)
  wF : NoAttr K c.W "found"
  wT : NoAttr K c.W "way_to"
  wO : NoAttr K c.W "on_ways"
  NUMBERS : ∃ d, mg "NUMBERS" = some (.ref d) ∧ ∀ H, SqT K H d (iv [1, 0, 1, 0, 0, 0, 0, 0, 0, 0, 0, 0, 0, 0, 0, 0, 0, 1, 0])
  ROWS : ∃ d, mg "ROWS" = some (.ref d) ∧ ∀ H, SqT K H d (iv [0, 1, 1, 1, 1, 2, 1, 2, 1, 2, 2, 1, 1, 0, 0, 1, 1, 1, 0])
  DEEDS : ∃ (d : Addr) (fs : List Addr), mg "DEEDS" = some (.ref d) ∧ (∀ H, SqT K H d (fs.map V.ref)) ∧ (["do_fingers", "do_taut", "do_falls", "do_sets", "do_make", "do_fits", "do_ring", "do_alike", "do_root", "do_commute", "do_join", "do_moves", "do_member", "do_size", "do_basis", "do_write", "do_exchange", "do_turn", "do_onto"] : List Str).map mg = fs.map fun f => some (.ref f)
theorem hu64_of {A : Around} {k : Nat} (hr : Room k A) : A.units + 64 < cLine := by have := hr.un; omega
section
variable {X : Cx} {x : Str} {p pos : Pos} {i : Int}
/-- a number of the module -/
theorem pconst (h : ∃ t, X.mg x = some (.int i t)) (hg : Gl X x) (hdb : (x == ("__debug__" : Str)) = false := by decide) : PE X (.Name x p) (tC (.int i)) := by
  obtain ⟨t, e⟩ := h
  exact pe_glob hg e ⟨t, rfl⟩ hdb
end
/-! ### what a refusal leaves -/
section
variable {P : Program} {w : World} {K : PySem.W.Frag} {mg : Str → Option Value} {base : Heap} {c : Cl3}
def spRef (C : Addr) : Sp := fun vs H Q _ => ∃ (a : Addr) (n : Int), vs = [.ref a, .int n] ∧ H a = some (exo a C none) ∧
  ∀ dx, H dx = none → dx ≠ a → Q .non (upd (upd H dx (exd dx [("number", .int n)])) a (exo a C (some dx)))
abbrev s_ref : Stmt := inClass (top 8) 0
theorem sc_ref : FnScope ["self", "number"] ["self", "number"] (defScope s_ref) := ⟨rfl, rfl, rfl, by decide +kernel, rfl, by decide +kernel, by decide +kernel⟩
theorem b_ref : BindsP "__init__" "Refused.__init__" s_ref ["self", "number"] := fun _ _ _ _ _ _ us hl => match us, hl with | [_, _], _ => rfl
theorem ok_ref (T : Txt K mg c) {f : Addr} {fd : FuncData} (F : Fun K "__init__" "Refused.__init__" s_ref f fd) : FnOk P w K mg base CX0 1 f fd ["self", "number"] (spRef c.R) := by
  refine F.ok sc_ref (fun vs H Q E h => ?_) (fun cdv A outer s H vs Q E hr h => ⟨_, pss_cons (ps_expr (pe_errBase rfl T.Exception T.Refused.base (pa_cons (pv 0) (pa_cons pe_str pa_nil)))) (pss_one (ps_errSet (pv 0) (pv 1))), ?_⟩)
  · obtain ⟨a, n, rfl, _⟩ := h
    rfl
  · obtain ⟨a, n, rfl, ha, q⟩ := h
    refine ⟨_, rfl, a, c.R, _, rfl, by decide, T.Refused.err, ha, ?_⟩
    exact ⟨_, rfl, _, rfl, a, c.R, rfl, T.Refused.err, T.Refused.no, ha, q⟩
end
def tRaise (C : Addr) (E : XK) (ta : TA) : TS := fun _ σ H => tMkO C (spRef C) [] ta σ H fun cls d H' => E cls d H'
theorem praise {X : Cx} {c : Cl3} {k : Nat} {E : XK} {a : Expr} {ta : TA} {p pos pos2 : Pos} (T : Txt X.K X.mg c) (hr : Room k X.A) (tk : Takes X (fun cls d _ H => E cls d H)) (ha : PA X [a] ta) (hk : 2 ≤ k := by decide) (hc : X.calm = true := by rfl) (hg : Gl X "Refused" := by rfl)
    (he : starEach [a] X.env = (false, eval a X.env) :: starEach [] X.env := by rfl) (hpl : (backTo pos (starEach [] X.env)).any (·.1) = false := by rfl) :
    PS X (.Raise (some (.Call (.Name "Refused" p) [a] [] pos)) none pos2) (tRaise c.R E ta) := by
  obtain ⟨f, fd, F, i1, i2⟩ := T.Refused.init
  have G : FnOk X.prog X.w X.K X.mg X.base CX0 1 f fd ["self", "number"] (spRef c.R) := ok_ref T F
  exact ps_raise hc tk (pmk_err T.Refused.err i1 i2 G (hr.mono hk) (F.binds b_ref) (fun _ _ _ _ _ _ _ z => z.elim) hg T.Refused.g ha (by decide) he hpl)
theorem Refs.mono {C : Addr} {H H1 : Hp} {E : XK} {n : Int} (h : Refs C H E n) (e : Ex H H1) : Refs C H1 E n := fun d H' e1 hd => h d H' (e.trans e1) hd
theorem st_raise {C : Addr} {E : XK} {te : TE} {D : Ends} {σ : L2.St} {H : Hp} {n : Int} (h : ER te σ H (IsI n)) (r : Refs C H E n) : tRaise C E (tCons te tNil) D σ H := by
  refine h H Ex.rfl _ fun v H1 e rv => ?_
  have ev : v = .int n := rv
  subst ev
  refine ⟨(by decide : 1 ≤ 1000), fun a ha => ?_⟩
  refine ⟨a, n, rfl, upd_same, fun dx hdx hne => ⟨rfl, dx, [("number", .int n)], upd_same, ?_, ?_, ?_⟩⟩
  · rw [upd_ne hne]; exact upd_same
  · rw [upd_ne hne] at hdx; exact hdx
  · refine r dx _ (fun b o hb => ?_) upd_same
    have hb1 := e b o hb
    have n1 : b ≠ a := ne_of_none hb1 ha
    have n2 : b ≠ dx := by
      rw [upd_ne hne] at hdx
      exact ne_of_none hb1 hdx
    rw [upd_ne n2, del_ne n1, upd_ne n1, upd_ne n2, upd_ne n1]
    exact hb1
/-- a call that may refuse -/
instance (p : Prop) (R : Rel) [m : Mono R] : Mono (fun v H => p ∧ R v H) := ⟨fun e ⟨a, b⟩ => ⟨a, m.mono e b⟩⟩
theorem er_callX {α : Type} {C : Addr} {Rs : α → List Rel} {ok : α → Prop} {no : α → Option Int} {post : α → Rel} {E : XK} {ta : TA} {σ : L2.St} {H : Hp} (a : α) (h : EA ta σ H (Rs a)) (hk : ok a) (hE : ∀ n, no a = some n → Refs C H E n) :
    ER (tCall (spX C Rs ok no post) [] E ta) σ H (fun v H' => no a = none ∧ post a v H') := fun H1 e Q q =>
  h H1 e _ fun vs H2 e2 r => by
    rw [List.append_nil]
    exact ⟨a, hk, r, fun hn v H' e3 r3 => q v H' (e2.trans e3) ⟨hn, r3⟩, fun n hn => (hE n hn).mono (e.trans e2)⟩
theorem er_callX' {α : Type} {C : Addr} {Rs : α → List Rel} {ok : α → Prop} {no : α → Option Int} {post : α → Rel} {E : XK} {ta : TA} {σ : L2.St} {H : Hp} (a : α) (h : EA ta σ H (Rs a)) (hk : ok a) (hE : ∀ n, no a = some n → Refs C H E n) :
    ER (tCall (spX C Rs ok no post) [] E ta) σ H (post a) := (er_callX a h hk hE).imp fun _ _ _ r => r.2
/-! ### loops and comprehensions -/
/-- what doesn't look at a list that's being filled with such -/
class Stable {β : Type} (R : β → Rel) : Prop where
  stay : ∀ {H : Hp} {l : Addr} {ys zs : List V}, H l = some (.lst ys) → (∀ y ∈ ys, ∃ b, R b y H) → ∀ {b : β} {x : V}, R b x H → R b x (upd H l (.lst zs))
instance {β : Type} (h : β → V) : Stable (fun b => IsV (h b)) := ⟨by intro _ _ _ _ _ _ _ _ r; exact r⟩
/-- of tuples, of values, of tuples of these -/
class Flat (R : Rel) : Prop where
  stay : ∀ {H : Hp} {l : Addr} {ys zs : List V}, H l = some (.lst ys) → ∀ {x : V}, R x H → R x (upd H l (.lst zs))
class FlatL (Rs : List Rel) : Prop where
  stay : ∀ {H : Hp} {l : Addr} {ys zs : List V}, H l = some (.lst ys) → ∀ {xs : List V}, All2 Rs xs H → All2 Rs xs (upd H l (.lst zs))
instance (v : V) : Flat (IsV v) := ⟨by intro _ _ _ _ _ _ r; exact r⟩
instance : FlatL [] := ⟨by
  intro H l ys zs h xs r
  cases xs with
  | nil => exact r
  | cons _ _ => exact r⟩
instance (R : Rel) (Rs : List Rel) [a : Flat R] [b : FlatL Rs] : FlatL (R :: Rs) := ⟨by
  intro H l ys zs h xs r
  cases xs with
  | nil => exact r
  | cons v vs => exact ⟨a.stay h r.1, b.stay h r.2⟩⟩
instance (Rs : List Rel) [b : FlatL Rs] : Flat (TupOf Rs) := ⟨by
  intro H l ys zs h x r
  obtain ⟨p, xs, e, hp, r⟩ := r
  refine ⟨p, xs, e, ?_, b.stay h r⟩
  rw [upd_ne (ne_of hp h (fun z => nomatch z))]
  exact hp⟩
instance stableF {β : Type} (R : β → Rel) [f : ∀ b, Flat (R b)] : Stable R := ⟨by
  intro H l ys zs h _ b x r
  exact (f b).stay h r⟩
theorem paired_all {β : Type} {F : β → V → Prop} : ∀ {bs : List β} {xs : List V}, Paired F bs xs → ∀ x ∈ xs, ∃ b, F b x
  | _, _, .nil, _, h => nomatch h
  | _, _, .cons r t, x, h => by
    rcases List.mem_cons.mp h with e | h
    · rw [e]; exact ⟨_, r⟩
    · exact paired_all t x h
theorem paired_stay {β : Type} {F G : β → V → Prop} : ∀ {bs : List β} {xs : List V}, Paired F bs xs → (∀ b x, F b x → G b x) → Paired G bs xs
  | _, _, .nil, _ => .nil
  | _, _, .cons r t, f => .cons (f _ _ r) (paired_stay t f)
section
variable {K : PySem.W.Frag} {σ : L2.St} {H H' : Hp} {ta tb te tl : TE} {tt : TT} {R : Rel} {D : Ends} {tu tw : TS} {g : TG}
/-- a loop over a range: Pv by the turn -/
theorem st_range1 {ta : TA} {n : Nat} (h : EA ta σ H [IsI (n : Int)]) (hn : n ≤ 2000000) (Pv : Nat → L2.St → Hp → Prop) (h0 : ∀ H1, Ex H H1 → Pv 0 σ H1)
    (hs : ∀ i σ' H', i < n → Pv i σ' H' → g (.int (i : Int)) σ' H' fun σ2 H2 => tu { D with nx := Pv (i + 1), ct := Pv (i + 1), bk := D.nx } σ2 H2) (hd : ∀ σ' H', Pv n σ' H' → D.nx σ' H') : tFor (iRng1 ta) g tu D σ H := by
  refine h H Ex.rfl _ fun vs H1 e1 r => ?_
  have ev : vs = [V.int (n : Int)] := isL_all2 (xs := [V.int (n : Int)]) r
  refine ⟨n, ev, by omega, by omega, ?_⟩
  refine for_range (lo := 0) (n := (n : Int).toNat) Pv (h0 H1 e1) (fun i σ' H' hi p => ?_) (fun σ' H' p => hd σ' H' (by rw [show (n : Int).toNat = n by omega] at p; exact p))
  have q := hs i σ' H' (by omega) p
  rw [show (0 : Int) + (i : Int) = (i : Int) by omega]
  exact q
/-- a loop over a list that stands through it -/
theorem st_list {xs : List V} (h : ER tl σ H (IsL xs)) (Pv : Addr → Nat → L2.St → Hp → Prop) (h0 : ∀ p H1, Ex H H1 → H1 p = some (.lst xs) → Pv p 0 σ H1) (hl : ∀ p i σ' H', Pv p i σ' H' → H' p = some (.lst xs))
    (hs : ∀ p i x σ' H', xs[i]? = some x → Pv p i σ' H' → g x σ' H' fun σ2 H2 => tu { D with nx := Pv p (i + 1), ct := Pv p (i + 1), bk := D.nx } σ2 H2) (hd : ∀ p σ' H', Pv p xs.length σ' H' → D.nx σ' H') : tFor (iList K tl) g tu D σ H := by
  refine h H Ex.rfl _ fun v H1 e1 ⟨p, ep, hp⟩ => ⟨p, ep, ⟨xs, .of hp⟩, ?_⟩
  exact for_list (Pv p) (h0 p H1 e1 hp) (fun i σ' H' _ q => .of (hl p i σ' H' q)) (hs p) (hd p)
/-- a list comprehension, its words: of the source's items as, those that f keeps, as m tells -/
theorem er_lcL {α β : Type} {S : α → Rel} [ms : ∀ a, Mono (S a)] {R : β → Rel} [mr : ∀ b, Mono (R b)] [st : Stable R] {as : List α} {vs : List Nat} (src : ER tl σ H (LstOf S as)) (hz : as.length ≤ 1000000) (f : α → Bool) (m : α → β)
    (turn : ∀ a, a ∈ as → ∀ x H1, Ex H H1 → S a x H1 → ∃ σ2, (∀ H2, Ex H1 H2 → ∀ Q : L2.St → Hp → Prop, Q σ2 H2 → g x (wipe σ vs) H2 Q) ∧ wipe σ2 vs = wipe σ vs ∧ ET tt σ2 H1 (f a) ∧ (f a = true → ER te σ2 H1 (R (m a)))) :
    ER (tLc (iList K tl) g tt te vs) σ H (LstOf R ((as.filter f).map m)) := fun H0 e Q q => src H0 e _ fun v H1 e1 ⟨p, xs, ep, hp, pr⟩ => ⟨p, ep, ⟨xs, .of hp⟩, fun Dl hD => by
  have hlen := paired_len pr
  have hpD : p ≠ Dl := ne_of_none hp hD
  let Pv : Nat → Hp → Prop := fun i H' => Ex H1 H' ∧ ∃ ys, H' Dl = some (.lst ys) ∧ Paired (fun b x => R b x H') (((as.take i).filter f).map m) ys
  refine lc_list (a := p) (xs := xs) Pv ⟨Evl.Ex.new hD, [], upd_same, by simp [show as.take 0 = [] from rfl]; exact .nil⟩ (fun i H' _ q => .of (q.1 _ _ hp)) (fun i x H' hx q2 => ?_) (fun H' q2 => ?_)
  · obtain ⟨ex, ys, hy, py⟩ := q2
    have hi : i < as.length := by
      have := (List.getElem?_eq_some_iff.mp hx).1
      omega
    have ha : as[i]? = some as[i] := List.getElem?_eq_getElem hi
    obtain ⟨x', hx', rS⟩ := paired_get pr ha
    rw [hx] at hx'
    cases hx'
    obtain ⟨σ2, gt, wp, et, er⟩ := turn as[i] (List.getElem_mem hi) x H' ((e.trans e1).trans ex) ((ms _).mono ex rS)
    have tk : as.take (i + 1) = as.take i ++ [as[i]] := by rw [List.take_add_one, ha]; rfl
    refine gt H' Ex.rfl _ ⟨wp, et H' Ex.rfl _ fun H3 e3 => ?_⟩
    cases c : f as[i] with
    | false =>
      refine iteF ⟨ex.trans e3, ys, e3 _ _ hy, ?_⟩
      rw [tk, List.filter_append, List.map_append, List.filter_cons_of_neg (by rw [c]; exact Bool.false_ne_true), List.filter_nil, List.map_nil, List.append_nil]
      exact paired_mono e3 py
    | true =>
      refine iteT ?_
      refine er c H3 e3 _ fun y H4 e4 r4 => ⟨ys, e4 _ _ (e3 _ _ hy), ?_, ?_⟩
      · have l1 := paired_len py
        rw [List.length_map] at l1
        have l2 := List.length_filter_le f (as.take i)
        rw [List.length_take] at l2
        have l3 : (1000001 : Nat) < sizeLine := by decide
        omega
      · have e5 : Ex H1 (upd H4 Dl (.lst (ys ++ [y]))) := Evl.Ex.mut ((ex.trans e3).trans e4) hD
        refine ⟨e5, ys ++ [y], upd_same, ?_⟩
        rw [tk, List.filter_append, List.map_append, List.filter_cons_of_pos c, List.filter_nil]
        -- what held of the items holds still: they don't look at the new list
        have py4 := paired_mono (R := R) (e3.trans e4) py
        have hy4 := e4 _ _ (e3 _ _ hy)
        exact paired_snoc (paired_stay py4 fun b' x' r' => st.stay hy4 (paired_all py4) r') (st.stay hy4 (paired_all py4) r4)
  · obtain ⟨ex, ys, hy, py⟩ := q2
    have z : as.take xs.length = as := by rw [← hlen]; exact List.take_length
    rw [z] at py
    exact q _ _ (e1.trans ex) ⟨Dl, ys, rfl, hy, py⟩⟩
/-- over a range -/
theorem er_lcR {β : Type} {R : β → Rel} [mr : ∀ b, Mono (R b)] [st : Stable R] {ta : TA} {n : Nat} {vs : List Nat} (src : EA ta σ H [IsI (n : Int)]) (hz : n ≤ 1000000) (f : Nat → Bool) (m : Nat → β)
    (turn : ∀ i, i < n → ∀ H1, Ex H H1 → ∃ σ2, (∀ H2, Ex H1 H2 → ∀ Q : L2.St → Hp → Prop, Q σ2 H2 → g (.int (i : Int)) (wipe σ vs) H2 Q) ∧ wipe σ2 vs = wipe σ vs ∧ ET tt σ2 H1 (f i) ∧ (f i = true → ER te σ2 H1 (R (m i)))) :
    ER (tLc (iRng1 ta) g tt te vs) σ H (LstOf R (((List.range n).filter f).map m)) := fun H0 e Q q => src H0 e _ fun us H1 e1 r => by
  have ev : us = [V.int (n : Int)] := isL_all2 (xs := [V.int (n : Int)]) r
  refine ⟨n, ev, by omega, by omega, fun Dl hD => ?_⟩
  let Pv : Nat → Hp → Prop := fun i H' => Ex H1 H' ∧ ∃ ys, H' Dl = some (.lst ys) ∧ Paired (fun b x => R b x H') (((List.range i).filter f).map m) ys
  refine lc_range (lo := 0) (n := (n : Int).toNat) Pv ⟨Evl.Ex.new hD, [], upd_same, .nil⟩ (fun i H' hi q2 => ?_) (fun H' q2 => ?_)
  · obtain ⟨ex, ys, hy, py⟩ := q2
    obtain ⟨σ2, gt, wp, et, er⟩ := turn i (by omega) H' ((e.trans e1).trans ex)
    rw [show (0 : Int) + (i : Int) = (i : Int) by omega]
    refine gt H' Ex.rfl _ ⟨wp, et H' Ex.rfl _ fun H3 e3 => ?_⟩
    cases c : f i with
    | false =>
      refine iteF ⟨ex.trans e3, ys, e3 _ _ hy, ?_⟩
      rw [List.range_succ, List.filter_append, List.map_append, List.filter_cons_of_neg (by rw [c]; exact Bool.false_ne_true), List.filter_nil, List.map_nil, List.append_nil]
      exact paired_mono e3 py
    | true =>
      refine iteT ?_
      refine er c H3 e3 _ fun y H4 e4 r4 => ⟨ys, e4 _ _ (e3 _ _ hy), ?_, ?_⟩
      · have l1 := paired_len py
        rw [List.length_map] at l1
        have l2 := List.length_filter_le f (List.range i)
        rw [List.length_range] at l2
        have l3 : (1000001 : Nat) < sizeLine := by decide
        omega
      · have e5 : Ex H1 (upd H4 Dl (.lst (ys ++ [y]))) := Evl.Ex.mut ((ex.trans e3).trans e4) hD
        refine ⟨e5, ys ++ [y], upd_same, ?_⟩
        rw [List.range_succ, List.filter_append, List.map_append, List.filter_cons_of_pos c, List.filter_nil]
        have py4 := paired_mono (R := R) (e3.trans e4) py
        have hy4 := e4 _ _ (e3 _ _ hy)
        exact paired_snoc (paired_stay py4 fun b' x' r' => st.stay hy4 (paired_all py4) r') (st.stay hy4 (paired_all py4) r4)
  · obtain ⟨ex, ys, hy, py⟩ := q2
    rw [show (n : Int).toNat = n by omega] at py
    exact q _ _ (e1.trans ex) ⟨Dl, ys, rfl, hy, py⟩
end
end Fc
set_option maxRecDepth 100000
set_option maxHeartbeats 2000000
namespace Fc
open PySem PySem.Spec PyProof.Rows L2
/-! ### values -/
def IsT (xs : List V) : Rel := fun v H => ∃ p, v = .ref p ∧ H p = some (.tup xs)
instance (xs : List V) : Mono (IsT xs) := ⟨fun e ⟨p, a, b⟩ => ⟨p, a, e _ _ b⟩⟩
theorem isT_of {Rs : List Rel} {xs : List V} {v : V} {H : Hp} (h : TupOf Rs v H) (e : Rs = xs.map IsV) : IsT xs v H := by
  obtain ⟨p, ys, e1, hp, r⟩ := h
  subst e
  rw [isL_all2 r] at hp
  exact ⟨p, e1, hp⟩
section
variable {K : PySem.W.Frag} {σ : L2.St} {H H' : Hp} {ta tb te tc tl : TE} {t u : TT} {x y z v : V} {R Ra Rb : Rel} {i j k : Int} {D : Ends} {tu tw : TS}
theorem er_is (h : ER te σ H (IsV x)) (e : x = y) : ER te σ H (IsV y) := e ▸ h
theorem er_T {xs : List V} {ta : TA} (h : EA ta σ H (xs.map IsV)) (hz : xs.length ≤ 1000) : ER (tTup ta) σ H (IsT xs) := fun H1 e Q q => h H1 e _ fun vs H2 e2 r => by
  have z := isL_all2 r
  subst z
  exact ⟨Nat.le_trans hz (by decide), fun n hn => q _ _ (e2.trans (Evl.Ex.new hn)) ⟨n, rfl, upd_same⟩⟩
theorem er_notN (ha : ER ta σ H (IsV x)) : ER (tOp (fun x y H Q => y = .non ∧ Q (.bl (!decide (x = .non))) H) ta (tC .non)) σ H (IsB (!decide (x = .non))) := fun H1 e Q q =>
  ha H1 e _ fun a H2 e2 ra => by
    have ra' : a = x := ra
    subst ra'
    exact ⟨rfl, q _ H2 e2 (Eq.refl _)⟩
theorem er_chain {g g' : Int → Int → V} {b b' : Bool} (ha : ER ta σ H (IsI i)) (hb : ER tb σ H (IsI j)) (hc : ER tc σ H (IsI k)) (e : g i j = .bl b) (e' : g' j k = .bl b') : ER (tChain (rI0 g) (rI0 g') ta tb tc) σ H (IsB (b && b')) := fun H1 e0 Q q =>
  ha H1 e0 _ fun x H2 e2 rx => hb H2 (e0.trans e2) _ fun y H3 e3 ry => ⟨i, j, rx, ry, b, e, by
    cases b with
    | true => exact hc H3 ((e0.trans e2).trans e3) _ fun z H4 e4 rz => ⟨j, k, ry, rz, q _ H4 ((e2.trans e3).trans e4) e'⟩
    | false => exact q _ H3 (e2.trans e3) rfl⟩
theorem er_bit {b : Bool} (h : ER te σ H (IsB b)) : ER (tCB (fun xs H Q => (∃ i, xs = [V.int i] ∧ Q (.int i) H) ∨ ∃ k, xs = [V.bl k] ∧ Q (.int (if k then 1 else 0)) H) (tCons te tNil)) σ H (IsI (if b then 1 else 0)) := fun H1 e Q q =>
  h H1 e _ fun v H2 e2 r => .inr ⟨b, by rw [show v = .bl b from r], q _ H2 e2 rfl⟩
theorem er_any {bs : List Bool} (h : ER te σ H (IsL (bs.map V.bl))) : ER (tCB (rAny K) (tCons te tNil)) σ H (IsB (bs.any id)) := fun H1 e Q q =>
  h H1 e _ fun v H2 e2 ⟨p, ep, hp⟩ => ⟨p, bs, by rw [ep], .of hp, q _ H2 e2 rfl⟩
theorem er_all {bs : List Bool} (h : ER te σ H (IsL (bs.map V.bl))) : ER (tCB (rAll K) (tCons te tNil)) σ H (IsB (bs.all id)) := fun H1 e Q q =>
  h H1 e _ fun v H2 e2 ⟨p, ep, hp⟩ => ⟨p, bs, by rw [ep], .of hp, q _ H2 e2 rfl⟩
theorem er_sum {ns : List Int} (h : ER te σ H (IsL (ns.map V.int))) : ER (tCB (rSum K) (tCons te tNil)) σ H (IsI ns.sum) := fun H1 e Q q =>
  h H1 e _ fun v H2 e2 ⟨p, ep, hp⟩ => ⟨p, ns, by rw [ep], .of hp, q _ H2 e2 rfl⟩
theorem er_max {i j : Int} (h : ER te σ H (IsT [.int i, .int j])) : ER (tCB rMaxT (tCons te tNil)) σ H (IsI (max i j)) := fun H1 e Q q =>
  h H1 e _ fun v H2 e2 ⟨p, ep, hp⟩ => ⟨p, i, j, by rw [ep], hp, q _ H2 e2 rfl⟩
theorem er_min {i j : Int} (h : ER te σ H (IsT [.int i, .int j])) : ER (tCB rMinT (tCons te tNil)) σ H (IsI (min i j)) := fun H1 e Q q =>
  h H1 e _ fun v H2 e2 ⟨p, ep, hp⟩ => ⟨p, i, j, by rw [ep], hp, q _ H2 e2 rfl⟩
theorem er_inT {neg : Bool} {xs : List V} (ha : ER ta σ H (IsV x)) (hb : ER tb σ H (IsT xs)) (hx : flatV x = true) (hf : xs.all flatV = true) : ER (tOp (rIn K neg) ta tb) σ H (IsB (if neg then !inV x xs else inV x xs)) := fun H1 e Q q =>
  ha H1 e _ fun a H2 e2 ra => hb H2 (e.trans e2) _ fun b H3 e3 ⟨p, ep, hp⟩ => by
    have ra' : a = x := ra
    subst ra'
    exact ⟨p, xs, ep, .inr (.of hp), hx, hf, q _ H3 (e2.trans e3) rfl⟩
/-! two lists of numbers -/
theorem dp_ints {H : Hp} : ∀ ns : List Nat, DpAll K H (iv ns) (ns.map fun (n : Nat) => PyData.int (n : Int))
  | [] => .nil
  | n :: ns => .cons (.int _) (dp_ints ns)
theorem eqv_ints : ∀ a b : List Nat, PyData.eqvAll (a.map fun (n : Nat) => PyData.int (n : Int)) (b.map fun (n : Nat) => PyData.int (n : Int)) = decide (a = b)
  | [], [] => by simp [PyData.eqvAll]
  | [], _ :: _ => by simp [PyData.eqvAll]
  | _ :: _, [] => by simp [PyData.eqvAll]
  | x :: a, y :: b => by
    have e : PyData.eqv (.int (x : Int)) (.int (y : Int)) = decide (x = y) := by
      rw [PyData.eqv]
      by_cases c : x = y
      · rw [decide_eq_true c]; exact beq_iff_eq.mpr (by rw [c])
      · rw [decide_eq_false c]; exact beq_eq_false_iff_ne.mpr fun z => c (Int.ofNat.inj z)
    rw [List.map_cons, List.map_cons, PyData.eqvAll, eqv_ints a b, e]
    by_cases c : x = y <;> by_cases d : a = b <;> simp [c, d]
theorem shaped_ints (a : List Nat) : SeqAt.shaped (.list (a.map fun (n : Nat) => PyData.int (n : Int))) = true := by
  have h1 : PyData.canLayAll0 (a.map fun (n : Nat) => PyData.int (n : Int)) = true := by
    induction a with
    | nil => rfl
    | cons x a ih => rw [List.map_cons, PyData.canLayAll0, ih]; rfl
  have h2 : PyData.depthAll (a.map fun (n : Nat) => PyData.int (n : Int)) ≤ 1 := by
    clear h1
    induction a with
    | nil => decide
    | cons x a ih => rw [List.map_cons, PyData.depthAll]; exact Nat.max_le.mpr ⟨Nat.zero_le 1, ih⟩
  unfold SeqAt.shaped
  rw [PyData.canLay0, h1, PyData.depth, Bool.true_and, decide_eq_true_iff]
  omega
theorem er_eqL {a b : List Nat} (ha : ER ta σ H (IsN a)) (hb : ER tb σ H (IsN b)) : ER (tOp (rEqD K) ta tb) σ H (IsB (decide (a = b))) := fun H1 e Q q =>
  ha H1 e _ fun v H2 e2 ⟨p, ep, hp⟩ => hb H2 (e.trans e2) _ fun w H3 e3 ⟨p', ep', hp'⟩ =>
    ⟨_, _, by rw [ep]; exact .lst (.of (e3 _ _ hp)) (dp_ints a), by rw [ep']; exact .lst (.of hp') (dp_ints b), shaped_ints a, shaped_ints b, by
      rw [PyData.eqv, eqv_ints]
      exact q _ H3 (e2.trans e3) rfl⟩
/-! ### dicts of pairs of numbers -/
def nk (u x : Nat) : List Key := [.inl (u : Int), .inl (x : Int)]
def DT (f : Nat → Nat → Option V) : Rel := fun v H => ∃ p kvs, v = .ref p ∧ H p = some (.dT kvs) ∧ ∀ u x, valV kvs (nk u x) = f u x
instance (f : Nat → Nat → Option V) : Mono (DT f) := ⟨fun e ⟨p, k, a, b, c⟩ => ⟨p, k, a, e _ _ b, c⟩⟩
abbrev IsP (u x : Nat) : Rel := IsT [.int (u : Int), .int (x : Int)]
variable {f : Nat → Nat → Option V} {m n : Nat}
theorem er_getT (ha : ER ta σ H (DT f)) (hb : ER tb σ H (IsP m n)) (h : f m n = some v) : ER (tDGet ta tb) σ H (IsV v) := fun H1 e Q q =>
  ha H1 e _ fun a H2 e2 ⟨p, kvs, ep, hp, hf⟩ => hb H2 (e.trans e2) _ fun b H3 e3 ⟨p', ep', hp'⟩ => by
    subst ep'
    refine ⟨p, v, ep, ?_, q _ H3 (e2.trans e3) rfl⟩
    have z := DGet.t (k := nk m n) (e3 _ _ hp) hp'
    rw [hf, h] at z
    exact z
theorem er_inD (hb : ER tb σ H (IsP m n)) (ha : ER ta σ H (DT f)) : ER (tDIn tb ta) σ H (IsB (f m n).isSome) := fun H1 e Q q =>
  hb H1 e _ fun b H2 e2 ⟨p', ep', hp'⟩ => ha H2 (e.trans e2) _ fun a H3 e3 ⟨p, kvs, ep, hp, hf⟩ => by
    subst ep'
    refine ⟨p, f m n, ep, ?_, q _ H3 (e2.trans e3) rfl⟩
    have z := DGet.t (k := nk m n) hp (e3 _ _ hp')
    rw [hf] at z
    exact z
theorem er_notinD (hb : ER tb σ H (IsP m n)) (ha : ER ta σ H (DT f)) : ER (tDNotIn tb ta) σ H (IsB (!(f m n).isSome)) := fun H1 e Q q =>
  hb H1 e _ fun b H2 e2 ⟨p', ep', hp'⟩ => ha H2 (e.trans e2) _ fun a H3 e3 ⟨p, kvs, ep, hp, hf⟩ => by
    subst ep'
    refine ⟨p, f m n, ep, ?_, q _ H3 (e2.trans e3) rfl⟩
    have z := DGet.t (k := nk m n) hp (e3 _ _ hp')
    rw [hf] at z
    exact z
theorem er_get1D (ha : ER ta σ H (DT f)) (hb : ER tb σ H (IsP m n)) : ER (tDGet1 ta tb) σ H (IsV ((f m n).getD .non)) := fun H1 e Q q =>
  ha H1 e _ fun a H2 e2 ⟨p, kvs, ep, hp, hf⟩ => ⟨p, ep, .inr ⟨kvs, .inl hp⟩, hb H2 (e.trans e2) _ fun b H3 e3 ⟨p', ep', hp'⟩ => by
    subst ep'
    refine ⟨f m n, ?_, q _ H3 (e2.trans e3) rfl⟩
    have z := DGet.t (k := nk m n) (e3 _ _ hp) hp'
    rw [hf] at z
    exact z⟩
theorem er_get2D (ha : ER ta σ H (DT f)) (hb : ER tb σ H (IsP m n)) (hc : ER tc σ H (IsV z)) : ER (tDGet2 ta tb tc) σ H (IsV ((f m n).getD z)) := fun H1 e Q q =>
  ha H1 e _ fun a H2 e2 ⟨p, kvs, ep, hp, hf⟩ => ⟨p, ep, .inr ⟨kvs, .inl hp⟩, hb H2 (e.trans e2) _ fun b H3 e3 ⟨p', ep', hp'⟩ => hc H3 ((e.trans e2).trans e3) _ fun w H4 e4 rw_ => by
    subst ep'
    have rz : w = z := rw_
    subst rz
    refine ⟨f m n, ?_, q _ H4 ((e2.trans e3).trans e4) rfl⟩
    have z := DGet.t (k := nk m n) (e4 _ _ (e3 _ _ hp)) (e4 _ _ hp')
    rw [hf] at z
    exact z⟩
/-! ### dicts of numbers -/
/-- what stands at each number -/
def DK (F : Nat → Option Rel) : Rel := fun v H => ∃ p kvs, v = .ref p ∧ H p = some (.dK kvs) ∧ ∀ u : Nat, match F u with
  | none => valV kvs (.inl (u : Int)) = none
  | some R => ∃ w, valV kvs (.inl (u : Int)) = some w ∧ R w H
theorem er_getK {F : Nat → Option Rel} [mr : Mono R] (ha : ER ta σ H (DK F)) (hb : ER tb σ H (IsI (m : Int))) (h : F m = some R) : ER (tDGet ta tb) σ H R := fun H1 e Q q =>
  ha H1 e _ fun a H2 e2 ⟨p, kvs, ep, hp, hf⟩ => hb H2 (e.trans e2) _ fun b H3 e3 rb => by
    have eb : b = .int (m : Int) := rb
    subst eb
    have z := hf m
    rw [h] at z
    obtain ⟨w, hw, r⟩ := z
    refine ⟨p, w, ep, ?_, q _ H3 (e2.trans e3) (mr.mono e3 r)⟩
    have g := DGet.k (k := .inl (m : Int)) (e3 _ _ hp)
    rw [hw] at g
    exact g
theorem er_notinK {F : Nat → Option Rel} (hb : ER tb σ H (IsI (m : Int))) (ha : ER ta σ H (DK F)) : ER (tDNotIn tb ta) σ H (IsB (!(F m).isSome)) := fun H1 e Q q =>
  hb H1 e _ fun b H2 e2 rb => ha H2 (e.trans e2) _ fun a H3 e3 ⟨p, kvs, ep, hp, hf⟩ => by
    have eb : b = .int (m : Int) := rb
    subst eb
    have g := DGet.k (k := .inl (m : Int)) hp
    have z := hf m
    cases c : F m with
    | none =>
      rw [c] at z
      have z' : valV kvs (.inl (m : Int)) = none := z
      rw [z'] at g
      exact ⟨p, none, ep, g, q _ H3 (e2.trans e3) (by rw [c]; rfl)⟩
    | some R =>
      rw [c] at z
      obtain ⟨w, hw, _⟩ := z
      rw [hw] at g
      exact ⟨p, some w, ep, g, q _ H3 (e2.trans e3) (by rw [c]; rfl)⟩
/-! ### more loops, more comprehensions -/
/-- a loop over a list of such that stand through it -/
theorem st_listR {β : Type} {S : β → Rel} {bs : List β} {g : TG} (h : ER tl σ H (LstOf S bs)) (Pv : Addr → List V → Nat → L2.St → Hp → Prop) (h0 : ∀ p xs H1, Ex H H1 → H1 p = some (.lst xs) → Paired (fun b x => S b x H1) bs xs → Pv p xs 0 σ H1)
    (hl : ∀ p xs i σ' H', Pv p xs i σ' H' → H' p = some (.lst xs) ∧ Paired (fun b x => S b x H') bs xs)
    (hs : ∀ p xs i b x σ' H', bs[i]? = some b → S b x H' → Pv p xs i σ' H' → g x σ' H' fun σ2 H2 => tu { D with nx := Pv p xs (i + 1), ct := Pv p xs (i + 1), bk := D.nx } σ2 H2) (hd : ∀ p xs σ' H', Pv p xs bs.length σ' H' → D.nx σ' H') : tFor (iList K tl) g tu D σ H := by
  refine h H Ex.rfl _ fun v H1 e1 r => ?_
  obtain ⟨p, xs, ep, hp, pr⟩ := id r
  have hlen := paired_len pr
  refine ⟨p, ep, ⟨xs, .of hp⟩, ?_⟩
  refine for_list (xs := xs) (Pv p xs) (h0 p xs H1 e1 hp pr) (fun i σ' H' _ q => .of (hl _ _ _ _ _ q).1) (fun i x σ' H' hx q => ?_) fun σ' H' q => hd p xs σ' H' (by rw [hlen]; exact q)
  obtain ⟨_, pr'⟩ := hl _ _ _ _ _ q
  have hi : i < bs.length := by
    have := (List.getElem?_eq_some_iff.mp hx).1
    omega
  have hb : bs[i]? = some bs[i] := List.getElem?_eq_getElem hi
  obtain ⟨x', hx', rS⟩ := paired_get pr' hb
  rw [hx] at hx'
  cases hx'
  exact hs p xs i _ x σ' H' hb rS q
/-! comprehensions, all items -/
theorem filter_all {α : Type} (as : List α) : as.filter (fun _ => true) = as := by simp
theorem et_yes : ET tYes σ H true := fun H1 _ _ q => q H1 Ex.rfl
theorem er_lcA {α β : Type} {S : α → Rel} [ms : ∀ a, Mono (S a)] {R : β → Rel} [mr : ∀ b, Mono (R b)] [st : Stable R] {as : List α} {vs : List Nat} {g : TG} (src : ER tl σ H (LstOf S as)) (hz : as.length ≤ 1000000) (m : α → β)
    (turn : ∀ a, a ∈ as → ∀ x H1, Ex H H1 → S a x H1 → ∃ σ2, (∀ H2, Ex H1 H2 → ∀ Q : L2.St → Hp → Prop, Q σ2 H2 → g x (wipe σ vs) H2 Q) ∧ wipe σ2 vs = wipe σ vs ∧ ER te σ2 H1 (R (m a))) :
    ER (tLc (iList K tl) g tYes te vs) σ H (LstOf R (as.map m)) := by
  have z := er_lcL (K := K) (te := te) (tt := tYes) (g := g) (R := R) src hz (fun _ => true) m fun a ha x H1 e s => by
    obtain ⟨σ2, a1, a2, a3⟩ := turn a ha x H1 e s
    exact ⟨σ2, a1, a2, et_yes, fun _ => a3⟩
  rw [filter_all] at z
  exact z
theorem er_lcRA {β : Type} {R : β → Rel} [mr : ∀ b, Mono (R b)] [st : Stable R] {ta : TA} {n : Nat} {vs : List Nat} {g : TG} (src : EA ta σ H [IsI (n : Int)]) (hz : n ≤ 1000000) (m : Nat → β)
    (turn : ∀ i, i < n → ∀ H1, Ex H H1 → ∃ σ2, (∀ H2, Ex H1 H2 → ∀ Q : L2.St → Hp → Prop, Q σ2 H2 → g (.int (i : Int)) (wipe σ vs) H2 Q) ∧ wipe σ2 vs = wipe σ vs ∧ ER te σ2 H1 (R (m i))) :
    ER (tLc (iRng1 ta) g tYes te vs) σ H (LstOf R ((List.range n).map m)) := by
  have z := er_lcR (te := te) (tt := tYes) (g := g) (R := R) src hz (fun _ => true) m fun i hi H1 e => by
    obtain ⟨σ2, a1, a2, a3⟩ := turn i hi H1 e
    exact ⟨σ2, a1, a2, et_yes, fun _ => a3⟩
  rw [filter_all] at z
  exact z
/-- over reversed(a list of numbers), values told -/
theorem er_lcV {xs : List V} {vs : List Nat} {g : TG} (src : ER tl σ H (IsL xs)) (hz : xs.length ≤ 1000000) (m : V → V)
    (turn : ∀ x, x ∈ xs → ∀ H1, Ex H H1 → ∃ σ2, (∀ H2, Ex H1 H2 → ∀ Q : L2.St → Hp → Prop, Q σ2 H2 → g x (wipe σ vs) H2 Q) ∧ wipe σ2 vs = wipe σ vs ∧ ER te σ2 H1 (IsV (m x))) :
    ER (tLc (RT.iRevA K tl) g tYes te vs) σ H (IsL (xs.reverse.map m)) := fun H0 e Q q => src H0 e _ fun v H1 e1 ⟨p, ep, hp⟩ => ⟨p, xs, ep, .inl ⟨.of hp, fun Dl hD => by
  let Pv : Nat → Hp → Prop := fun i H' => Ex H1 H' ∧ H' Dl = some (.lst ((xs.reverse.take i).map m))
  refine lc_it walk_rev Pv ⟨Evl.Ex.new hD, upd_same⟩ (fun i H' _ q => .of (q.1 _ _ hp)) (fun i x Ha Hb hi q2 yy => ?_) (fun H' q2 => ?_)
  · obtain ⟨ex, hy⟩ := q2
    obtain ⟨eh, hx⟩ := yy
    subst eh
    have ha : xs.reverse[i]? = some x := by rw [List.getElem?_reverse hi]; exact hx
    obtain ⟨σ2, gt, wp, er⟩ := turn x (List.mem_of_getElem? hx) Hb ((e.trans e1).trans ex)
    refine gt Hb Ex.rfl _ ⟨wp, et_yes (H := Hb) Hb Ex.rfl _ fun H3 e3 => ?_⟩
    refine iteT ?_
    refine er H3 e3 _ fun y H4 e4 r4 => ⟨(xs.reverse.take i).map m, e4 _ _ (e3 _ _ hy), ?_, ?_⟩
    · have l2 := List.length_take_le i xs.reverse
      have l3 : (1000001 : Nat) < sizeLine := by decide
      rw [List.length_map, List.length_take, List.length_reverse]
      omega
    · refine ⟨Evl.Ex.mut ((ex.trans e3).trans e4) hD, ?_⟩
      rw [upd_same, List.take_add_one, ha, List.map_append, show y = m x from r4]
      rfl
  · obtain ⟨ex, hy⟩ := q2
    rw [show xs.reverse.take xs.length = xs.reverse by rw [← List.length_reverse]; exact List.take_length] at hy
    exact q _ _ (e1.trans ex) ⟨Dl, rfl, hy⟩⟩⟩
end
end Fc
set_option maxRecDepth 100000
set_option maxHeartbeats 2000000
namespace Fc
open PySem PySem.Spec PyProof.Rows L2
/-! ### arguments handed in -/
theorem all1 {R : Rel} {vs : List V} {H : Hp} (h : All2 [R] vs H) : ∃ v, vs = [v] ∧ R v H := by
  match vs, h with
  | [v], h => exact ⟨v, rfl, h.1⟩
theorem all2 {R S : Rel} {vs : List V} {H : Hp} (h : All2 [R, S] vs H) : ∃ v w, vs = [v, w] ∧ R v H ∧ S w H := by
  match vs, h with
  | [v, w], h => exact ⟨v, w, rfl, h.1, h.2.1⟩
theorem all3 {R S T : Rel} {vs : List V} {H : Hp} (h : All2 [R, S, T] vs H) : ∃ v w x, vs = [v, w, x] ∧ R v H ∧ S w H ∧ T x H := by
  match vs, h with
  | [v, w, x], h => exact ⟨v, w, x, rfl, h.1, h.2.1, h.2.2.1⟩
theorem all4 {R S T U : Rel} {vs : List V} {H : Hp} (h : All2 [R, S, T, U] vs H) : ∃ v w x y, vs = [v, w, x, y] ∧ R v H ∧ S w H ∧ T x H ∧ U y H := by
  match vs, h with
  | [v, w, x, y], h => exact ⟨v, w, x, y, rfl, h.1, h.2.1, h.2.2.1, h.2.2.2.1⟩
theorem all_len : ∀ {Rs : List Rel} {vs : List V} {H : Hp}, All2 Rs vs H → vs.length = Rs.length
  | [], [], _, _ => rfl
  | [], _ :: _, _, h => h.elim
  | _ :: _, [], _, h => h.elim
  | _ :: _, _ :: _, _, h => congrArg (· + 1) (all_len h.2)
/-! ### statements on lists that stand at an address -/
section
variable {K : PySem.W.Frag} {σ : L2.St} {H H' : Hp} {ta tb te tc tl : TE} {t u : TT} {x y z v : V} {R Ra Rb : Rel} {i j k : Int} {D : Ends} {tu tw : TS}
theorem st_seq (h : tu { D with nx := tw D } σ H) : tSeq tu tw D σ H := h
theorem er_n (n : Nat) {k : Nat} (h : σ[k]? = some (some (.int (n : Int)))) : ER (tVar k) σ H (IsI (n : Int)) := er_v h
theorem er_ref {p : Addr} {k : Nat} (h : σ[k]? = some (some (.ref p))) : ER (tVar k) σ H (IsV (.ref p)) := er_v h
/-- the list at an address -/
theorem er_at {p : Addr} {xs : List V} (h : ER te σ H (IsV (.ref p))) (hp : H p = some (.lst xs)) : ER te σ H (IsL xs) := fun H1 e Q q => h H1 e _ fun v H2 e2 r => q v H2 e2 ⟨p, r, e2 _ _ (e _ _ hp)⟩
theorem st_append {l : Addr} {xs : List V} (hl : H l = some (.lst xs)) (ha : ER ta σ H (IsV (.ref l))) (h : ER te σ H R) (hz : xs.length ≤ 16000000) (k : ∀ v H1, Ex H H1 → R v H1 → D.nx σ (upd H1 l (.lst (xs ++ [v])))) :
    tDrop (tBM K "list" rAppend ta (tCons te tNil)) D σ H := ha H Ex.rfl _ fun a H1 e1 ra => by
  have ea : a = .ref l := ra
  subst ea
  exact ⟨.inl ⟨rfl, xs, .of (e1 l _ hl)⟩, h H1 e1 _ fun v H2 e2 r => ⟨l, xs, v, rfl, rfl, e2 l _ (e1 l _ hl), Nat.lt_of_le_of_lt hz (by decide), k v H2 (e1.trans e2) r⟩⟩
theorem st_extend {l : Addr} {xs ys : List V} (hl : H l = some (.lst xs)) (ha : ER ta σ H (IsV (.ref l))) (h : ER te σ H (IsL ys)) (hz : xs.length + ys.length ≤ 16000000) (k : ∀ H1, Ex H H1 → D.nx σ (upd H1 l (.lst (xs ++ ys)))) :
    tDrop (tBM K "list" rExtend ta (tCons te tNil)) D σ H := ha H Ex.rfl _ fun a H1 e1 ra => by
  have ea : a = .ref l := ra
  subst ea
  refine ⟨.inl ⟨rfl, xs, .of (e1 l _ hl)⟩, h H1 e1 _ fun v H2 e2 ⟨b, eb, hb⟩ => ⟨l, b, xs, ys, rfl, by rw [eb], e2 l _ (e1 l _ hl), hb, Nat.le_trans hz (by decide), k H2 (e1.trans e2)⟩⟩
theorem st_pop {l : Addr} {xs : List V} (hl : H l = some (.lst xs)) (ha : ER ta σ H (IsV (.ref l))) (hx : xs[xs.length - 1]? = some x) (k : ∀ H1, Ex H H1 → D.nx σ (upd H1 l (.lst xs.dropLast))) :
    tDrop (tBM0 K "list" rPop ta) D σ H := ha H Ex.rfl _ fun a H1 e1 ra => by
  have ea : a = .ref l := ra
  subst ea
  exact ⟨.inl ⟨rfl, xs, .of (e1 l _ hl)⟩, l, xs, x, rfl, rfl, e1 l _ hl, hx, k H1 e1⟩
/-- a loop over the list at an address, that stands through it -/
theorem st_listA {p : Addr} {xs : List V} {g : TG} (h : ER tl σ H (IsV (.ref p))) (hp : H p = some (.lst xs)) (Pv : Nat → L2.St → Hp → Prop) (h0 : ∀ H1, Ex H H1 → Pv 0 σ H1) (hl : ∀ i σ' H', Pv i σ' H' → H' p = some (.lst xs))
    (hs : ∀ i x σ' H', xs[i]? = some x → Pv i σ' H' → g x σ' H' fun σ2 H2 => tu { D with nx := Pv (i + 1), ct := Pv (i + 1), bk := D.nx } σ2 H2) (hd : ∀ σ' H', Pv xs.length σ' H' → D.nx σ' H') : tFor (iList K tl) g tu D σ H := by
  refine h H Ex.rfl _ fun v H1 e1 r => ⟨p, r, ⟨xs, .of (e1 _ _ hp)⟩, ?_⟩
  exact for_list Pv (h0 H1 e1) (fun i σ' H' _ q => .of (hl i σ' H' q)) hs hd
theorem st_aug {f : Int → Int → Int} {n : Nat} {a b : Int} (hx : σ[n]? = some (some (.int a))) (h : ER te σ H (IsI b)) (k : ∀ H1, Ex H H1 → D.nx (σ.set n (some (.int (f a b)))) H1) : tAug n te (ipI f) D σ H :=
  ⟨.int a, hx, h H Ex.rfl _ fun w H1 e r => ⟨a, b, rfl, r, k H1 e⟩⟩
/-- a new empty list -/
theorem st_new {n : Nat} (k : ∀ p H1, Ex H H1 → H p = none → H1 p = some (.lst []) → D.nx (σ.set n (some (.ref p))) H1) : tAsg (tLst tNil) (gName n) D σ H :=
  ⟨Nat.zero_le _, fun p hp => k p _ (Evl.Ex.new hp) hp upd_same⟩
end
theorem iv_len (w : List Nat) : (iv w).length = w.length := List.length_map _
theorem iv_get {w : List Nat} {i : Nat} {x : V} (h : (iv w)[i]? = some x) : ∃ n, w[i]? = some n ∧ x = .int (n : Int) := by
  unfold iv at h
  rw [List.getElem?_map] at h
  obtain ⟨n, h1, h2⟩ := Option.map_eq_some_iff.mp h
  exact ⟨n, h1, h2.symm⟩
theorem iv_append (a b : List Nat) : iv (a ++ b) = iv a ++ iv b := List.map_append
theorem iv_dropLast (a : List Nat) : iv a.dropLast = (iv a).dropLast := by unfold iv; rw [List.map_dropLast]
theorem iv_last {a : List Nat} {n : Nat} (h : a.getLast? = some n) : atI (iv a) (-1) = some (.int (n : Int)) := by
  obtain ⟨b, rfl⟩ := List.getLast?_eq_some_iff.mp h
  rw [iv_append]
  exact atI_last _ _
theorem take_succ_fold {α β : Type} {f : β → α → β} {b : β} {w : List α} {i : Nat} {x : α} (h : w[i]? = some x) : (w.take (i + 1)).foldl f b = f ((w.take i).foldl f b) x := by
  rw [List.take_add_one, h, List.foldl_append]
  rfl
theorem int_eq {a b : Nat} : decide (V.int (a : Int) = V.int (b : Int)) = decide (a = b) := by
  by_cases c : a = b
  · rw [decide_eq_true c, c]; exact decide_eq_true rfl
  · rw [decide_eq_false c]; exact decide_eq_false fun z => c (Int.ofNat.inj (V.int.inj z))
theorem mod_two (n : Nat) : decide (V.int ((n : Int) % 2) = V.int 0) = decide (n % 2 = 0) := by
  have := @int_eq (n % 2) 0
  rw [← this]
  rfl
section
variable {σ : L2.St} {H : Hp} {ta : TE} {n : Nat}
theorem er_half (h : ER ta σ H (IsI (n : Int))) : ER (tOp (rI CDiv fun i j => .int (i / j)) ta (tC (.int 2))) σ H (IsI ((n / 2 : Nat) : Int)) := er_I h er_c ⟨by decide, by decide⟩
theorem et_even (h : ER ta σ H (IsI (n : Int))) : ET (tTest (tOp rEq (tOp (rI (fun _ j => 0 < j) fun i j => .int (i % j)) ta (tC (.int 2))) (tC (.int 0)))) σ H (decide (n % 2 = 0)) :=
  et_is (et_test (er_eq (er_I h er_c (by decide)) er_c rfl)) (mod_two n)
theorem er_twice (h : ER ta σ H (IsI (n : Int))) : ER (tOp (rI CMul fun i j => .int (i * j)) (tC (.int 2)) ta) σ H (IsI ((2 * n : Nat) : Int)) := er_I er_c h (.inl (by decide))
end
section
variable {P : Program} {w : World} {K : PySem.W.Frag} {mg : Str → Option Value} {base : Heap} {c : Cl3}
/-! ### turns -/
abbrev s_undo : Stmt := (top 12)
abbrev N_undo : List Str := ["turn"]
theorem sc_undo : FnScope ["turn"] ["turn"] (defScope s_undo) := ⟨rfl, rfl, rfl, by decide +kernel, rfl, by decide +kernel, by decide +kernel⟩
theorem b_undo : BindsP "undo" "undo" s_undo ["turn"] := fun _ _ _ _ _ _ us hl => match us, hl with | [_], _ => rfl
theorem ok_undo (T : Txt K mg c) : Ok P w K mg base CX0 1 "undo" ["turn"] (spF (fun n : Nat => [IsI (n : Int)]) (fun _ => True) (fun n => IsI (Vbcjai.other n : Nat))) := by
  refine T.undo.ok sc_undo b_undo (fun vs H Q E h => ?_) (fun f cdv A outer s H vs Q E hr h => ⟨_, (pss_cons (ps_if (pt_cmpR op_eq (pe_op op_mod (pv 0) pe_int) pe_int (nomark _)) (pss_one (ps_ret (pe_op op_add (pv 0) pe_int))) pss_nil)
      (pss_one (ps_ret (pe_op op_sub (pv 0) pe_int)))), ?_⟩)
  · obtain ⟨n, _, r, _⟩ := h; exact all_len r
  · obtain ⟨n, _, ra, q⟩ := h
    obtain ⟨v, rfl, r⟩ := all1 ra
    cases r
    have tst : ∀ H, ET (tTest (tOp rEq (tOp (rI (fun _ j => 0 < j) fun i j => .int (i % j)) (tVar 0) (tC (.int 2))) (tC (.int 0)))) (start N_undo [V.int (n : Int)]) H (decide (n % 2 = 0)) := fun H =>
      et_is (et_test (er_eq (er_I (er_n n rfl) er_c (by decide)) er_c rfl)) (mod_two n)
    refine st_seq (st_if (tst _) (fun hb H1 e1 => ?_) fun hb H1 e1 => ?_)
    · refine st_ret (er_I0 (er_n n rfl) er_c) fun v H2 e2 r => q v H2 (e1.trans e2) ?_
      have hb := of_decide_eq_true hb
      show v = _
      rw [show v = _ from r]
      unfold Vbcjai.other
      rw [if_pos hb]
      rfl
    · refine st_ret (er_I0 (er_n n rfl) er_c) fun v H2 e2 r => q v H2 (e1.trans e2) ?_
      have hb := of_decide_eq_false hb
      show v = _
      rw [show v = _ from r]
      unfold Vbcjai.other
      rw [if_neg hb, show ((n - 1 : Nat) : Int) = (n : Int) - 1 by omega]
abbrev s_finger_of : Stmt := (top 13)
abbrev N_finger_of : List Str := ["turn"]
theorem sc_finger_of : FnScope ["turn"] ["turn"] (defScope s_finger_of) := ⟨rfl, rfl, rfl, by decide +kernel, rfl, by decide +kernel, by decide +kernel⟩
theorem b_finger_of : BindsP "finger_of" "finger_of" s_finger_of ["turn"] := fun _ _ _ _ _ _ us hl => match us, hl with | [_], _ => rfl
theorem ok_finger_of (T : Txt K mg c) : Ok P w K mg base CX0 1 "finger_of" ["turn"] (spF (fun n : Nat => [IsI (n : Int)]) (fun _ => True) (fun n => IsI (n / 2 : Nat))) := by
  refine T.finger_of.ok sc_finger_of b_finger_of (fun vs H Q E h => ?_) (fun f cdv A outer s H vs Q E hr h => ⟨_, (pss_one (ps_ret (pe_op op_fdiv (pv 0) pe_int))), ?_⟩)
  · obtain ⟨n, _, r, _⟩ := h; exact all_len r
  · obtain ⟨n, _, ra, q⟩ := h
    obtain ⟨v, rfl, r⟩ := all1 ra
    cases r
    exact st_ret (er_half (er_n n rfl)) fun v H2 e2 r => q v H2 e2 r
abbrev s_small_turn : Stmt := (top 14)
abbrev N_small_turn : List Str := ["finger"]
theorem sc_small_turn : FnScope ["finger"] ["finger"] (defScope s_small_turn) := ⟨rfl, rfl, rfl, by decide +kernel, rfl, by decide +kernel, by decide +kernel⟩
theorem b_small_turn : BindsP "small_turn" "small_turn" s_small_turn ["finger"] := fun _ _ _ _ _ _ us hl => match us, hl with | [_], _ => rfl
theorem ok_small_turn (T : Txt K mg c) : Ok P w K mg base CX0 1 "small_turn" ["finger"] (spF (fun n : Nat => [IsI (n : Int)]) (fun _ => True) (fun n => IsI (2 * n : Nat))) := by
  refine T.small_turn.ok sc_small_turn b_small_turn (fun vs H Q E h => ?_) (fun f cdv A outer s H vs Q E hr h => ⟨_, (pss_one (ps_ret (pe_op op_mul pe_int (pv 0)))), ?_⟩)
  · obtain ⟨n, _, r, _⟩ := h; exact all_len r
  · obtain ⟨n, _, ra, q⟩ := h
    obtain ⟨v, rfl, r⟩ := all1 ra
    cases r
    exact st_ret (er_I er_c (er_n n rfl) (.inl (by decide))) fun v H2 e2 r => q v H2 e2 r
abbrev s_turn_read : Stmt := (top 15)
abbrev N_turn_read : List Str := ["byte", "fingers"]
theorem sc_turn_read : FnScope ["byte", "fingers"] ["byte", "fingers"] (defScope s_turn_read) := ⟨rfl, rfl, rfl, by decide +kernel, rfl, by decide +kernel, by decide +kernel⟩
theorem b_turn_read : BindsP "turn_read" "turn_read" s_turn_read ["byte", "fingers"] := fun _ _ _ _ _ _ us hl => match us, hl with | [_, _], _ => rfl
theorem ok_turn_read (T : Txt K mg c) : Ok P w K mg base CX0 1 "turn_read" ["byte", "fingers"] (spF (fun p : Nat × Nat => [IsI (p.1 : Int), IsI (p.2 : Int)]) (fun p => True) (fun p => OptOf (fun x : Nat => IsI (x : Int)) (Vbcjai.turnOf p.2 p.1))) := by
  refine T.turn_read.ok sc_turn_read b_turn_read (fun vs H Q E h => ?_) (fun f cdv A outer s H vs Q E hr h => ⟨_, (pss_cons (ps_if (pt_chain op_le op_lt (pconst T.SMALL rfl) (pv 0) (pe_op op_add (pconst T.SMALL rfl) (pv 1))) (pss_one (ps_ret (pe_op op_mul pe_int (pe_op op_sub (pv 0) (pconst T.SMALL rfl))))) pss_nil)
      (pss_cons (ps_if (pt_chain op_le op_lt (pconst T.GREAT rfl) (pv 0) (pe_op op_add (pconst T.GREAT rfl) (pv 1))) (pss_one (ps_ret (pe_op op_add (pe_op op_mul pe_int (pe_op op_sub (pv 0) (pconst T.GREAT rfl))) pe_int))) pss_nil)
      (pss_one (ps_ret pe_non)))), ?_⟩)
  · obtain ⟨n, _, r, _⟩ := h; exact all_len r
  · obtain ⟨⟨b, n⟩, _, ra, q⟩ := h
    obtain ⟨v, w', rfl, r, r2⟩ := all2 ra
    cases r
    cases r2
    have t1 : ∀ (m : Nat) (H : Hp), ET (tTest (tChain (rI0 fun i j => .bl (decide (i ≤ j))) (rI0 fun i j => .bl (decide (i < j))) (tC (.int (m : Int))) (tVar 0) (tOp (rI0 fun i j => .int (i + j)) (tC (.int (m : Int))) (tVar 1)))) (start N_turn_read [V.int (b : Int), V.int (n : Int)]) H (decide (m ≤ b ∧ b < m + n)) := fun m H => by
      refine et_is (et_test (er_chain er_c (er_n b rfl) (er_I0 er_c (er_n n rfl)) rfl rfl)) ?_
      by_cases h1 : m ≤ b <;> by_cases h2 : b < m + n <;> simp [h1, h2] <;> omega
    refine st_seq (st_if (t1 97 _) (fun hb H1 e1 => ?_) fun hb H1 e1 => ?_)
    · have hb := of_decide_eq_true hb
      refine st_ret (er_I er_c (er_I0 (er_n b rfl) er_c) (.inl (by decide))) fun v H2 e2 r => q v H2 (e1.trans e2) ?_
      show OptOf _ (Vbcjai.turnOf n b) v _
      unfold Vbcjai.turnOf
      rw [if_pos hb]
      show v = _
      rw [show v = _ from r]
      have e : (2 : Int) * ((b : Int) - 97) = ((2 * (b - 97) : Nat) : Int) := by omega
      rw [e]
    · have hb := of_decide_eq_false hb
      refine st_seq (st_if (t1 65 _) (fun hb2 H2 e2 => ?_) fun hb2 H2 e2 => ?_)
      · have hb2 := of_decide_eq_true hb2
        refine st_ret (er_I0 (er_I er_c (er_I0 (er_n b rfl) er_c) (.inl (by decide))) er_c) fun v H3 e3 r => q v H3 ((e1.trans e2).trans e3) ?_
        show OptOf _ (Vbcjai.turnOf n b) v _
        unfold Vbcjai.turnOf
        rw [if_neg hb, if_pos hb2]
        show v = _
        rw [show v = _ from r]
        have e : (2 : Int) * ((b : Int) - 65) + 1 = ((2 * (b - 65) + 1 : Nat) : Int) := by omega
        rw [e]
      · have hb2 := of_decide_eq_false hb2
        unfold tNext
        dsimp only
        refine st_ret (er_c (v := .non)) fun v H3 e3 r => q v H3 ((e1.trans e2).trans e3) ?_
        show OptOf _ (Vbcjai.turnOf n b) v _
        unfold Vbcjai.turnOf
        rw [if_neg hb, if_neg hb2]
        exact r
abbrev s_letter_of : Stmt := (top 16)
abbrev N_letter_of : List Str := ["turn"]
theorem sc_letter_of : FnScope ["turn"] ["turn"] (defScope s_letter_of) := ⟨rfl, rfl, rfl, by decide +kernel, rfl, by decide +kernel, by decide +kernel⟩
theorem b_letter_of : BindsP "letter_of" "letter_of" s_letter_of ["turn"] := fun _ _ _ _ _ _ us hl => match us, hl with | [_], _ => rfl
theorem ok_letter_of (T : Txt K mg c) : Ok P w K mg base CX0 1 "letter_of" ["turn"] (spF (fun n : Nat => [IsI (n : Int)]) (fun _ => True) (fun n => IsI (Vbcjai.letterOf n : Nat))) := by
  refine T.letter_of.ok sc_letter_of b_letter_of (fun vs H Q E h => ?_) (fun f cdv A outer s H vs Q E hr h => ⟨_, (pss_cons (ps_if (pt_cmpR op_eq (pe_op op_mod (pv 0) pe_int) pe_int (nomark _)) (pss_one (ps_ret (pe_op op_add (pconst T.SMALL rfl) (pe_op op_fdiv (pv 0) pe_int)))) pss_nil)
      (pss_one (ps_ret (pe_op op_add (pconst T.GREAT rfl) (pe_op op_fdiv (pv 0) pe_int))))), ?_⟩)
  · obtain ⟨n, _, r, _⟩ := h; exact all_len r
  · obtain ⟨n, _, ra, q⟩ := h
    obtain ⟨v, rfl, r⟩ := all1 ra
    cases r
    refine st_seq (st_if (et_is (et_test (er_eq (er_I (er_n n rfl) er_c (by decide)) er_c rfl)) (mod_two n)) (fun hb H1 e1 => ?_) fun hb H1 e1 => ?_)
    · refine st_ret (er_I0 er_c (er_half (er_n n rfl))) fun v H2 e2 r => q v H2 (e1.trans e2) ?_
      have hb := of_decide_eq_true hb
      show v = _
      rw [show v = _ from r]
      unfold Vbcjai.letterOf
      rw [if_pos hb]
      rfl
    · refine st_ret (er_I0 er_c (er_half (er_n n rfl))) fun v H2 e2 r => q v H2 (e1.trans e2) ?_
      have hb := of_decide_eq_false hb
      show v = _
      rw [show v = _ from r]
      unfold Vbcjai.letterOf
      rw [if_neg hb]
      rfl
abbrev s_letters_of : Stmt := (top 17)
abbrev N_letters_of : List Str := ["cord", "turn"]
theorem sc_letters_of : FnScope ["cord", "turn"] ["cord"] (defScope s_letters_of) := ⟨rfl, rfl, rfl, by decide +kernel, rfl, by decide +kernel, by decide +kernel⟩
theorem b_letters_of : BindsP "letters_of" "letters_of" s_letters_of ["cord"] := fun _ _ _ _ _ _ us hl => match us, hl with | [_], _ => rfl
theorem ok_letters_of (T : Txt K mg c) : Ok P w K mg base CX0 2 "letters_of" ["cord"] (spF (fun w : List Nat => [IsN w]) (fun w => w.length ≤ 1000000) (fun w => IsN (Vbcjai.written w))) := by
  refine T.letters_of.ok sc_letters_of b_letters_of (fun vs H Q E h => ?_) (fun f cdv A outer s H vs Q E hr h => ⟨_, (pss_one (ps_ret (pe_lc (own := [("turn", 1)]) rfl sc_letters_of.nd (pi_list (pv 0)) (blkOk_by (own := [("turn", 1)]) (N := N_letters_of) (sc := defScope s_letters_of) (by decide +kernel)) (fun _ _ _ _ _ => (pg_name (i := 1) sc_letters_of.nd rfl (.inl rfl))) (fun _ _ _ _ _ => pts_nil) (fun _ _ _ _ _ => (pcall (ok_letter_of T) (hr.mono (by decide)) rfl pass0 (pa_cons (pv 1) pa_nil)))))), ?_⟩)
  · obtain ⟨n, _, r, _⟩ := h; exact all_len r
  · obtain ⟨m, hm, ra, q⟩ := h
    obtain ⟨v, rfl, r⟩ := all1 ra
    have z := er_lcA (K := K) (tl := tVar 0) (σ := start N_letters_of [v]) (H := H) (g := gName 1) (vs := [1]) (S := fun x : Nat => IsI (x : Int)) (R := fun x : Nat => IsI (x : Int)) (as := m)
      (te := tCall (spF (fun n : Nat => [IsI (n : Int)]) (fun _ => True) (fun n => IsI (Vbcjai.letterOf n : Nat))) [] E (tCons (tVar 1) tNil))
      (er_var (R := LstOf (fun x : Nat => IsI (x : Int)) m) (isL_of r) rfl) hm Vbcjai.letterOf fun a ha x H1 e s => ?_
    · exact st_ret z fun v H2 e2 r => q v H2 e2 (lstOf_val r)
    · cases s
      exact ⟨_, fun H2 e Q q => q, rfl, er_call a (ea1 (er_n a rfl)) trivial⟩
abbrev s_pulled_taut : Stmt := (top 18)
abbrev N_pulled_taut : List Str := ["cord", "taut", "turn"]
theorem sc_pulled_taut : FnScope ["cord", "taut", "turn"] ["cord"] (defScope s_pulled_taut) := ⟨rfl, rfl, rfl, by decide +kernel, rfl, by decide +kernel, by decide +kernel⟩
theorem b_pulled_taut : BindsP "pulled_taut" "pulled_taut" s_pulled_taut ["cord"] := fun _ _ _ _ _ _ us hl => match us, hl with | [_], _ => rfl
/-- a new list comes -/
def spTaut : Sp := fun vs H Q _ => ∃ w : List Nat, w.length ≤ 1000000 ∧ All2 [IsN w] vs H ∧ ∀ v H', Ex H H' → (∃ q, v = .ref q ∧ H q = none ∧ H' q = some (.lst (iv (Vbcjai.taut w)))) → Q v H'
theorem ok_pulled_tautF (T : Txt K mg c) : Ok P w K mg base CX0 2 "pulled_taut" ["cord"] spTaut := by
  refine T.pulled_taut.ok sc_pulled_taut b_pulled_taut (fun vs H Q E h => ?_) (fun f cdv A outer s H vs Q E hr h => ⟨_, (pss_cons (ps_set (i := 1) sc_pulled_taut.nd rfl (.inl rfl) (pe_lst pa_nil))
      (pss_cons (ps_for PassesOwn.never rfl (pi_list (pv 0)) (pg_name (i := 2) sc_pulled_taut.nd rfl (.inl rfl)) (pss_one (ps_if (PW.pt (pw_and (pt_cmpR op_gt (pe_callB (r := Evl.rLenS K) call_len_seq (by rfl) T.len PySem.boot_len (pa_cons (pv 1) pa_nil)) pe_int (nomark _)) (pw_and1 (pt_cmpR op_eq (pe_ix (r := rIxL K) ix_list (pv 1) (pe_un un_neg pe_int) (fun _ _ => rfl)) (pcall (ok_undo T) (hr.mono (by decide)) rfl pass0 (pa_cons (pv 2) pa_nil)) (nomark _))))) (pss_one (ps_expr (pe_bm0 PySem.F.plainAttrs_list PySem.F.slot_list_pop PySem.F.type_list_pop mt_pop (pv 1)))) (pss_one (ps_expr (pe_bm PySem.F.plainAttrs_list PySem.F.slot_list_append PySem.F.type_list_append mt_append (pv 1) (pa_cons (pv 2) pa_nil)))))))
      (pss_one (ps_ret (pv 1))))), ?_⟩)
  · obtain ⟨n, _, r, _⟩ := h; exact all_len r
  · obtain ⟨m, hm, ra, q⟩ := h
    obtain ⟨v, rfl, p, rfl, hp⟩ := all1 ra
    refine st_seq (st_new fun l H1 e1 hn hl => ?_)
    have pl : p ≠ l := ne_of_none hp hn
    refine st_seq (st_listA (p := p) (xs := iv m) (er_ref rfl) (e1 _ _ hp) (fun i σ' H' => ∃ o, σ' = [some (.ref p), some (.ref l), o] ∧ ExB [l] H1 H' ∧ H' l = some (.lst (iv ((m.take i).foldl pull []))))
      (fun H2 e2 => ⟨_, rfl, .of e2, e2 _ _ hl⟩) (fun i σ' H' hP => ?_) (fun i x σ' H' hx hP => ?_) fun σ' H' hP => ?_)
    · obtain ⟨o, _, b, _⟩ := hP
      exact b p _ (by simp [pl]) (e1 _ _ hp)
    · obtain ⟨o, rfl, b, hl'⟩ := hP
      obtain ⟨n, hn', rfl⟩ := iv_get hx
      have tk := take_succ_fold (f := pull) (b := []) hn'
      have len : ((m.take i).foldl pull []).length ≤ 1000000 := by
        rw [pulled]
        refine Nat.le_trans (taut_length _) ?_
        rw [List.length_take]; omega
      generalize hst : (m.take i).foldl pull [] = stk at hl' tk len
      have fin : ∀ H2 H3, Ex H' H2 → H3 = upd H2 l (.lst (iv (pull stk n))) → ∃ o, [some (V.ref p), some (V.ref l), some (V.int (n : Int))] = [some (.ref p), some (.ref l), o] ∧ ExB [l] H1 H3 ∧ H3 l = some (.lst (iv ((m.take (i + 1)).foldl pull []))) := by
        rintro H2 H3 e2 rfl
        refine ⟨_, rfl, (b.more e2).trans (.upd (List.mem_singleton.mpr rfl)), ?_⟩
        rw [upd_same, tk]
      have t2 : ET (tAnd (tTest (tOp (rI0 fun i j => .bl (decide (j < i))) (tCB (Evl.rLenS K) (tCons (tVar 1) tNil)) (tC (.int 0))))
          (tTest (tOp rEq (tOp (rIxL K) (tVar 1) (tUn (rU fun i => .int (-i)) (tC (.int 1)))) (tCall (spF (fun n : Nat => [IsI (n : Int)]) (fun _ => True) (fun n => IsI (Vbcjai.other n : Nat))) [] E (tCons (tVar 2) tNil)))))
          [some (V.ref p), some (V.ref l), some (V.int (n : Int))] H' (decide (0 < stk.length) && decide (stk.getLast? = some (Vbcjai.other n))) := by
        refine Evl.et_and (et_is (et_test (er_I0 (er_len (er_at (er_ref rfl) hl')) er_c)) (by rw [iv_len]; simp)) fun h0 => ?_
        have h0 := of_decide_eq_true h0
        obtain ⟨y, hy⟩ : ∃ y, stk.getLast? = some y := by
          cases e : stk.getLast? with
          | none => rw [List.getLast?_eq_none_iff] at e; rw [e] at h0; exact absurd h0 (by decide)
          | some y => exact ⟨y, rfl⟩
        refine et_is (et_test (er_eq (er_ixL (er_at (er_ref rfl) hl') (er_U er_c) (iv_last hy)) (er_call n (ea1 (er_n n rfl)) trivial) rfl)) ?_
        rw [int_eq, hy]
        simp
      refine st_if t2 (fun hb H2 e2 => ?_) fun hb H2 e2 => ?_
      · rw [Bool.and_eq_true, decide_eq_true_iff, decide_eq_true_iff] at hb
        have ep : pull stk n = stk.dropLast := by unfold pull; rw [if_pos hb.2]
        have hy : (iv stk)[(iv stk).length - 1]? = some (V.int (Vbcjai.other n : Nat)) := by
          have z := hb.2
          rw [List.getLast?_eq_getElem?] at z
          unfold iv
          rw [List.length_map, List.getElem?_map, z]
          rfl
        refine st_pop (e2 _ _ hl') (er_ref rfl) hy fun H3 e3 => fin H3 _ (e2.trans e3) ?_
        rw [ep, iv_dropLast]
      · have ep : pull stk n = stk ++ [n] := by
          unfold pull
          rw [if_neg]
          intro z
          have h0 : 0 < stk.length := by
            rcases Nat.eq_zero_or_pos stk.length with e | e
            · rw [List.eq_nil_of_length_eq_zero e] at z; cases z
            · exact e
          rw [decide_eq_true h0, decide_eq_true z] at hb
          cases hb
        refine st_append (e2 _ _ hl') (er_ref rfl) (er_n n rfl) (by rw [iv_len]; omega) fun v H3 e3 r => fin H3 _ (e2.trans e3) ?_
        rw [ep, iv_append, show v = _ from r]
        rfl
    · obtain ⟨o, rfl, b, hl'⟩ := hP
      rw [show m.take (iv m).length = m by rw [iv_len]; exact List.take_length, pulled] at hl'
      refine st_ret (er_ref rfl) fun v H2 e2 r => q v H2 ((ExB.ex e1 b (fun l' m' => by rw [List.mem_singleton.mp m']; exact hn)).trans e2) ⟨l, r, hn, e2 _ _ hl'⟩
theorem ok_pulled_taut (T : Txt K mg c) : Ok P w K mg base CX0 2 "pulled_taut" ["cord"] (spF (fun w : List Nat => [IsN w]) (fun w => w.length ≤ 1000000) (fun w => IsN (Vbcjai.taut w))) := by
  obtain ⟨f, fd, F, e⟩ := (ok_pulled_tautF (P := P) (w := w) (base := base) T).ex
  exact ⟨f, fd, F.imp fun vs H Q E ⟨m, hm, ra, q⟩ => ⟨m, hm, ra, fun v H' e ⟨p, ev, _, hp⟩ => q v H' e ⟨p, ev, hp⟩⟩, e⟩
abbrev s_turned_back : Stmt := (top 19)
abbrev N_turned_back : List Str := ["cord", "turn"]
theorem sc_turned_back : FnScope ["cord", "turn"] ["cord"] (defScope s_turned_back) := ⟨rfl, rfl, rfl, by decide +kernel, rfl, by decide +kernel, by decide +kernel⟩
theorem b_turned_back : BindsP "turned_back" "turned_back" s_turned_back ["cord"] := fun _ _ _ _ _ _ us hl => match us, hl with | [_], _ => rfl
theorem ok_turned_back (T : Txt K mg c) : Ok P w K mg base CX0 2 "turned_back" ["cord"] (spF (fun w : List Nat => [IsN w]) (fun w => w.length ≤ 1000000) (fun w => IsN (Vbcjai.back w))) := by
  refine T.turned_back.ok sc_turned_back b_turned_back (fun vs H Q E h => ?_) (fun f cdv A outer s H vs Q E hr h => ⟨_, (pss_one (ps_ret (pe_lc (own := [("turn", 1)]) rfl sc_turned_back.nd (RT.pi_revA (by rfl) T.reversed (pv 0)) (blkOk_by (own := [("turn", 1)]) (N := N_turned_back) (sc := defScope s_turned_back) (by decide +kernel)) (fun _ _ _ _ _ => (pg_name (i := 1) sc_turned_back.nd rfl (.inl rfl))) (fun _ _ _ _ _ => pts_nil) (fun _ _ _ _ _ => (pcall (ok_undo T) (hr.mono (by decide)) rfl pass0 (pa_cons (pv 1) pa_nil)))))), ?_⟩)
  · obtain ⟨n, _, r, _⟩ := h; exact all_len r
  · obtain ⟨m, hm, ra, q⟩ := h
    obtain ⟨v, rfl, p, rfl, hp⟩ := all1 ra
    let mm : V → V := fun x => match x with
      | .int i => .int (Vbcjai.other i.toNat : Nat)
      | y => y
    have z := er_lcV (K := K) (tl := tVar 0) (σ := start N_turned_back [.ref p]) (H := H) (g := gName 1) (vs := [1]) (xs := iv m)
      (te := tCall (spF (fun n : Nat => [IsI (n : Int)]) (fun _ => True) (fun n => IsI (Vbcjai.other n : Nat))) [] E (tCons (tVar 1) tNil))
      (er_at (er_ref rfl) hp) (by rw [iv_len]; exact hm) mm fun x hx H1 e => ?_
    · refine st_ret z fun v H2 e2 r => q v H2 e2 ?_
      show IsL _ v H2
      have e : (iv m).reverse.map mm = iv (Vbcjai.back m) := by
        unfold iv Vbcjai.back
        rw [← List.map_reverse, List.map_map, List.map_map]
        exact List.map_congr_left fun a _ => rfl
      rw [← e]
      exact r
    · obtain ⟨n, _, rfl⟩ := List.mem_map.mp hx
      exact ⟨_, fun H2 e Q q => q, rfl, er_call n (ea1 (er_n n rfl)) trivial⟩
end
end Fc
set_option maxRecDepth 100000
set_option maxHeartbeats 2000000
namespace Fc
open PySem PySem.Spec PyProof.Rows L2
/-- at the class C the method m keeps the promise sp -/
structure OkM (P : Program) (w : World) (K : PySem.W.Frag) (mg : Str → Option Value) (base : Heap) (CX : CXT) (k : Nat) (C : Addr) (m : Str) (ps : List Str) (sp : Sp) : Prop where
  ex : ∃ (f : Addr) (fd : FuncData), FnOk P w K mg base CX k f fd ps sp ∧ Meth K C m f ∧ Binds K fd ps []
section
variable {P : Program} {w : World} {K : PySem.W.Frag} {mg : Str → Option Value} {base : Heap} {g m qual : Str} {st : Stmt} {N ps : List Str} {sp : Sp} {k : Nat} {C : Addr}
theorem MHas.ok (T : MHas K C m qual st) (S : FnScope N ps (defScope st)) (b : BindsP m qual st ps) (len : ∀ vs H Q E, sp vs H Q E → vs.length = ps.length)
    (body : ∀ (f : Addr) (cdv : Value) (A : Around) (outer : List Env) (s : Shared) (H : Hp) (vs : List V) (Q : VK) (E : XK), Room k (A.deeper (envOfC qual (defScope st) s.heap.objs.size f cdv)) → sp vs H Q E →
      ∃ t, PSs (cxOf CX0 P w K mg base N qual (defScope st) f cdv A outer s H E).nox (defBody st) t ∧ t { nx := fun _ H' => Q .non H', rt := Q } (start N vs) H) : OkM P w K mg base CX0 (k + 1) C m ps sp := by
  obtain ⟨f, fd, F, e, i⟩ := T.ex
  exact ⟨f, fd, F.ok S len (body f), ⟨e, i, F.kp⟩, F.binds b⟩
end
section
variable {X : Cx} {CX : CXT} {k : Nat} {C : Addr} {g m : Str} {ps : List Str} {sp : Sp} {E : XK} {p pos apos : Pos} {o e : Expr} {es : List Expr} {ta : TE} {t : TA}
theorem pmeth {pl : Sem Bool} (he : PE X o ta) (c : Cls X.K C) (M : OkM X.prog X.w X.K X.mg X.base CX k C m ps sp) (hr : Room k X.A) (hx : Passes CX X E) (ha : PA X (e :: es) t)
    (hst : starEach (e :: es) X.env = (false, eval e X.env) :: starEach es X.env := by rfl) (hpl : (backTo pos (starEach es X.env)).any (·.1) = false := by rfl)
    (ht : eval (.Call (.Attribute o m apos) (e :: es) [] pos) X.env = (do
      let ov ← eval o X.env
      standAt apos.atName
      let (f, first) ← holding [ov] (getMethod ov m pl)
      callWith pos f first (backTo pos (starEach (e :: es) X.env)) (backToKw pos (keywordEach [] X.env))) := by rfl) :
    PE X (.Call (.Attribute o m apos) (e :: es) [] pos) (tMeth C m sp [] E ta t) := by
  obtain ⟨f, fd, F, hm, b⟩ := M.ex
  exact pe_meth he c hm F hr b .nil hx ha hst hpl ht
theorem pmake0 (Cc : CHas X.K X.mg g C) (M : OkM X.prog X.w X.K X.mg X.base CX0 k C "__init__" ps sp) (hr : Room (k + 1) X.A) (hg : Gl X g) (hdb : (g == ("__debug__" : Str)) = false := by decide) :
    PE X (.Call (.Name g p) [] [] pos) (tMake C sp [] E tNil) := by
  obtain ⟨f, fd, F, hm, b⟩ := M.ex
  exact pe_make0 ⟨Cc.makes, hm.at_, hm.fn, Cc.kp⟩ F hr hg Cc.g b .nil pass0 hdb
theorem pkept {x : Str} {d : Addr} (h : X.mg x = some (.ref d)) (hg : Gl X x) (hdb : (x == ("__debug__" : Str)) = false := by decide) : PE X (.Name x p) (tC (.ref d)) := pe_glob hg h rfl hdb
end
theorem pg_tupK {X : Cx} {K : PySem.W.Frag} {es : List Expr} {k n : Nat} {t : TGs} {pos : Pos} (hK : X.K = K) (hc : X.calm = true) (h : PGs X es t)
    (hn : (assignEach es X.env).length = n := by rfl) (hst : (assignEach es X.env).findIdx? (·.1) = none := by rfl) : PG X (.Tuple es k pos) (gTup K n t) := by
  subst hK
  exact pg_tup hc h hn hst
/-! ### len(set(a list of numbers)) -/
def metL (ns : List Int) : Nat := (PyProof.Rows.firstMet (fun i => ns.getD i 0) ns.length).length
theorem met_take (ns : List Int) : ∀ i, i ≤ ns.length → (PyProof.Rows.firstMet (fun i => ns.getD i 0) i).length ≤ i ∧ (∀ x, x ∈ PyProof.Rows.firstMet (fun i => ns.getD i 0) i ↔ x ∈ ns.take i) ∧
    ((PyProof.Rows.firstMet (fun i => ns.getD i 0) i).length = i ↔ (ns.take i).Nodup)
  | 0, _ => ⟨Nat.le_refl _, fun x => by simp [PyProof.Rows.firstMet_zero], by simp [PyProof.Rows.firstMet_zero]⟩
  | i + 1, h => by
    obtain ⟨a, b, c⟩ := met_take ns i (by omega)
    have hlt : i < ns.length := h
    have tk : ns.take (i + 1) = ns.take i ++ [ns[i]] := by rw [List.take_add_one, List.getElem?_eq_getElem hlt]; rfl
    have gd : ns.getD i 0 = ns[i] := by rw [List.getD_eq_getElem?_getD, List.getElem?_eq_getElem hlt]; rfl
    rw [PyProof.Rows.firstMet_succ]
    unfold PyProof.Rows.step_dedup
    rw [gd, tk]
    generalize PyProof.Rows.firstMet (fun i => ns.getD i 0) i = L at a b c
    by_cases hin : ns[i] ∈ L
    · have e : L.any (· == ns[i]) = true := List.any_eq_true.mpr ⟨_, hin, by simp⟩
      rw [if_pos e]
      have hin' := (b _).mp hin
      refine ⟨by omega, fun x => ?_, ⟨fun z => by omega, fun z => ?_⟩⟩
      · rw [b, List.mem_append, List.mem_singleton]
        exact ⟨.inl, fun z => z.elim id fun z => z ▸ hin'⟩
      · rw [List.nodup_append] at z
        exact absurd rfl (z.2.2 _ hin' _ (List.mem_singleton.mpr rfl))
    · have e : ¬ L.any (· == ns[i]) = true := fun z => by
        obtain ⟨y, hy, ey⟩ := List.any_eq_true.mp z
        exact hin (by have ey := beq_iff_eq.mp ey; rw [← ey]; exact hy)
      rw [if_neg e, List.length_append, List.length_singleton]
      have hin' : ns[i] ∉ ns.take i := fun z => hin ((b _).mpr z)
      refine ⟨by omega, fun x => ?_, ?_⟩
      · rw [List.mem_append, List.mem_append, b]
      · rw [List.nodup_append]
        constructor
        · intro z
          refine ⟨c.mp (by omega), by simp, fun x hx y hy => ?_⟩
          rw [List.mem_singleton.mp hy]
          rintro rfl
          exact hin' hx
        · intro z
          rw [c.mpr z.1]
theorem met_iff (ns : List Int) : metL ns ≤ ns.length ∧ (metL ns = ns.length ↔ ns.Nodup) := by
  obtain ⟨a, _, c⟩ := met_take ns ns.length (Nat.le_refl _)
  rw [List.take_length] at c
  exact ⟨a, c⟩
theorem ints_vals : ∀ {ns : List Int} {us : List Value}, Vals (ns.map V.int) us → PyProof.Rows.IntsAre us ns
  | [], _, .nil => .nil
  | n :: ns, _, .cons r t => by
    obtain ⟨k, rfl⟩ := r
    exact .cons n k (ints_vals t)
def tLenSetN (K : PySem.W.Frag) (ta : TE) : TE := fun σ H Q => ta σ H fun x H1 => ∃ (l : Addr) (ns : List Int), x = .ref l ∧ SqL K H1 l (ns.map V.int) ∧ ns.length ≤ 4000 ∧ Q (.int (metL ns : Nat)) H1
theorem pe_lenSet {X : Cx} {a : Expr} {ta : TE} {p p2 q pos : Pos} (hg : Gl X "len") (hm : X.mg "len" = none) (hg2 : Gl X "set") (hm2 : X.mg "set" = none) (ha : PE X a ta) (hc : X.calm = true := by rfl)
    (na : starEach [a] X.env = (false, eval a X.env) :: starEach [] X.env := by rfl) : PE X (.Call (.Name "len" p) [.Call (.Name "set" p2) [a] [] q] [] pos) (tLenSetN X.K ta) := by
  refine ⟨fun pins s σ H Q I h => ?_⟩
  refine Call_ (ld_blt I hg hm boot_len ?_)
  refine PyProof.Rows.callWith_builtin1 (PyProof.Rows.args_cons ?_ rfl) rfl rfl
  refine Call_ (ld_blt I hg2 hm2 boot_set ?_)
  refine PyProof.Rows.callWith_type1 (PyProof.Rows.args_cons (thn (ha.run pins s σ H _ I h) fun v s1 ⟨x, H1, I1, r1, q1⟩ => PyProof.Rows.args_nil ?_) na) na rfl
  obtain ⟨l, ns, rfl, hq, hl, q1⟩ := q1
  cases r1
  obtain ⟨its, r, pl, hz⟩ := I1.list hq
  have hlen : its.toArray.size = ns.length := by rw [List.size_toArray, ← r.length, List.length_map]
  refine call_set_list (I1.ok.hd hc) pl.isList (by simpa using ints_vals r) (by rw [hlen]; unfold scanBound; omega) fun h' tk hS hk => ?_
  refine PyProof.Rows.args_nil ?_
  rw [hlen] at hS
  obtain ⟨o, es, ep, t, ho, hex, hd, _, _, _, hf, hn⟩ := hS
  have I2 : Inv X pins σ H1 { s1 with heap := h', toks := tk } := I1.kept fun b o e => hk b o (Heap.lt_size e) e
  have hm := (met_iff ns).1
  exact call_len_set ho hex hd hf (by rw [hn]; unfold metL at hm; omega) ⟨.int (metL ns : Nat), H1, I2.tok _, ⟨_, by rw [hn]; rfl⟩, q1⟩
theorem er_lenSet {K : PySem.W.Frag} {σ : L2.St} {H : Hp} {te : TE} {ns : List Int} (h : ER te σ H (IsL (ns.map V.int))) (hz : ns.length ≤ 4000) : ER (tLenSetN K te) σ H (IsI (metL ns : Nat)) := fun H1 e Q q =>
  h H1 e _ fun v H2 e2 ⟨p, ep, hp⟩ => ⟨p, ns, ep, .of hp, hz, q _ H2 e2 rfl⟩
end Fc
set_option maxRecDepth 100000
set_option maxHeartbeats 2000000
namespace Fc
open PySem PySem.Spec PyProof.Rows L2
instance flatT (xs : List V) : Flat (IsT xs) := ⟨by
  intro H l ys zs h x r
  obtain ⟨p, e, hp⟩ := r
  refine ⟨p, e, ?_⟩
  rw [upd_ne (ne_of hp h (fun z => nomatch z))]
  exact hp⟩
/-- a thread -/
abbrev TriR (t : Tri) : Rel := IsT [.int (t.1 : Int), .int (t.2.1 : Int), .int (t.2.2 : Int)]
section
variable {K : PySem.W.Frag} {σ : L2.St} {H H' : Hp} {ta tb te tc tl : TE} {t u : TT} {x y z v : V} {R Ra Rb : Rel} {i j k : Nat} {D : Ends} {tu tw : TS}
theorem paired_append {β : Type} {F : β → V → Prop} : ∀ {as bs : List β} {xs ys : List V}, Paired F as xs → Paired F bs ys → Paired F (as ++ bs) (xs ++ ys)
  | _, _, _, _, .nil, h => h
  | _, _, _, _, .cons r t, h => .cons r (paired_append t h)
theorem er_catR {β : Type} {S : β → Rel} [m : ∀ b, Mono (S b)] {as bs : List β} (ha : ER ta σ H (LstOf S as)) (hb : ER tb σ H (LstOf S bs)) (hz : as.length + bs.length ≤ sizeLine) : ER (tOp rCat ta tb) σ H (LstOf S (as ++ bs)) := fun H1 e Q q =>
  ha H1 e _ fun a H2 e2 ⟨p, xs, ep, hp, pr⟩ => hb H2 (e.trans e2) _ fun b H3 e3 ⟨p', ys, ep', hp', pr'⟩ =>
    ⟨p, p', xs, ys, ep, ep', e3 _ _ hp, hp', by rw [← paired_len pr, ← paired_len pr']; exact hz, fun n hn =>
      q _ _ ((e2.trans e3).trans (Evl.Ex.new hn)) ⟨n, _, rfl, upd_same, paired_mono (Evl.Ex.new hn) (paired_append (paired_mono e3 pr) pr')⟩⟩
theorem g_tri {t : Tri} {Q : L2.St → Hp → Prop} (h : TriR t x H) (q : Q (((σ.set i (some (.int (t.1 : Int)))).set j (some (.int (t.2.1 : Int)))).set k (some (.int (t.2.2 : Int)))) H) :
    gTup K 3 (gCons (gName i) (gCons (gName j) (gCons (gName k) gNil))) x σ H Q := by
  obtain ⟨p, e, hp⟩ := h
  exact ⟨p, _, e, .of hp, rfl, _, _, rfl, _, _, rfl, _, _, rfl, rfl, q⟩
theorem g_pair {m n : Nat} {Q : L2.St → Hp → Prop} (h : IsP m n x H) (q : Q ((σ.set i (some (.int (m : Int)))).set j (some (.int (n : Int)))) H) :
    gTup K 2 (gCons (gName i) (gCons (gName j) gNil)) x σ H Q := by
  obtain ⟨p, e, hp⟩ := h
  exact ⟨p, _, e, .of hp, rfl, _, _, rfl, _, _, rfl, rfl, q⟩
/-! comprehensions whose target is a name -/
theorem er_lcAn {α β : Type} {S : α → Rel} [ms : ∀ a, Mono (S a)] {R : β → Rel} [mr : ∀ b, Mono (R b)] [st : Stable R] {as : List α} {vs : List Nat} {j : Nat} (src : ER tl σ H (LstOf S as)) (hz : as.length ≤ 1000000) (m : α → β)
    (turn : ∀ a, a ∈ as → ∀ x H1, Ex H H1 → S a x H1 → ER te ((wipe σ vs).set j (some x)) H1 (R (m a))) (hw : ∀ x, wipe ((wipe σ vs).set j (some x)) vs = wipe σ vs := by intro _; rfl) :
    ER (tLc (iList K tl) (gName j) tYes te vs) σ H (LstOf R (as.map m)) := er_lcA src hz m fun a ha x H1 e s => ⟨_, fun H2 e Q (q : Q ((wipe σ vs).set j (some x)) H2) => q, hw x, turn a ha x H1 e s⟩
theorem er_lcRAn {β : Type} {R : β → Rel} [mr : ∀ b, Mono (R b)] [st : Stable R] {ta : TA} {n j : Nat} {vs : List Nat} (src : EA ta σ H [IsI (n : Int)]) (hz : n ≤ 1000000) (m : Nat → β)
    (turn : ∀ i, i < n → ∀ H1, Ex H H1 → ER te ((wipe σ vs).set j (some (.int (i : Int)))) H1 (R (m i))) (hw : ∀ x, wipe ((wipe σ vs).set j (some x)) vs = wipe σ vs := by intro _; rfl) :
    ER (tLc (iRng1 ta) (gName j) tYes te vs) σ H (LstOf R ((List.range n).map m)) := er_lcRA src hz m fun i hi H1 e => ⟨_, fun H2 e Q (q : Q ((wipe σ vs).set j (some (.int (i : Int)))) H2) => q, hw _, turn i hi H1 e⟩
theorem er_lcRn {β : Type} {R : β → Rel} [mr : ∀ b, Mono (R b)] [st : Stable R] {ta : TA} {n j : Nat} {vs : List Nat} {tt : TT} (src : EA ta σ H [IsI (n : Int)]) (hz : n ≤ 1000000) (f : Nat → Bool) (m : Nat → β)
    (tst : ∀ i, i < n → ∀ H1, Ex H H1 → ET tt ((wipe σ vs).set j (some (.int (i : Int)))) H1 (f i)) (turn : ∀ i, i < n → ∀ H1, Ex H H1 → ER te ((wipe σ vs).set j (some (.int (i : Int)))) H1 (R (m i))) (hw : ∀ x, wipe ((wipe σ vs).set j (some x)) vs = wipe σ vs := by intro _; rfl) :
    ER (tLc (iRng1 ta) (gName j) tt te vs) σ H (LstOf R (((List.range n).filter f).map m)) := er_lcR src hz f m fun i hi H1 e => ⟨_, fun H2 e Q (q : Q ((wipe σ vs).set j (some (.int (i : Int)))) H2) => q, hw _, tst i hi H1 e, fun _ => turn i hi H1 e⟩
theorem er_lcLn {α β : Type} {S : α → Rel} [ms : ∀ a, Mono (S a)] {R : β → Rel} [mr : ∀ b, Mono (R b)] [st : Stable R] {as : List α} {vs : List Nat} {j : Nat} {tt : TT} (src : ER tl σ H (LstOf S as)) (hz : as.length ≤ 1000000) (f : α → Bool) (m : α → β)
    (tst : ∀ a, a ∈ as → ∀ x H1, Ex H H1 → S a x H1 → ET tt ((wipe σ vs).set j (some x)) H1 (f a)) (turn : ∀ a, a ∈ as → ∀ x H1, Ex H H1 → S a x H1 → ER te ((wipe σ vs).set j (some x)) H1 (R (m a))) (hw : ∀ x, wipe ((wipe σ vs).set j (some x)) vs = wipe σ vs := by intro _; rfl) :
    ER (tLc (iList K tl) (gName j) tt te vs) σ H (LstOf R ((as.filter f).map m)) := er_lcL src hz f m fun a ha x H1 e s => ⟨_, fun H2 e Q (q : Q ((wipe σ vs).set j (some x)) H2) => q, hw x, tst a ha x H1 e s, fun _ => turn a ha x H1 e s⟩
theorem er_add {a b : Nat} (ha : ER ta σ H (IsI (a : Int))) (hb : ER tb σ H (IsI (b : Int))) : ER (tOp (rI0 fun i j => .int (i + j)) ta tb) σ H (IsI ((a + b : Nat) : Int)) := er_I0 ha hb
theorem er_sub {a b : Nat} (ha : ER ta σ H (IsI (a : Int))) (hb : ER tb σ H (IsI (b : Int))) (h : b ≤ a) : ER (tOp (rI0 fun i j => .int (i - j)) ta tb) σ H (IsI ((a - b : Nat) : Int)) := er_is (er_I0 ha hb) (by rw [Int.ofNat_sub h])
theorem er_lenI {xs : List V} {n : Nat} (h : ER te σ H (IsL xs)) (e : xs.length = n) : ER (tCB (Evl.rLenS K) (tCons te tNil)) σ H (IsI (n : Int)) := e ▸ er_len h
theorem er_lenN {w : List Nat} (h : ER te σ H (IsN w)) : ER (tCB (Evl.rLenS K) (tCons te tNil)) σ H (IsI (w.length : Int)) := er_lenI h (iv_len w)
theorem er_ixN {w : List Nat} {j n : Nat} (ha : ER ta σ H (IsN w)) (hb : ER tb σ H (IsI (j : Int))) (h : w[j]? = some n) : ER (tOp (rIxL K) ta tb) σ H (IsI (n : Int)) := er_ixL ha hb (atI_nat (by unfold iv; rw [List.getElem?_map, h]; rfl))
theorem et_pos {n : Nat} (h : ER te σ H (IsI (n : Int))) : ET (tTest (tOp (rI0 fun i j => .bl (decide (j < i))) te (tC (.int 0)))) σ H (decide (0 < n)) := et_is (et_test (er_I0 h er_c)) (by simp)
end
section
variable {P : Program} {w : World} {K : PySem.W.Frag} {mg : Str → Option Value} {base : Heap} {c : Cl3}
/-! ### graphs -/
abbrev s_thread_of : Stmt := (top 21)
abbrev N_thread_of : List Str := ["knot", "turn", "other"]
theorem sc_thread_of : FnScope ["knot", "turn", "other"] ["knot", "turn", "other"] (defScope s_thread_of) := ⟨rfl, rfl, rfl, by decide +kernel, rfl, by decide +kernel, by decide +kernel⟩
theorem b_thread_of : BindsP "thread_of" "thread_of" s_thread_of ["knot", "turn", "other"] := fun _ _ _ _ _ _ us hl => match us, hl with | [_, _, _], _ => rfl
theorem ok_thread_of (T : Txt K mg c) : Ok P w K mg base CX0 2 "thread_of" ["knot", "turn", "other"] (spF (fun p : Nat × Nat × Nat => [IsI (p.1 : Int), IsI (p.2.1 : Int), IsI (p.2.2 : Int)]) (fun _ => True) (fun p => TriR (threadT p.1 p.2.1 p.2.2))) := by
  refine T.thread_of.ok sc_thread_of b_thread_of (fun vs H Q E h => ?_) (fun f cdv A outer s H vs Q E hr h => ⟨_, (pss_cons (ps_if (pt_cmpR op_eq (pe_op op_mod (pv 1) pe_int) pe_int (nomark _)) (pss_one (ps_ret (pe_tup (pa_cons (pv 0) (pa_cons (pcall (ok_finger_of T) (hr.mono (by decide)) rfl pass0 (pa_cons (pv 1) pa_nil)) (pa_cons (pv 2) pa_nil)))))) pss_nil)
      (pss_one (ps_ret (pe_tup (pa_cons (pv 2) (pa_cons (pcall (ok_finger_of T) (hr.mono (by decide)) rfl pass0 (pa_cons (pv 1) pa_nil)) (pa_cons (pv 0) pa_nil))))))), ?_⟩)
  · obtain ⟨n, _, r, _⟩ := h; exact all_len r
  · obtain ⟨⟨a, b, d⟩, _, ra, q⟩ := h
    obtain ⟨v1, v2, v3, rfl, r1, r2, r3⟩ := all3 ra
    cases r1; cases r2; cases r3
    refine st_seq (st_if (et_even (er_n b rfl)) (fun hb H1 e1 => ?_) fun hb H1 e1 => ?_)
    · refine st_ret (er_T (xs := [.int (a : Int), .int ((b / 2 : Nat) : Int), .int (d : Int)]) (ea_cons (er_n a rfl) (ea_cons (er_call b (ea1 (er_n b rfl)) trivial) (ea1 (er_n d rfl)))) (show 3 ≤ 1000 by decide)) fun v H2 e2 r => q v H2 (e1.trans e2) ?_
      show TriR (threadT a b d) v H2
      unfold threadT
      rw [if_pos (of_decide_eq_true hb)]
      exact r
    · refine st_ret (er_T (xs := [.int (d : Int), .int ((b / 2 : Nat) : Int), .int (a : Int)]) (ea_cons (er_n d rfl) (ea_cons (er_call b (ea1 (er_n b rfl)) trivial) (ea1 (er_n a rfl)))) (show 3 ≤ 1000 by decide)) fun v H2 e2 r => q v H2 (e1.trans e2) ?_
      show TriR (threadT a b d) v H2
      unfold threadT
      rw [if_neg (of_decide_eq_false hb)]
      exact r
abbrev s_loop_of : Stmt := (top 22)
abbrev N_loop_of : List Str := ["taut", "fresh", "knots", "k"]
theorem sc_loop_of : FnScope ["taut", "fresh", "knots", "k"] ["taut", "fresh"] (defScope s_loop_of) := ⟨rfl, rfl, rfl, by decide +kernel, rfl, by decide +kernel, by decide +kernel⟩
theorem b_loop_of : BindsP "loop_of" "loop_of" s_loop_of ["taut", "fresh"] := fun _ _ _ _ _ _ us hl => match us, hl with | [_, _], _ => rfl
theorem ok_loop_of (T : Txt K mg c) : Ok P w K mg base CX0 3 "loop_of" ["taut", "fresh"] (spF (fun p : List Nat × Nat => [IsN p.1, IsI (p.2 : Int)]) (fun p => 0 < p.1.length ∧ p.1.length ≤ 100000) (fun p => LstOf TriR (loopT p.1 p.2))) := by
  refine T.loop_of.ok sc_loop_of b_loop_of (fun vs H Q E h => ?_) (fun f cdv A outer s H vs Q E hr h => ⟨_, (pss_cons (ps_set (i := 2) sc_loop_of.nd rfl (.inr rfl) (pe_op op_cat (pe_op op_cat (pe_lst (pa_cons pe_int pa_nil)) (pe_lc (own := [("k", 3)]) rfl sc_loop_of.nd (pi_range1 (by rfl) T.range (pa_cons (pe_op op_sub (pe_callB (r := Evl.rLenS K) call_len_seq (by rfl) T.len PySem.boot_len (pa_cons (pv 0) pa_nil)) pe_int) pa_nil)) (blkOk_by (own := [("k", 3)]) (N := N_loop_of) (sc := defScope s_loop_of) (by decide +kernel)) (fun _ _ _ _ _ => (pg_name (i := 3) sc_loop_of.nd rfl (.inl rfl))) (fun _ _ _ _ _ => pts_nil) (fun _ _ _ _ _ => (pe_op op_add (pv 1) (pv 3))))) (pe_lst (pa_cons pe_int pa_nil))))
      (pss_one (ps_ret (pe_lc (own := [("k", 3)]) rfl sc_loop_of.nd (pi_range1 (by rfl) T.range (pa_cons (pe_callB (r := Evl.rLenS K) call_len_seq (by rfl) T.len PySem.boot_len (pa_cons (pv 0) pa_nil)) pa_nil)) (blkOk_by (own := [("k", 3)]) (N := N_loop_of) (sc := defScope s_loop_of) (by decide +kernel)) (fun _ _ _ _ _ => (pg_name (i := 3) sc_loop_of.nd rfl (.inl rfl))) (fun _ _ _ _ _ => pts_nil) (fun _ _ _ _ _ => (pcall (ok_thread_of T) (hr.mono (by decide)) rfl pass0 (pa_cons (pe_ix (r := rIxL K) ix_list (pv 2) (pv 3) (fun _ _ => rfl)) (pa_cons (pe_ix (r := rIxL K) ix_list (pv 0) (pv 3) (fun _ _ => rfl)) (pa_cons (pe_ix (r := rIxL K) ix_list (pv 2) (pe_op op_add (pv 3) pe_int) (fun _ _ => rfl)) pa_nil))))))))), ?_⟩)
  · obtain ⟨n, _, r, _⟩ := h; exact all_len r
  · obtain ⟨⟨t, fr⟩, ⟨h0, h1⟩, ra, q⟩ := h
    dsimp only at h0 h1 ra q
    obtain ⟨v1, v2, rfl, ⟨p, rfl, hp⟩, r2⟩ := all2 ra
    cases r2
    have hpn : ∀ H', Ex H H' → ER (tVar 0) (start N_loop_of [.ref p, .int (fr : Int)]) H' (IsN t) := fun H' e => er_at (er_ref rfl) (e _ _ hp)
    have kn : ER (tLc (iRng1 (tCons (tOp (rI0 fun i j => .int (i - j)) (tCB (Evl.rLenS K) (tCons (tVar 0) tNil)) (tC (.int 1))) tNil)) (gName 3) tYes (tOp (rI0 fun i j => .int (i + j)) (tVar 1) (tVar 3)) [3]) (start N_loop_of [.ref p, .int (fr : Int)]) H
        (LstOf (fun x : Nat => IsI (x : Int)) ((List.range (t.length - 1)).map fun k => fr + k)) :=
      er_lcRAn (n := t.length - 1) (ea1 (er_sub (er_lenN (hpn H Ex.rfl)) er_c h0)) (by omega) _ fun i hi H1 e => er_add (er_n fr rfl) (er_n i rfl)
    let ks : List Nat := 0 :: ((List.range (t.length - 1)).map fun k => fr + k) ++ [0]
    have kn2 : ER (tOp rCat (tOp rCat (tLst (tCons (tC (.int 0)) tNil)) (tLc (iRng1 (tCons (tOp (rI0 fun i j => .int (i - j)) (tCB (Evl.rLenS K) (tCons (tVar 0) tNil)) (tC (.int 1))) tNil)) (gName 3) tYes (tOp (rI0 fun i j => .int (i + j)) (tVar 1) (tVar 3)) [3])) (tLst (tCons (tC (.int 0)) tNil))) (start N_loop_of [.ref p, .int (fr : Int)]) H (IsN ks) := by
      refine er_to (er_cat (er_cat (er_lst (xs := [.int 0]) (ea1 er_c) (by decide)) (kn.imp fun v H1 e r => lstOf_val r) ?_) (er_lst (xs := [.int 0]) (ea1 er_c) (by decide)) ?_) ?_
      · simp; have : (100001 : Nat) < sizeLine := by decide
        omega
      · simp; have : (100002 : Nat) < sizeLine := by decide
        omega
      · show IsL _ = IsL _
        congr 1
        simp [ks, iv]
    have kat : ∀ k, k ≤ t.length → ks[k]? = some (knotAt t.length fr k) := by
      intro k hk
      unfold knotAt
      rcases Nat.eq_zero_or_pos k with rfl | hk0
      · simp [ks]
      · rcases Nat.lt_or_ge k t.length with hlt | hge
        · rw [if_neg (by omega)]
          show (0 :: (((List.range (t.length - 1)).map fun k => fr + k) ++ [0]))[k]? = _
          obtain ⟨j, rfl⟩ : ∃ j, k = j + 1 := ⟨k - 1, by omega⟩
          rw [List.getElem?_cons_succ, List.getElem?_append_left (by simp; omega), List.getElem?_map, List.getElem?_range (by omega)]
          rfl
        · have ek : k = t.length := by omega
          rw [if_pos (.inr ek)]
          show (0 :: (((List.range (t.length - 1)).map fun k => fr + k) ++ [0]))[k]? = _
          obtain ⟨j, rfl⟩ : ∃ j, k = j + 1 := ⟨k - 1, by omega⟩
          rw [List.getElem?_cons_succ, List.getElem?_append_right (by rw [List.length_map, List.length_range]; omega), List.length_map, List.length_range, show j - (t.length - 1) = 0 by omega]
          rfl
    refine st_seq (st_asg kn2 fun v H1 e1 ⟨kp, ev, hk⟩ => ?_)
    subst ev
    refine st_ret (er_lcRAn (R := fun e => TriR e) (n := t.length) (ea1 (er_lenN (er_at (er_ref (p := p) rfl) (e1 _ _ hp)))) (by omega) (fun k => threadT (knotAt t.length fr k) (t.getD k 0) (knotAt t.length fr (k + 1))) fun i hi H2 e2 => ?_) fun v H2 e2 r => q v H2 (e1.trans e2) r
    have kl : ∀ tb (m : Nat), ER tb _ H2 (IsI (m : Int)) → m ≤ t.length → ER (tOp (rIxL K) (tVar 2) tb) ((wipe ((start N_loop_of [V.ref p, V.int (fr : Int)]).set 2 (some (V.ref kp))) [3]).set 3 (some (V.int (i : Int)))) H2 (IsI (knotAt t.length fr m : Int)) := fun tb m hb hm =>
      er_ixN (w := ks) (er_at (er_ref rfl) (e2 _ _ hk)) hb (kat m hm)
    have ti : t[i]? = some (t.getD i 0) := by rw [List.getD_eq_getElem?_getD, List.getElem?_eq_getElem hi]; rfl
    exact er_call (knotAt t.length fr i, t.getD i 0, knotAt t.length fr (i + 1)) (ea_cons (kl _ i (er_n i rfl) (by omega)) (ea_cons (er_ixN (er_at (er_ref (p := p) rfl) (e2 _ _ (e1 _ _ hp))) (er_n i rfl) ti) (ea1 (kl _ (i + 1) (er_add (er_n i rfl) er_c) hi)))) trivial
end
end Fc
set_option maxRecDepth 100000
set_option maxHeartbeats 2000000
namespace Fc
open PySem PySem.Spec PyProof.Rows L2
/-- cords -/
abbrev Cords (ws : List (List Nat)) : Rel := LstOf (fun w : List Nat => IsN w) ws
section
variable {K : PySem.W.Frag} {σ : L2.St} {H H' : Hp} {ta tb te tc tl : TE} {t u : TT} {x y z v : V} {R Ra Rb : Rel} {D : Ends} {tu tw : TS}
theorem rmono (R : Rel) [m : Mono R] (e : Ex H H') (r : R v H) : R v H' := m.mono e r
/-- a loop whose turns make new objects alone -/
theorem st_listX {β : Type} {S : β → Rel} [ms : ∀ b, Mono (S b)] {bs : List β} {g : TG} (h : ER tl σ H (LstOf S bs)) (J : Hp → Nat → L2.St → Hp → Prop) (h0 : ∀ H1, Ex H H1 → J H1 0 σ H1) (hx : ∀ H1 i σ' H', J H1 i σ' H' → Ex H1 H')
    (hs : ∀ H1 i b x σ' H', Ex H H1 → bs[i]? = some b → S b x H' → J H1 i σ' H' → g x σ' H' fun σ2 H2 => tu { D with nx := J H1 (i + 1), ct := J H1 (i + 1), bk := D.nx } σ2 H2) (hd : ∀ H1 σ' H', Ex H H1 → J H1 bs.length σ' H' → D.nx σ' H') : tFor (iList K tl) g tu D σ H := by
  refine h H Ex.rfl _ fun v H1 e1 r => ?_
  obtain ⟨p, xs, ep, hp, pr⟩ := id r
  have hlen := paired_len pr
  refine ⟨p, ep, ⟨xs, .of hp⟩, ?_⟩
  refine for_list (xs := xs) (J H1) (h0 H1 e1) (fun i σ' H' _ q => .of (hx _ _ _ _ q _ _ hp)) (fun i x σ' H' hx' q => ?_) fun σ' H' q => hd H1 σ' H' e1 (by rw [hlen]; exact q)
  have hi : i < bs.length := by
    have := (List.getElem?_eq_some_iff.mp hx').1
    omega
  have hb : bs[i]? = some bs[i] := List.getElem?_eq_getElem hi
  obtain ⟨x', hx2, rS⟩ := paired_get pr hb
  rw [hx'] at hx2
  cases hx2
  exact hs H1 i _ x σ' H' e1 hb ((ms _).mono (hx _ _ _ _ q) rS) q
/-! dict(pairs), list(dict) -/
def DTl (kvs : List (List Key × V)) : Rel := fun v H => ∃ p, v = .ref p ∧ H p = some (.dT kvs)
instance (kvs : List (List Key × V)) : Mono (DTl kvs) := ⟨fun e ⟨p, a, b⟩ => ⟨p, a, e _ _ b⟩⟩
theorem pairs_of {β : Type} {S : β → Rel} {key : β → List Key} {val : β → V} {H : Hp} (hS : ∀ b x, S b x H → ∃ p a, x = .ref p ∧ H p = some (.tup [.ref a, val b]) ∧ H a = some (.tup ((key b).map kV))) :
    ∀ {bs : List β} {xs : List V}, Paired (fun b x => S b x H) bs xs → ∃ (pp : List Addr) (es : List (List Key × Addr × V)), xs = pp.map V.ref ∧
      Paired (fun p e => H p = some (.tup [.ref e.2.1, e.2.2]) ∧ H e.2.1 = some (.tup (e.1.map kV))) pp es ∧ es.map (fun e => (e.1, e.2.2)) = bs.map fun b => (key b, val b)
  | _, _, .nil => ⟨[], [], rfl, .nil, rfl⟩
  | b :: bs, x :: xs, .cons r t => by
    obtain ⟨p, a, rfl, h1, h2⟩ := hS b x r
    obtain ⟨pp, es, rfl, h3, h4⟩ := pairs_of hS t
    exact ⟨p :: pp, (key b, a, val b) :: es, rfl, .cons ⟨h1, h2⟩ h3, by rw [List.map_cons, List.map_cons, h4]⟩
theorem er_dictL {β : Type} {S : β → Rel} {key : β → List Key} {val : β → V} {bs : List β} (hS : ∀ b x H, S b x H → ∃ p a, x = .ref p ∧ H p = some (.tup [.ref a, val b]) ∧ H a = some (.tup ((key b).map kV))) (h : ER te σ H (LstOf S bs)) :
    ER (tCB (fun xs H Q => ∃ (a : Addr) (pp : List Addr) (es : List (List Key × Addr × V)), xs = [V.ref a] ∧ H a = some (.lst (pp.map V.ref)) ∧
      Paired (fun p e => H p = some (.tup [.ref e.2.1, e.2.2]) ∧ H e.2.1 = some (.tup (e.1.map kV))) pp es ∧ ∀ p, H p = none → Q (.ref p) (upd H p (.dT (mergeT [] (es.map fun e => (e.1, e.2.2)))))) (tCons te tNil)) σ H (DTl (mergeT [] (bs.map fun b => (key b, val b)))) := fun H1 e Q q =>
  h H1 e _ fun v H2 e2 ⟨p, xs, ep, hp, pr⟩ => by
    obtain ⟨pp, es, rfl, h3, h4⟩ := pairs_of (fun b x r => hS b x H2 r) pr
    refine ⟨p, pp, es, by rw [ep], hp, h3, fun n hn => q _ _ (e2.trans (Evl.Ex.new hn)) ⟨n, rfl, ?_⟩⟩
    rw [upd_same, h4]
theorem keys_of {H : Hp} : ∀ {kvs : List (List Key × V)} {bs : List Addr}, IsKeys H kvs bs → Paired (fun (kv : List Key × V) x => IsT (kv.1.map kV) x H) kvs (bs.map V.ref)
  | [], _, .nil => .nil
  | _ :: _, _ :: _, .cons r t => .cons ⟨_, rfl, r⟩ (keys_of t)
theorem er_listDT {kvs : List (List Key × V)} (h : ER te σ H (DTl kvs)) :
    ER (tCB (fun xs H Q => ∃ d kvs, xs = [V.ref d] ∧ Rd H d (.dT kvs) ∧ ∀ p bs, H p = none → IsKeys H kvs bs → Q (.ref p) (upd H p (.lst (bs.map V.ref)))) (tCons te tNil)) σ H (LstOf (fun (kv : List Key × V) => IsT (kv.1.map kV)) kvs) := fun H1 e Q q =>
  h H1 e _ fun v H2 e2 ⟨p, ep, hp⟩ => ⟨p, kvs, by rw [ep], .inl hp, fun n bs hn hk => q _ _ (e2.trans (Evl.Ex.new hn)) ⟨n, _, rfl, upd_same, paired_mono (Evl.Ex.new hn) (keys_of hk)⟩⟩
theorem merge_keys {β : Type} {key : β → List Key} {val : β → V} (inj : ∀ a b, key a = key b → a = b) : ∀ (more A : List β) (acc : List (List Key × V)), acc.map (·.1) = A.map key → A.Nodup →
    ∃ A' : List β, (mergeT acc (more.map fun b => (key b, val b))).map (·.1) = A'.map key ∧ A'.Nodup ∧ (∀ e, e ∈ A' ↔ e ∈ A ∨ e ∈ more) ∧ A'.length ≤ A.length + more.length
  | [], A, acc, h, nd => ⟨A, h, nd, fun e => by simp, Nat.le_refl _⟩
  | b :: more, A, acc, h, nd => by
    show ∃ A' : List β, (mergeT (putK acc (key b) (val b)) (more.map fun b => (key b, val b))).map (·.1) = A'.map key ∧ A'.Nodup ∧ _ ∧ _
    have has : (acc.any fun kv => decide (kv.1 = key b)) = true ↔ b ∈ A := by
      have z : (acc.any fun kv => decide (kv.1 = key b)) = (acc.map (·.1)).any fun k => decide (k = key b) := by rw [List.any_map]; rfl
      rw [z, h, List.any_map]
      constructor
      · intro q
        obtain ⟨a, ha, e⟩ := List.any_eq_true.mp q
        have e' : key a = key b := of_decide_eq_true e
        rw [← inj _ _ e']
        exact ha
      · intro q
        exact List.any_eq_true.mpr ⟨b, q, decide_eq_true rfl⟩
    by_cases hb : b ∈ A
    · have hk : (putK acc (key b) (val b)).map (·.1) = A.map key := by
        unfold putK
        rw [if_pos (has.mpr hb), ← h, List.map_map]
        refine List.map_congr_left fun kv _ => ?_
        show (if kv.1 = key b then (kv.1, val b) else kv).1 = kv.1
        split <;> rfl
      obtain ⟨A', h1, h2, h3, h4⟩ := merge_keys inj more A _ hk nd
      refine ⟨A', h1, h2, fun e => ?_, by rw [List.length_cons]; omega⟩
      rw [h3, List.mem_cons]
      constructor
      · rintro (q | q)
        · exact .inl q
        · exact .inr (.inr q)
      · rintro (q | rfl | q)
        · exact .inl q
        · exact .inl hb
        · exact .inr q
    · have hk : (putK acc (key b) (val b)).map (·.1) = (A ++ [b]).map key := by
        unfold putK
        rw [if_neg (fun q => hb (has.mp q)), List.map_append, List.map_append, h]
        rfl
      have nd' : (A ++ [b]).Nodup := by
        rw [List.nodup_append]
        refine ⟨nd, by simp, fun x hx y hy => ?_⟩
        rw [List.mem_singleton.mp hy]
        rintro rfl
        exact hb hx
      obtain ⟨A', h1, h2, h3, h4⟩ := merge_keys inj more _ _ hk nd'
      refine ⟨A', h1, h2, fun e => ?_, by rw [List.length_append] at h4; rw [List.length_cons]; simp at h4; omega⟩
      rw [h3, List.mem_append, List.mem_singleton, List.mem_cons, or_assoc]
theorem lst_keys {β : Type} {key : β → List Key} {S : β → Rel} {kvs : List (List Key × V)} {A : List β} (hS : ∀ b x H, IsT ((key b).map kV) x H → S b x H) (h : kvs.map (·.1) = A.map key) {v : V} {H : Hp} (r : LstOf (fun (kv : List Key × V) => IsT (kv.1.map kV)) kvs v H) : LstOf S A v H := by
  obtain ⟨p, xs, ep, hp, pr⟩ := r
  refine ⟨p, xs, ep, hp, ?_⟩
  clear hp ep
  induction A generalizing kvs xs with
  | nil =>
    cases kvs with
    | nil => cases pr; exact .nil
    | cons _ _ => cases h
  | cons a A ih =>
    cases kvs with
    | nil => cases h
    | cons kv kvs =>
      cases pr with
      | cons r t =>
        rw [List.map_cons, List.map_cons] at h
        injection h with h1 h2
        refine .cons (hS _ _ _ ?_) (ih h2 _ t)
        rw [← h1]
        exact r
end
theorem loops_len : ∀ (ws : List (List Nat)) (T : List Tri), (ws.foldl loopsStep T).length ≤ T.length + total ws
  | [], T => by simp [total]
  | w :: ws, T => by
    have h := loops_len ws (loopsStep T w)
    have h2 : (loopsStep T w).length ≤ T.length + w.length := by
      unfold loopsStep
      split
      · rw [List.length_append, loopT_length]; have := taut_length w; omega
      · omega
    rw [List.foldl_cons, total_cons]
    omega
theorem total_take (ws : List (List Nat)) (i : Nat) : total (ws.take i) ≤ total ws := by
  have h : total (ws.take i ++ ws.drop i) = total ws := by rw [List.take_append_drop]
  rw [total_append] at h
  omega
theorem total_mem : ∀ {ws : List (List Nat)} {w : List Nat}, w ∈ ws → w.length ≤ total ws
  | a :: ws, w, h => by
    rw [total_cons]
    rcases List.mem_cons.mp h with rfl | h
    · omega
    · have := total_mem h
      omega
/-- unlike threads of T -/
def Unl (T : List Tri) : Rel := fun v H => ∃ T', T'.Nodup ∧ (∀ e, e ∈ T' ↔ e ∈ T) ∧ T'.length ≤ T.length ∧ LstOf TriR T' v H
instance (T : List Tri) : Mono (Unl T) := ⟨fun {v H H'} e ⟨T', a, b, l, r⟩ => ⟨T', a, b, l, rmono (LstOf TriR T') e r⟩⟩
def tk3 (t : Tri) : List Key := [.inl (t.1 : Int), .inl (t.2.1 : Int), .inl (t.2.2 : Int)]
theorem tk3_inj (a b : Tri) (h : tk3 a = tk3 b) : a = b := by
  obtain ⟨a1, a2, a3⟩ := a
  obtain ⟨b1, b2, b3⟩ := b
  unfold tk3 at h
  injection h with h1 h
  injection h with h2 h
  injection h with h3 h
  injection h1 with h1
  injection h2 with h2
  injection h3 with h3
  have g1 : a1 = b1 := Int.ofNat.inj h1
  have g2 : a2 = b2 := Int.ofNat.inj h2
  have g3 : a3 = b3 := Int.ofNat.inj h3
  rw [g1, g2, g3]
section
variable {P : Program} {w : World} {K : PySem.W.Frag} {mg : Str → Option Value} {base : Heap} {c : Cl3}
abbrev s_loops_of : Stmt := (top 23)
abbrev N_loops_of : List Str := ["moves", "threads", "move", "taut"]
theorem sc_loops_of : FnScope ["moves", "threads", "move", "taut"] ["moves"] (defScope s_loops_of) := ⟨rfl, rfl, rfl, by decide +kernel, rfl, by decide +kernel, by decide +kernel⟩
theorem b_loops_of : BindsP "loops_of" "loops_of" s_loops_of ["moves"] := fun _ _ _ _ _ _ us hl => match us, hl with | [_], _ => rfl
theorem ok_loops_of (T : Txt K mg c) : Ok P w K mg base CX0 4 "loops_of" ["moves"] (spF (fun ws : List (List Nat) => [Cords ws]) (fun ws => total ws ≤ 100000) (fun ws => LstOf TriR (loopsT ws))) := by
  refine T.loops_of.ok sc_loops_of b_loops_of (fun vs H Q E h => ?_) (fun f cdv A outer s H vs Q E hr h => ⟨_, (pss_cons (ps_set (i := 1) sc_loops_of.nd rfl (.inl rfl) (pe_lst pa_nil))
      (pss_cons (ps_for PassesOwn.never rfl (pi_list (pv 0)) (pg_name (i := 2) sc_loops_of.nd rfl (.inl rfl)) (pss_cons (ps_set (i := 3) sc_loops_of.nd rfl (.inl rfl) (pcall (ok_pulled_taut T) (hr.mono (by decide)) rfl pass0 (pa_cons (pv 2) pa_nil)))
      (pss_one (ps_if (pt_cmpR op_gt (pe_callB (r := Evl.rLenS K) call_len_seq (by rfl) T.len PySem.boot_len (pa_cons (pv 3) pa_nil)) pe_int (nomark _)) (pss_one (ps_set (i := 1) sc_loops_of.nd rfl (.inl rfl) (pe_op op_cat (pv 1) (pcall (ok_loop_of T) (hr.mono (by decide)) rfl pass0 (pa_cons (pv 3) (pa_cons (pe_op op_add pe_int (pe_callB (r := Evl.rLenS K) call_len_seq (by rfl) T.len PySem.boot_len (pa_cons (pv 1) pa_nil))) pa_nil)))))) pss_nil))))
      (pss_one (ps_ret (pv 1))))), ?_⟩)
  · obtain ⟨n, _, r, _⟩ := h; exact all_len r
  · obtain ⟨ws, hz, ra, q⟩ := h
    obtain ⟨mv, rfl, r⟩ := all1 ra
    refine st_seq (st_new fun l H1 e1 hn hl => ?_)
    have r1 : LstOf TriR [] (.ref l) H1 := ⟨l, [], rfl, hl, .nil⟩
    refine st_seq (st_listX (S := fun w : List Nat => IsN w) (bs := ws) (er_var (R := Cords ws) (rmono (Cords ws) e1 r) rfl)
      (fun H2 i σ' H' => ∃ v o1 o2, σ' = [some mv, some v, o1, o2] ∧ Ex H2 H' ∧ LstOf TriR ((ws.take i).foldl loopsStep []) v H')
      (fun H2 e2 => ⟨.ref l, _, _, rfl, Ex.rfl, rmono (LstOf TriR []) e2 r1⟩) (fun _ _ _ _ ⟨_, _, _, _, e, _⟩ => e) (fun H2 i m x σ' H' e2 hb hm hJ => ?_) fun H2 σ' H' e2 hJ => ?_)
    · obtain ⟨v, o1, o2, rfl, ex, rv⟩ := hJ
      have tk := take_succ_fold (f := loopsStep) (b := []) hb
      have hl := loops_len (ws.take i) []
      have ht := total_take ws i
      have hmz : m.length ≤ 100000 := Nat.le_trans (total_mem (List.mem_of_getElem? hb)) hz
      have htt := taut_length m
      generalize hTi : (ws.take i).foldl loopsStep [] = Ti at rv tk hl
      refine st_seq (st_asg (er_call m (ea1 (er_var (R := IsN m) hm rfl)) (by omega)) fun tv H3 e3 r3 => ?_)
      refine st_if (et_pos (er_lenN (er_var (R := IsN (Vbcjai.taut m)) r3 rfl))) (fun hb2 H4 e4 => ?_) fun hb2 H4 e4 => ?_
      · have h0 := of_decide_eq_true hb2
        have r3' := rmono (IsN (Vbcjai.taut m)) e4 r3
        have rv' := rmono (LstOf TriR Ti) (e3.trans e4) rv
        refine st_asg (er_catR (er_var (R := LstOf TriR Ti) rv' rfl) (er_call (Vbcjai.taut m, 1 + Ti.length) (ea2 (er_var (R := IsN (Vbcjai.taut m)) r3' rfl) (er_is (er_I0 er_c (er_lenR (er_var (R := LstOf TriR Ti) rv' rfl))) (by simp))) ⟨h0, Nat.le_trans htt hmz⟩) ?_) fun v2 H5 e5 r5 => ⟨v2, _, _, rfl, (((ex.trans e3).trans e4).trans e5), ?_⟩
        · rw [loopT_length]
          have : (400000 : Nat) < sizeLine := by decide
          simp at hl
          dsimp only
          omega
        · rw [tk]
          unfold loopsStep
          rw [if_pos h0]
          exact r5
      · have h0 := of_decide_eq_false hb2
        refine ⟨v, _, _, rfl, ((ex.trans e3).trans e4), ?_⟩
        rw [tk]
        unfold loopsStep
        rw [if_neg h0]
        exact rmono (LstOf TriR Ti) (e3.trans e4) rv
    · obtain ⟨v2, o1, o2, rfl, ex, rv⟩ := hJ
      rw [List.take_length] at rv
      exact st_ret (er_var (R := LstOf TriR (loopsT ws)) rv rfl) fun v3 H3 e3 r3 => q v3 H3 (((e1.trans e2).trans ex).trans e3) r3
abbrev s_unlike : Stmt := (top 24)
abbrev N_unlike : List Str := ["threads", "thread"]
theorem sc_unlike : FnScope ["threads", "thread"] ["threads"] (defScope s_unlike) := ⟨rfl, rfl, rfl, by decide +kernel, rfl, by decide +kernel, by decide +kernel⟩
theorem b_unlike : BindsP "unlike" "unlike" s_unlike ["threads"] := fun _ _ _ _ _ _ us hl => match us, hl with | [_], _ => rfl
theorem ok_unlike (T : Txt K mg c) : Ok P w K mg base CX0 1 "unlike" ["threads"] (spF (fun T : List Tri => [LstOf TriR T]) (fun T => T.length ≤ 1000000) (fun T => Unl T)) := by
  refine T.unlike.ok sc_unlike b_unlike (fun vs H Q E h => ?_) (fun f cdv A outer s H vs Q E hr h => (have hu64 := hu64_of hr; ⟨_, (pss_one (ps_ret (pe_callTy (call_list_dT rfl) (by rfl) T.list Pv.boot_list (pa_cons (pe_callTy (cr_dictT rfl hu64) (by rfl) T.dict Pv.boot_dict (pa_cons (pe_lc (own := [("thread", 1)]) rfl sc_unlike.nd (pi_list (pv 0)) (blkOk_by (own := [("thread", 1)]) (N := N_unlike) (sc := defScope s_unlike) (by decide +kernel)) (fun _ _ _ _ _ => (pg_name (i := 1) sc_unlike.nd rfl (.inl rfl))) (fun _ _ _ _ _ => pts_nil) (fun _ _ _ _ _ => (pe_tup (pa_cons (pv 1) (pa_cons pe_bl pa_nil))))) pa_nil)) pa_nil)))), ?_⟩))
  · obtain ⟨n, _, r, _⟩ := h; exact all_len r
  · obtain ⟨E0, hz, ra, q⟩ := h
    obtain ⟨mv, rfl, r⟩ := all1 ra
    obtain ⟨A, h1, h2, h3, h4⟩ := merge_keys (key := tk3) (val := fun _ => V.bl true) tk3_inj E0 [] [] rfl List.nodup_nil
    have z := er_lcAn (K := K) (tl := tVar 0) (σ := start N_unlike [mv]) (H := H) (j := 1) (vs := [1]) (S := fun t : Tri => TriR t) (R := fun t : Tri => TupOf [TriR t, IsB true]) (as := E0)
      (te := tTup (tCons (tVar 1) (tCons (tC (.bl true)) tNil))) (er_var (R := LstOf TriR E0) r rfl) hz id fun a ha x H1 e s => er_tup (ea2 (er_var (R := TriR a) s rfl) er_c) (show 2 ≤ 1000 by decide)
    rw [List.map_id] at z
    have y := er_listDT (er_dictL (key := tk3) (val := fun _ => V.bl true) (fun b x H hS => by
      obtain ⟨p, xs, e, hp, rr⟩ := hS
      obtain ⟨y1, y2, rfl, s1, s2⟩ := all2 rr
      obtain ⟨a, e1, ha⟩ := s1
      subst e1
      have e2 : y2 = V.bl true := s2
      subst e2
      exact ⟨p, a, e, hp, ha⟩) z)
    refine st_ret y fun v H2 e2 r2 => q v H2 e2 ⟨A, h2, fun e => by rw [h3]; simp, by simpa using h4, lst_keys (key := tk3) (S := TriR) (fun b x H h => h) h1 r2⟩
end
end Fc
set_option maxRecDepth 100000
set_option maxHeartbeats 2000000
namespace Fc
open PySem PySem.Spec PyProof.Rows L2
/-- None, or two knots that clash -/
def ClashR (T : List Tri) : Rel := fun v H => (v = .non ∧ NoClash T) ∨ ∃ x y, Clash T x y ∧ IsP x y v H
instance (T : List Tri) : Mono (ClashR T) := ⟨by
  intro v H H' e r
  rcases r with r | ⟨x, y, c, r⟩
  · exact .inl r
  · exact .inr ⟨x, y, c, rmono (IsP x y) e r⟩⟩
theorem nk_eq {u x u' x' : Nat} : nk u x = nk u' x' ↔ u = u' ∧ x = x' := by
  unfold nk
  constructor
  · intro h
    injection h with h1 h
    injection h with h2 h
    injection h1 with h1
    injection h2 with h2
    exact ⟨Int.ofNat.inj h1, Int.ofNat.inj h2⟩
  · rintro ⟨rfl, rfl⟩; rfl
theorem valV_nk {kvs : List (List Key × V)} {u x u' x' : Nat} {v : V} : valV (putK kvs (nk u x) v) (nk u' x') = if u' = u ∧ x' = x then some v else valV kvs (nk u' x') := by
  rw [valV_put]
  by_cases h : u' = u ∧ x' = x
  · rw [if_pos h, if_pos (nk_eq.mpr h)]
  · rw [if_neg h, if_neg fun z => h (nk_eq.mp z)]
section
variable {K : PySem.W.Frag} {σ : L2.St} {H H' : Hp} {ta tb te tc tl ty tv : TE} {t u : TT} {x y z v : V} {R Ra Rb : Rel} {D : Ends} {tu tw : TS}
theorem dt_self {d : Addr} {kvs : List (List Key × V)} (h : H d = some (.dT kvs)) : DT (fun u x => valV kvs (nk u x)) (.ref d) H := ⟨d, kvs, rfl, h, fun _ _ => rfl⟩
/-- if d.setdefault((u, f), e) != e: .. -/
theorem if_setT {i j d u f e : Nat} {kvs : List (List Key × V)} (hd : σ[i]? = some (some (.ref d))) (hk : H d = some (.dT kvs)) (hy : ER ty σ H (IsP u f)) (hj : σ[j]? = some (some (.int (e : Int)))) (hl : kvs.length ≤ 1000000)
    (isI : ∀ v, valV kvs (nk u f) = some v → ∃ n : Nat, v = .int (n : Int)) (hit : ∀ n : Nat, valV kvs (nk u f) = some (.int (n : Int)) → n ≠ e → ∀ H1, Ex H H1 → tu D σ H1)
    (same : valV kvs (nk u f) = some (.int (e : Int)) → ∀ H1, Ex H H1 → tw D σ H1) (new : valV kvs (nk u f) = none → ∀ H1, Ex H H1 → tw D σ (upd H1 d (.dT (putK kvs (nk u f) (.int (e : Int)))))) :
    tIfS (tTest (tOp rNe (tDSetT (tVar i) ty (tVar j)) (tVar j))) tu tw D σ H := by
  refine ⟨.ref d, hd, d, rfl, .inr ⟨kvs, .inl hk⟩, hy H Ex.rfl _ fun w H1 e1 ⟨p, ep, hp⟩ => ⟨_, hj, kvs, nk u f, p, e1 _ _ hk, ep, hp, Nat.lt_of_le_of_lt hl (by decide), fun v hv => ?_, fun hv => ?_⟩⟩
  · obtain ⟨n, rfl⟩ := isI v hv
    refine ⟨_, hj, rfl, _, rfl, ?_⟩
    rw [int_eq]
    by_cases c : n = e
    · subst c
      rw [decide_eq_true rfl]
      exact same hv H1 e1
    · rw [decide_eq_false c]
      exact hit n hv c H1 e1
  · refine ⟨_, hj, rfl, _, rfl, ?_⟩
    rw [int_eq, decide_eq_true rfl]
    exact new hv H1 e1
theorem st_dput {d u f : Nat} {kvs : List (List Key × V)} (hv : ER tv σ H (IsV v)) (hd : ER ta σ H (IsV (.ref d))) (hk : H d = some (.dT kvs)) (hy : ER ty σ H (IsP u f)) (hl : kvs.length ≤ 1000000) (k : ∀ H1, Ex H H1 → D.nx σ (upd H1 d (.dT (putK kvs (nk u f) v)))) :
    sDPut ta ty tv D σ H := hv H Ex.rfl _ fun w H1 e1 r1 => hd H1 e1 _ fun a H2 e2 ra => hy H2 (e1.trans e2) _ fun y H3 e3 ⟨p, ep, hp⟩ => by
  have ew : w = v := r1
  subst ew
  subst ep
  exact ⟨d, _, ra, DPut.t (k := nk u f) (e3 _ _ (e2 _ _ (e1 _ _ hk))) hp (Nat.lt_of_le_of_lt hl (by decide)), k H3 ((e1.trans e2).trans e3)⟩
theorem st_dputK {d u : Nat} {kvs : List (Key × V)} (hv : ER tv σ H R) [m : Mono R] (hd : ER ta σ H (IsV (.ref d))) (hk : H d = some (.dK kvs)) (hy : ER ty σ H (IsI (u : Int))) (hl : kvs.length ≤ 1000000) (k : ∀ v H1, Ex H H1 → R v H1 → D.nx σ (upd H1 d (.dK (putK kvs (.inl (u : Int)) v)))) :
    sDPut ta ty tv D σ H := hv H Ex.rfl _ fun w H1 e1 r1 => hd H1 e1 _ fun a H2 e2 ra => hy H2 (e1.trans e2) _ fun y H3 e3 ry => by
  have ey : y = .int (u : Int) := ry
  subst ey
  exact ⟨d, _, ra, DPut.k (k := .inl (u : Int)) (e3 _ _ (e2 _ _ (e1 _ _ hk))) (Nat.lt_of_le_of_lt hl (by decide)), k w H3 ((e1.trans e2).trans e3) (m.mono (e2.trans e3) r1)⟩
/-- a loop over a list that was there at first (at H0), while new things change -/
theorem st_listK {β : Type} {S : β → Rel} [ms : ∀ b, Mono (S b)] {bs : List β} {g : TG} {H0 : Hp} {p : Addr} (h : ER tl σ H (IsV (.ref p))) (r : LstOf S bs (.ref p) H0) (e0 : Ex H0 H) (J : Nat → L2.St → Hp → Prop) (h0 : ∀ H1, Ex H H1 → J 0 σ H1) (hx : ∀ i σ' H', J i σ' H' → Ex H0 H')
    (hs : ∀ i b x σ' H', bs[i]? = some b → S b x H' → J i σ' H' → g x σ' H' fun σ2 H2 => tu { D with nx := J (i + 1), ct := J (i + 1), bk := D.nx } σ2 H2) (hd : ∀ σ' H', J bs.length σ' H' → D.nx σ' H') : tFor (iList K tl) g tu D σ H := by
  obtain ⟨p', xs, ep, hp, pr⟩ := r
  injection ep with ep
  subst ep
  have hlen := paired_len pr
  refine st_listA h (e0 _ _ hp) J h0 (fun i σ' H' q => hx _ _ _ q _ _ hp) (fun i x σ' H' hx' q => ?_) fun σ' H' q => hd σ' H' (by rw [hlen]; exact q)
  have hi : i < bs.length := by
    have := (List.getElem?_eq_some_iff.mp hx').1
    omega
  have hb : bs[i]? = some bs[i] := List.getElem?_eq_getElem hi
  obtain ⟨x', hx2, rS⟩ := paired_get pr hb
  rw [hx'] at hx2
  cases hx2
  exact hs i _ x σ' H' hb ((ms _).mono (hx _ _ _ q) rS) q
/-- two new empty dicts -/
theorem st_two {i j : Nat} (k : ∀ a b H1, Ex H H1 → H a = none → H b = none → a ≠ b → H1 a = some (.dT []) → H1 b = some (.dT []) → D.nx ((σ.set i (some (.ref a))).set j (some (.ref b))) H1) : tPar i j (tCons tDNewT (tCons tDNewT tNil)) D σ H := by
  intro a ha b hb
  have ne : a ≠ b := fun e => by rw [← e, upd_same] at hb; cases hb
  have hb' : H b = none := by rw [upd_ne (fun e => ne e.symm)] at hb; exact hb
  refine ⟨_, _, rfl, k a b _ ((Evl.Ex.new ha).trans (Evl.Ex.new hb)) ha hb' ne ?_ upd_same⟩
  rw [upd_ne ne]
  exact upd_same
end
section
variable {P : Program} {w : World} {K : PySem.W.Frag} {mg : Str → Option Value} {base : Heap} {c : Cl3}
abbrev s_clash : Stmt := (top 25)
abbrev N_clash : List Str := ["threads", "ends", "begins", "begin", "finger", "end"]
theorem sc_clash : FnScope ["threads", "ends", "begins", "begin", "finger", "end"] ["threads"] (defScope s_clash) := ⟨rfl, rfl, rfl, by decide +kernel, rfl, by decide +kernel, by decide +kernel⟩
theorem b_clash : BindsP "clash" "clash" s_clash ["threads"] := fun _ _ _ _ _ _ us hl => match us, hl with | [_], _ => rfl
/-- what stands in the two dicts -/
structure ClI (T : List Tri) (i : Nat) (k1 k2 : List (List Key × V)) : Prop where
  l1 : k1.length ≤ i
  l2 : k2.length ≤ i
  s1 : ∀ u f v, valV k1 (nk u f) = some v → ∃ n : Nat, v = .int (n : Int) ∧ (u, f, n) ∈ T
  s2 : ∀ u f v, valV k2 (nk u f) = some v → ∃ n : Nat, v = .int (n : Int) ∧ (n, f, u) ∈ T
  a1 : ∀ b f e, (b, f, e) ∈ T.take i → valV k1 (nk b f) = some (.int (e : Int))
  a2 : ∀ b f e, (b, f, e) ∈ T.take i → valV k2 (nk e f) = some (.int (b : Int))
theorem ClI.no {T : List Tri} {k1 k2 : List (List Key × V)} (h : ClI T T.length k1 k2) : NoClash T := by
  have a1 := h.a1
  have a2 := h.a2
  rw [List.take_length] at a1 a2
  intro x y ⟨ne, c⟩
  rcases c with ⟨u, f, m1, m2⟩ | ⟨v, f, m1, m2⟩
  · have z := (a1 _ _ _ m1).symm.trans (a1 _ _ _ m2)
    injection z with z; injection z with z
    exact ne (Int.ofNat.inj z)
  · have z := (a2 _ _ _ m1).symm.trans (a2 _ _ _ m2)
    injection z with z; injection z with z
    exact ne (Int.ofNat.inj z)
theorem ok_clash (T : Txt K mg c) : Ok P w K mg base CX0 1 "clash" ["threads"] (spF (fun T : List Tri => [LstOf TriR T]) (fun T => T.length ≤ 900000) (fun T => ClashR T)) := by
  refine T.clash.ok sc_clash b_clash (fun vs H Q E h => ?_) (fun f cdv A outer s H vs Q E hr h => ⟨_, (pss_cons (ps_par (i := 1) (j := 2) rfl sc_clash.nd rfl rfl (by decide) rfl rfl (pa_cons pe_dnewT (pa_cons pe_dnewT pa_nil)) (by rfl))
      (pss_cons (ps_for PassesOwn.never rfl (pi_list (pv 0)) (pg_tupK (K := K) (n := 3) rfl rfl (pgs_cons (pg_name (i := 3) sc_clash.nd rfl (.inl rfl)) (pgs_cons (pg_name (i := 4) sc_clash.nd rfl (.inl rfl)) (pgs_cons (pg_name (i := 5) sc_clash.nd rfl (.inl rfl)) pgs_nil)))) (pss_cons (ps_if (pt_cmpR op_ne (pe_setdT (hu_of hr) (pv 1) (pe_tup (pa_cons (pv 3) (pa_cons (pv 4) pa_nil))) (pv 5) ⟨rfl, rfl, rfl, rfl⟩) (pv 5) (nomark _)) (pss_one (ps_ret (pe_tup (pa_cons (pe_dget (hu_of hr) (pv 1) (pe_tup (pa_cons (pv 3) (pa_cons (pv 4) pa_nil))) (fun _ _ => rfl)) (pa_cons (pv 5) pa_nil))))) pss_nil)
      (pss_one (ps_if (pt_cmpR op_ne (pe_setdT (hu_of hr) (pv 2) (pe_tup (pa_cons (pv 5) (pa_cons (pv 4) pa_nil))) (pv 3) ⟨rfl, rfl, rfl, rfl⟩) (pv 3) (nomark _)) (pss_one (ps_ret (pe_tup (pa_cons (pe_dget (hu_of hr) (pv 2) (pe_tup (pa_cons (pv 5) (pa_cons (pv 4) pa_nil))) (fun _ _ => rfl)) (pa_cons (pv 3) pa_nil))))) pss_nil))))
      (pss_one (ps_ret pe_non)))), ?_⟩)
  · obtain ⟨n, _, r, _⟩ := h; exact all_len r
  · obtain ⟨E0, hz, ra, q⟩ := h
    obtain ⟨mv, rfl, pT, xsT, rfl, hpT, prT⟩ := all1 ra
    refine st_seq (st_two fun d1 d2 H1 e1 n1 n2 ne h1 h2 => ?_)
    have exb : ∀ H', ExB [d1, d2] H1 H' → Ex H H' := fun H' b => ExB.ex e1 b fun l m => by
      rcases List.mem_cons.mp m with rfl | m
      · exact n1
      · rw [List.mem_singleton.mp m]; exact n2
    refine st_seq (st_listK (S := TriR) (bs := E0) (H0 := H) (p := pT) (er_ref rfl) ⟨pT, xsT, rfl, hpT, prT⟩ e1
      (fun i σ' H' => ∃ o1 o2 o3 k1 k2, σ' = [some (.ref pT), some (.ref d1), some (.ref d2), o1, o2, o3] ∧ ExB [d1, d2] H1 H' ∧ H' d1 = some (.dT k1) ∧ H' d2 = some (.dT k2) ∧ ClI E0 i k1 k2)
      (fun H2 e2 => ⟨_, _, _, [], [], rfl, .of e2, e2 _ _ h1, e2 _ _ h2, ⟨Nat.le_refl _, Nat.le_refl _, (fun _ _ _ z => nomatch z), (fun _ _ _ z => nomatch z), (fun _ _ _ z => by rw [List.take_zero] at z; cases z), fun _ _ _ z => by rw [List.take_zero] at z; cases z⟩⟩)
      (fun i σ' H' ⟨_, _, _, _, _, _, b, _⟩ => exb _ b) (fun i b x σ' H' hb hx hJ => ?_) fun σ' H' hJ => ?_)
    · obtain ⟨o1, o2, o3, k1, k2, rfl, bb, g1, g2, I⟩ := hJ
      obtain ⟨be, fi, en⟩ := b
      have hi : i < E0.length := (List.getElem?_eq_some_iff.mp hb).1
      have hm : (be, fi, en) ∈ E0 := List.mem_of_getElem? hb
      have tk : E0.take (i + 1) = E0.take i ++ [(be, fi, en)] := by rw [List.take_add_one, hb]; rfl
      refine g_tri hx ?_
      -- ends
      have key1 : ∀ H, ER (tTup (tCons (tVar 3) (tCons (tVar 4) tNil))) [some (V.ref pT), some (V.ref d1), some (V.ref d2), some (V.int (be : Int)), some (V.int (fi : Int)), some (V.int (en : Int))] H (IsP be fi) := fun H => er_T (xs := [.int (be : Int), .int (fi : Int)]) (ea2 (er_n be rfl) (er_n fi rfl)) (show 2 ≤ 1000 by decide)
      have key2 : ∀ H, ER (tTup (tCons (tVar 5) (tCons (tVar 4) tNil))) [some (V.ref pT), some (V.ref d1), some (V.ref d2), some (V.int (be : Int)), some (V.int (fi : Int)), some (V.int (en : Int))] H (IsP en fi) := fun H => er_T (xs := [.int (en : Int), .int (fi : Int)]) (ea2 (er_n en rfl) (er_n fi rfl)) (show 2 ≤ 1000 by decide)
      -- begins, once ends is done
      have second : ∀ H2 k1', ExB [d1, d2] H1 H2 → H2 d1 = some (.dT k1') → H2 d2 = some (.dT k2) → k1'.length ≤ i + 1 → (∀ u f v, valV k1' (nk u f) = some v → ∃ n : Nat, v = .int (n : Int) ∧ (u, f, n) ∈ E0) →
          (∀ b f e, (b, f, e) ∈ E0.take (i + 1) → valV k1' (nk b f) = some (.int (e : Int))) → ∀ Dn : Ends, (∀ v H, Dn.rt v H = Q v H) → (∀ σ' H', Dn.nx σ' H' = (∃ o1 o2 o3 k1 k2, σ' = [some (V.ref pT), some (V.ref d1), some (V.ref d2), o1, o2, o3] ∧ ExB [d1, d2] H1 H' ∧ H' d1 = some (.dT k1) ∧ H' d2 = some (.dT k2) ∧ ClI E0 (i + 1) k1 k2)) →
          tIfS (tTest (tOp rNe (tDSetT (tVar 2) (tTup (tCons (tVar 5) (tCons (tVar 4) tNil))) (tVar 3)) (tVar 3))) (tRet (tTup (tCons (tDGet (tVar 2) (tTup (tCons (tVar 5) (tCons (tVar 4) tNil)))) (tCons (tVar 3) tNil)))) tNext Dn
            [some (V.ref pT), some (V.ref d1), some (V.ref d2), some (V.int (be : Int)), some (V.int (fi : Int)), some (V.int (en : Int))] H2 := by
        intro H2 k1' b2 c1 c2 hl s1 a1 Dn drt dnx
        refine if_setT (kvs := k2) rfl c2 (key2 _) rfl (by have := I.l2; omega) (fun v hv => ?_) (fun n hn hne H3 e3 => ?_) (fun hs H3 e3 => ?_) fun hn H3 e3 => ?_
        · obtain ⟨n, e, _⟩ := I.s2 _ _ _ hv
          exact ⟨n, e⟩
        · obtain ⟨n', e', m'⟩ := I.s2 _ _ _ hn
          injection e' with e'
          have e'' : n = n' := Int.ofNat.inj e'
          subst e''
          refine st_ret (er_T (xs := [.int (n : Int), .int (be : Int)]) (ea2 (er_getT (f := fun u x => valV k2 (nk u x)) (er_var (R := DT fun u x => valV k2 (nk u x)) (dt_self (e3 _ _ c2)) rfl) (key2 _) hn) (er_n be rfl)) (show 2 ≤ 1000 by decide)) fun v H4 e4 r4 => ?_
          rw [drt]
          exact q v H4 (exb _ ((b2.more e3).more e4)) (.inr ⟨n, be, ⟨hne, .inr ⟨en, fi, m', hm⟩⟩, r4⟩)
        · show Dn.nx _ _
          rw [dnx]
          refine ⟨_, _, _, k1', k2, rfl, b2.more e3, e3 _ _ c1, e3 _ _ c2, ⟨hl, by have := I.l2; omega, s1, I.s2, a1, fun b f e m => ?_⟩⟩
          rw [tk, List.mem_append, List.mem_singleton] at m
          rcases m with m | m
          · exact I.a2 _ _ _ m
          · injection m with m1 m
            injection m with m2 m3
            subst m1 m2 m3
            exact hs
        · show Dn.nx _ _
          rw [dnx]
          have hl2 := length_putK k2 (nk en fi) (.int (be : Int))
          refine ⟨_, _, _, k1', putK k2 (nk en fi) (.int (be : Int)), rfl, (b2.more e3).trans (.upd (by simp)), by rw [upd_ne ne]; exact e3 _ _ c1, upd_same, ⟨hl, by have := I.l2; omega, s1, fun u f v hv => ?_, a1, fun b f e m => ?_⟩⟩
          · rw [valV_nk] at hv
            by_cases cc : u = en ∧ f = fi
            · rw [if_pos cc] at hv
              cases hv
              obtain ⟨rfl, rfl⟩ := cc
              exact ⟨be, rfl, hm⟩
            · rw [if_neg cc] at hv
              exact I.s2 _ _ _ hv
          · rw [valV_nk]
            rw [tk, List.mem_append, List.mem_singleton] at m
            rcases m with m | m
            · rw [if_neg fun cc => ?_]
              · exact I.a2 _ _ _ m
              · obtain ⟨rfl, rfl⟩ := cc
                rw [I.a2 _ _ _ m] at hn
                cases hn
            · injection m with m1 m
              injection m with m2 m3
              subst m1 m2 m3
              rw [if_pos ⟨rfl, rfl⟩]
      refine st_seq (if_setT (kvs := k1) rfl g1 (key1 _) rfl (by have := I.l1; omega) (fun v hv => ?_) (fun n hn hne H3 e3 => ?_) (fun hs H3 e3 => ?_) fun hn H3 e3 => ?_)
      · obtain ⟨n, e, _⟩ := I.s1 _ _ _ hv
        exact ⟨n, e⟩
      · obtain ⟨n', e', m'⟩ := I.s1 _ _ _ hn
        injection e' with e'
        have e'' : n = n' := Int.ofNat.inj e'
        subst e''
        exact st_ret (er_T (xs := [.int (n : Int), .int (en : Int)]) (ea2 (er_getT (f := fun u x => valV k1 (nk u x)) (er_var (R := DT fun u x => valV k1 (nk u x)) (dt_self (e3 _ _ g1)) rfl) (key1 _) hn) (er_n en rfl)) (show 2 ≤ 1000 by decide)) fun v H4 e4 r4 =>
          q v H4 (exb _ ((bb.more e3).more e4)) (.inr ⟨n, en, ⟨hne, .inl ⟨be, fi, m', hm⟩⟩, r4⟩)
      · refine second H3 k1 (bb.more e3) (e3 _ _ g1) (e3 _ _ g2) (by have := I.l1; omega) I.s1 (fun b f e m => ?_) _ (fun _ _ => rfl) fun _ _ => rfl
        rw [tk, List.mem_append, List.mem_singleton] at m
        rcases m with m | m
        · exact I.a1 _ _ _ m
        · injection m with m1 m
          injection m with m2 m3
          subst m1 m2 m3
          exact hs
      · have hl2 := length_putK k1 (nk be fi) (.int (en : Int))
        refine second _ (putK k1 (nk be fi) (.int (en : Int))) ((bb.more e3).trans (.upd (by simp))) upd_same (by rw [upd_ne ne.symm]; exact e3 _ _ g2) (by have := I.l1; omega) (fun u f v hv => ?_) (fun b f e m => ?_) _ (fun _ _ => rfl) fun _ _ => rfl
        · rw [valV_nk] at hv
          by_cases cc : u = be ∧ f = fi
          · rw [if_pos cc] at hv
            cases hv
            obtain ⟨rfl, rfl⟩ := cc
            exact ⟨en, rfl, hm⟩
          · rw [if_neg cc] at hv
            exact I.s1 _ _ _ hv
        · rw [valV_nk]
          rw [tk, List.mem_append, List.mem_singleton] at m
          rcases m with m | m
          · rw [if_neg fun cc => ?_]
            · exact I.a1 _ _ _ m
            · obtain ⟨rfl, rfl⟩ := cc
              rw [I.a1 _ _ _ m] at hn
              cases hn
          · injection m with m1 m
            injection m with m2 m3
            subst m1 m2 m3
            rw [if_pos ⟨rfl, rfl⟩]
    · obtain ⟨o1, o2, o3, k1, k2, rfl, bb, g1, g2, I⟩ := hJ
      exact q .non _ (exb _ bb) (.inl ⟨rfl, I.no⟩)
abbrev s_put_for_graphs : Stmt := (top 26)
abbrev N_put_for_graphs : List Str := ["knot", "old", "new"]
theorem sc_put_for_graphs : FnScope ["knot", "old", "new"] ["knot", "old", "new"] (defScope s_put_for_graphs) := ⟨rfl, rfl, rfl, by decide +kernel, rfl, by decide +kernel, by decide +kernel⟩
theorem b_put_for_graphs : BindsP "put_for" "put_for" s_put_for_graphs ["knot", "old", "new"] := fun _ _ _ _ _ _ us hl => match us, hl with | [_, _, _], _ => rfl
theorem ok_put_for_graphs (T : Txt K mg c) : Ok P w K mg base CX0 1 "put_for_graphs" ["knot", "old", "new"] (spF (fun p : Nat × Nat × Nat => [IsI (p.1 : Int), IsI (p.2.1 : Int), IsI (p.2.2 : Int)]) (fun _ => True) (fun p => IsI (put p.2.2 p.2.1 p.1 : Nat))) := by
  refine T.put_for_graphs.ok sc_put_for_graphs b_put_for_graphs (fun vs H Q E h => ?_) (fun f cdv A outer s H vs Q E hr h => ⟨_, (pss_one (ps_ret (pe_ifExp (pt_cmpR op_eq (pv 0) (pv 1) (nomark _)) (pv 2) (pv 0)))), ?_⟩)
  · obtain ⟨n, _, r, _⟩ := h; exact all_len r
  · obtain ⟨⟨a, b, d⟩, _, ra, q⟩ := h
    obtain ⟨v1, v2, v3, rfl, r1, r2, r3⟩ := all3 ra
    cases r1; cases r2; cases r3
    refine st_ret (er_if (R := IsI (put d b a : Nat)) (et_is (et_test (er_eq (er_n a rfl) (er_n b rfl) rfl)) int_eq) (fun hb => ?_) fun hb => ?_) fun v H2 e2 r => q v H2 e2 r
    · have hb := of_decide_eq_true hb
      unfold put
      rw [if_pos hb]
      exact er_n d rfl
    · have hb := of_decide_eq_false hb
      unfold put
      rw [if_neg hb]
      exact er_n a rfl
abbrev s_made_one : Stmt := (top 28)
abbrev N_made_one : List Str := ["threads", "old", "new", "begin", "finger", "end"]
theorem sc_made_one : FnScope ["threads", "old", "new", "begin", "finger", "end"] ["threads", "old", "new"] (defScope s_made_one) := ⟨rfl, rfl, rfl, by decide +kernel, rfl, by decide +kernel, by decide +kernel⟩
theorem b_made_one : BindsP "made_one" "made_one" s_made_one ["threads", "old", "new"] := fun _ _ _ _ _ _ us hl => match us, hl with | [_, _, _], _ => rfl
def putT (lo hi : Nat) (t : Tri) : Tri := (put lo hi t.1, t.2.1, put lo hi t.2.2)
theorem ok_made_one (T : Txt K mg c) : Ok P w K mg base CX0 2 "made_one" ["threads", "old", "new"] (spF (fun p : List Tri × Nat × Nat => [LstOf TriR p.1, IsI (p.2.1 : Int), IsI (p.2.2 : Int)]) (fun p => p.1.length ≤ 1000000) (fun p => Unl (p.1.map (putT p.2.2 p.2.1)))) := by
  refine T.made_one.ok sc_made_one b_made_one (fun vs H Q E h => ?_) (fun f cdv A outer s H vs Q E hr h => ⟨_, (pss_one (ps_ret (pcall (ok_unlike T) (hr.mono (by decide)) rfl pass0 (pa_cons (pe_lc (own := [("begin", 3), ("finger", 4), ("end", 5)]) rfl sc_made_one.nd (pi_list (pv 0)) (blkOk_by (own := [("begin", 3), ("finger", 4), ("end", 5)]) (N := N_made_one) (sc := defScope s_made_one) (by decide +kernel)) (fun _ _ _ _ _ => (pg_tupK (K := K) (n := 3) rfl rfl (pgs_cons (pg_name (i := 3) sc_made_one.nd rfl (.inl rfl)) (pgs_cons (pg_name (i := 4) sc_made_one.nd rfl (.inl rfl)) (pgs_cons (pg_name (i := 5) sc_made_one.nd rfl (.inl rfl)) pgs_nil))))) (fun _ _ _ _ _ => pts_nil) (fun _ _ _ _ _ => (pe_tup (pa_cons (pcall (ok_put_for_graphs T) (hr.mono (by decide)) rfl pass0 (pa_cons (pv 3) (pa_cons (pv 1) (pa_cons (pv 2) pa_nil)))) (pa_cons (pv 4) (pa_cons (pcall (ok_put_for_graphs T) (hr.mono (by decide)) rfl pass0 (pa_cons (pv 5) (pa_cons (pv 1) (pa_cons (pv 2) pa_nil)))) pa_nil)))))) pa_nil)))), ?_⟩)
  · obtain ⟨n, _, r, _⟩ := h; exact all_len r
  · obtain ⟨⟨E0, hi, lo⟩, hz, ra, q⟩ := h
    dsimp only at ra q hz
    obtain ⟨v1, v2, v3, rfl, r1, r2, r3⟩ := all3 ra
    cases r2; cases r3
    refine st_ret (er_call (E0.map (putT lo hi)) (ea1 (er_lcA (S := TriR) (R := TriR) (as := E0) (er_var (R := LstOf TriR E0) r1 rfl) hz (putT lo hi) fun t ht x H1 e s => ?_)) (by rw [List.length_map]; exact hz)) fun v H2 e2 r => q v H2 e2 r
    refine ⟨_, fun H2 e2 Q hQ => g_tri (rmono (TriR t) e2 s) hQ, rfl, ?_⟩
    exact er_T (xs := [.int (put lo hi t.1 : Nat), .int (t.2.1 : Nat), .int (put lo hi t.2.2 : Nat)]) (ea_cons (er_call (t.1, hi, lo) (ea_cons (er_n t.1 rfl) (ea2 (er_n hi rfl) (er_n lo rfl))) trivial)
      (ea_cons (er_n t.2.1 rfl) (ea1 (er_call (t.2.2, hi, lo) (ea_cons (er_n t.2.2 rfl) (ea2 (er_n hi rfl) (er_n lo rfl))) trivial)))) (show 3 ≤ 1000 by decide)
/-- the threads of the folded graph -/
def GraphR (ws : List (List Nat)) : Rel := fun v H => ∃ T, Folded (loopsT ws) T ∧ T.Nodup ∧ T.length ≤ total ws ∧ LstOf TriR T v H
instance (ws : List (List Nat)) : Mono (GraphR ws) := ⟨fun {v H H'} e ⟨T', a, b, l, r⟩ => ⟨T', a, b, l, rmono (LstOf TriR T') e r⟩⟩
theorem loops_knots {T : List Tri} : ∀ {ws : List (List Nat)} {N : Nat}, (∀ a f b, (a, f, b) ∈ T → a ≤ N ∧ b ≤ N) → T.length ≤ N → ∀ a f b, (a, f, b) ∈ ws.foldl loopsStep T → a ≤ N + total ws ∧ b ≤ N + total ws := by
  intro ws
  induction ws generalizing T with
  | nil => intro N h _ a f b m; have := h a f b m; simp [total]; exact this
  | cons w ws ih =>
    intro N h hl a f b m
    rw [List.foldl_cons] at m
    have tl := taut_length w
    rw [total_cons]
    have z := @ih (loopsStep T w) (N + w.length) (fun a f b m => ?_) ?_ a f b m
    · omega
    · unfold loopsStep at m
      by_cases h0 : 0 < (Vbcjai.taut w).length
      · rw [if_pos h0, List.mem_append] at m
        rcases m with m | m
        · have := h a f b m; omega
        · unfold loopT at m
          obtain ⟨k, hk, ek⟩ := List.mem_map.mp m
          have hk := List.mem_range.mp hk
          have b1 : ∀ j, j ≤ (Vbcjai.taut w).length → knotAt (Vbcjai.taut w).length (1 + T.length) j ≤ N + w.length := by
            intro j hj
            unfold knotAt
            split <;> omega
          have b2 := b1 k (by omega)
          have b3 := b1 (k + 1) (by omega)
          unfold threadT at ek
          split at ek
          · injection ek with e1 ek; injection ek with e2 e3
            omega
          · injection ek with e1 ek; injection ek with e2 e3
            omega
      · rw [if_neg h0] at m
        have := h a f b m; omega
    · unfold loopsStep
      split
      · rw [List.length_append, loopT_length]; omega
      · omega
abbrev s_graph_of : Stmt := (top 29)
abbrev N_graph_of : List Str := ["moves", "threads", "both"]
theorem sc_graph_of : FnScope ["moves", "threads", "both"] ["moves"] (defScope s_graph_of) := ⟨rfl, rfl, rfl, by decide +kernel, rfl, by decide +kernel, by decide +kernel⟩
theorem b_graph_of : BindsP "graph_of" "graph_of" s_graph_of ["moves"] := fun _ _ _ _ _ _ us hl => match us, hl with | [_], _ => rfl
theorem ok_graph_of (T : Txt K mg c) : Ok P w K mg base CX0 5 "graph_of" ["moves"] (spF (fun ws : List (List Nat) => [Cords ws]) (fun ws => total ws ≤ 100000) (fun ws => GraphR ws)) := by
  refine T.graph_of.ok sc_graph_of b_graph_of (fun vs H Q E h => ?_) (fun f cdv A outer s H vs Q E hr h => (have hu64 := hu64_of hr; ⟨_, (pss_cons (ps_set (i := 1) sc_graph_of.nd rfl (.inl rfl) (pcall (ok_unlike T) (hr.mono (by decide)) rfl pass0 (pa_cons (pcall (ok_loops_of T) (hr.mono (by decide)) rfl pass0 (pa_cons (pv 0) pa_nil)) pa_nil)))
      (pss_cons (ps_set (i := 2) sc_graph_of.nd rfl (.inl rfl) (pcall (ok_clash T) (hr.mono (by decide)) rfl pass0 (pa_cons (pv 1) pa_nil)))
      (pss_cons (ps_while PassesOwn.never (pt_cmpR op_notN (pv 2) pe_non (nomark _)) (pss_cons (ps_set (i := 1) sc_graph_of.nd rfl (.inl rfl) (pcall (ok_made_one T) (hr.mono (by decide)) rfl pass0 (pa_cons (pv 1) (pa_cons (pe_callB (cr_maxT rfl hu64) (by rfl) T.max boot_max (pa_cons (pv 2) pa_nil)) (pa_cons (pe_callB (cr_minT rfl hu64) (by rfl) T.min boot_min (pa_cons (pv 2) pa_nil)) pa_nil)))))
      (pss_one (ps_set (i := 2) sc_graph_of.nd rfl (.inl rfl) (pcall (ok_clash T) (hr.mono (by decide)) rfl pass0 (pa_cons (pv 1) pa_nil))))))
      (pss_one (ps_ret (pv 1)))))), ?_⟩))
  · obtain ⟨n, _, r, _⟩ := h; exact all_len r
  · obtain ⟨ws, hz, ra, q⟩ := h
    obtain ⟨mv, rfl, r⟩ := all1 ra
    have ll := loops_len ws []
    have hll : (loopsT ws).length ≤ total ws := by have : (loopsT ws).length ≤ 0 + total ws := ll; omega
    have kn : ∀ a f b, (a, f, b) ∈ loopsT ws → a < total ws + 1 ∧ b < total ws + 1 := fun a f b m => by
      have := loops_knots (T := []) (ws := ws) (N := 0) (fun _ _ _ m => nomatch m) (Nat.le_refl _) a f b m
      omega
    refine st_seq (st_asg (er_call (loopsT ws) (ea1 (er_call ws (ea1 (er_var (R := Cords ws) r rfl)) hz)) (Nat.le_trans hll (Nat.le_trans hz (by decide)))) fun tv H1 e1 r1 => ?_)
    obtain ⟨T0, nd0, m0, l0, r0⟩ := r1
    dsimp only
    refine st_seq (st_asg (er_call T0 (ea1 (er_var (R := LstOf TriR T0) r0 rfl)) (by omega)) fun bv H2 e2 r2 => ?_)
    refine st_seq (Evl.s_while (fun m σ' H' => ∃ tv bv E1 r, σ' = [some mv, some tv, some bv] ∧ Ex H H' ∧ Col (loopsT ws) r E1 ∧ E1.Nodup ∧ E1.length ≤ total ws ∧ LstOf TriR E1 tv H' ∧ ClashR E1 bv H' ∧ m = fixedBelow (total ws + 1) r) _
      ⟨tv, bv, T0, id, rfl, e1.trans e2, .start m0, nd0, Nat.le_trans l0 hll, rmono (LstOf TriR T0) e2 r0, r2, rfl⟩ (fun m σ' H' hW => ?_))
    obtain ⟨tv, bv, E1, r, rfl, ex, C, nd, l1, rT, rB, rfl⟩ := hW
    rcases rB with ⟨rfl, no⟩ | ⟨x, y, cl, rB⟩
    · refine ⟨false, et_test (er_is (er_notN (er_v (v := .non) rfl)) rfl), (fun z => nomatch z), fun _ H3 e3 => ?_⟩
      exact st_ret (er_var (R := LstOf TriR E1) (rmono (LstOf TriR E1) e3 rT) rfl) fun v H4 e4 r4 => q v H4 ((ex.trans e3).trans e4) ⟨E1, ⟨⟨r, C⟩, no⟩, nd, l1, r4⟩
    · obtain ⟨pb, rfl, hpb⟩ := rB
      have ord : Clash E1 (min x y) (max x y) := by
        rcases Nat.lt_or_ge x y with h | h
        · rw [Nat.min_eq_left (Nat.le_of_lt h), Nat.max_eq_right (Nat.le_of_lt h)]; exact cl
        · rw [Nat.min_eq_right h, Nat.max_eq_left h]; exact cl.symm
      have lt : min x y < max x y := by have := cl.1; omega
      have below : max x y < total ws + 1 := by
        have inE : ∀ z, (∃ f v, (z, f, v) ∈ E1 ∨ (v, f, z) ∈ E1) → z < total ws + 1 := by
          rintro z ⟨f, v, m | m⟩
          · obtain ⟨a, b, m', e, _⟩ := (C.mem _ _ _).mp m
            have := C.le a
            have := (kn _ _ _ m').1
            omega
          · obtain ⟨a, b, m', _, e⟩ := (C.mem _ _ _).mp m
            have := C.le b
            have := (kn _ _ _ m').2
            omega
        refine inE _ ?_
        rcases ord.2 with ⟨u, f, _, m⟩ | ⟨v, f, _, m⟩
        · exact ⟨f, u, .inr m⟩
        · exact ⟨f, v, .inl m⟩
      refine ⟨true, et_test (er_is (er_notN (er_v (v := .ref pb) rfl)) rfl), fun _ H3 e3 => ?_, (fun z => nomatch z)⟩
      refine ⟨_, fun σ2 H2 h => h, ?_⟩
      have pr : ∀ H', Ex H3 H' → ER (tVar 2) [some mv, some tv, some (V.ref pb)] H' (IsT [.int (x : Int), .int (y : Int)]) := fun H' e => er_var (R := IsT [.int (x : Int), .int (y : Int)]) ⟨pb, rfl, e _ _ (e3 _ _ hpb)⟩ rfl
      have cmx : (max (x : Int) (y : Int)) = ((max x y : Nat) : Int) := by omega
      have cmn : (min (x : Int) (y : Int)) = ((min x y : Nat) : Int) := by omega
      refine st_seq (st_asg (er_call (E1, max x y, min x y) (ea_cons (er_var (R := LstOf TriR E1) (rmono (LstOf TriR E1) e3 rT) rfl) (ea2 (er_is (er_max (pr _ Ex.rfl)) (by rw [cmx])) (er_is (er_min (pr _ Ex.rfl)) (by rw [cmn])))) (by dsimp only; omega)) fun tv2 H4 e4 r4 => ?_)
      obtain ⟨E2, nd2, m2, l2, r2'⟩ := r4
      dsimp only at l2 m2
      dsimp only
      refine st_asg (er_call E2 (ea1 (er_var (R := LstOf TriR E2) r2' rfl)) (by rw [List.length_map] at l2; omega)) fun bv2 H5 e5 r5 => ?_
      have C2 := C.step (T' := E2) ord lt fun u f v => by
        rw [m2, List.mem_map]
        constructor
        · rintro ⟨⟨a, f', b⟩, ha, e⟩
          injection e with e1 e; injection e with e2 e3
          subst e2
          exact ⟨a, b, ha, e1, e3⟩
        · rintro ⟨a, b, ha, rfl, rfl⟩
          exact ⟨_, ha, rfl⟩
      exact ⟨_, fixed_step C ord lt below, tv2, bv2, E2, _, rfl, (((ex.trans e3).trans e4).trans e5), C2, nd2, by rw [List.length_map] at l2; omega, rmono (LstOf TriR E2) e5 r2', r5, rfl⟩
end
end Fc
set_option maxRecDepth 100000
set_option maxHeartbeats 2000000
namespace Fc
open PySem PySem.Spec PyProof.Rows L2
theorem NoClash.sub {S T : List Tri} (n : NoClash T) (s : ∀ e ∈ S, e ∈ T) : NoClash S := fun x y ⟨ne, c⟩ => n x y ⟨ne, by
  rcases c with ⟨u, f, m1, m2⟩ | ⟨v, f, m1, m2⟩
  · exact .inl ⟨u, f, s _ m1, s _ m2⟩
  · exact .inr ⟨v, f, s _ m1, s _ m2⟩⟩
theorem stepT_snoc {S : List Tri} {be f en : Nat} (n : NoClash (S ++ [(be, f, en)])) (u x : Nat) : stepT (S ++ [(be, f, en)]) u x = if u = en ∧ x = 2 * f + 1 then some be else if u = be ∧ x = 2 * f then some en else stepT S u x := by
  have hm : (be, f, en) ∈ S ++ [(be, f, en)] := by simp
  by_cases c1 : u = en ∧ x = 2 * f + 1
  · obtain ⟨rfl, rfl⟩ := c1
    rw [if_pos ⟨rfl, rfl⟩]
    refine (stepT_iff n).mpr ?_
    unfold Leads
    rw [if_neg (by omega), show (2 * f + 1) / 2 = f by omega]
    exact hm
  · rw [if_neg c1]
    by_cases c2 : u = be ∧ x = 2 * f
    · obtain ⟨rfl, rfl⟩ := c2
      rw [if_pos ⟨rfl, rfl⟩]
      refine (stepT_iff n).mpr ?_
      unfold Leads
      rw [if_pos (by omega), show 2 * f / 2 = f by omega]
      exact hm
    · rw [if_neg c2]
      have nS : NoClash S := n.sub fun e h => List.mem_append_left _ h
      have key : ∀ v, stepT (S ++ [(be, f, en)]) u x = some v ↔ stepT S u x = some v := by
        intro v
        rw [stepT_iff n, stepT_iff nS]
        unfold Leads
        split
        · rename_i h2
          rw [List.mem_append, List.mem_singleton]
          constructor
          · rintro (m | m)
            · exact m
            · injection m with e1 m; injection m with e2 e3
              exact absurd ⟨e1, by omega⟩ c2
          · exact .inl
        · rename_i h2
          rw [List.mem_append, List.mem_singleton]
          constructor
          · rintro (m | m)
            · exact m
            · injection m with e1 m; injection m with e2 e3
              exact absurd ⟨e3, by omega⟩ c1
          · exact .inl
      cases h1 : stepT S u x with
      | some v => exact (key v).mpr h1
      | none =>
        cases h2 : stepT (S ++ [(be, f, en)]) u x with
        | none => rfl
        | some v => rw [(key v).mp h2] at h1; cases h1
def optV : Option Nat → V
  | none => .non
  | some x => .int (x : Int)
/-- where turns lead, as a dict -/
abbrev LdR (g : Nat → Nat → Option Nat) : Rel := DT fun u x => (g u x).map fun v : Nat => V.int (v : Int)
theorem put_keys {κ : Type} {β : Type} [DecidableEq κ] {key : β → κ} (inj : ∀ a b, key a = key b → a = b) {A : List β} {acc : List (κ × V)} (b : β) (v : V) (h : acc.map (·.1) = A.map key) (nd : A.Nodup) :
    ∃ A' : List β, (putK acc (key b) v).map (·.1) = A'.map key ∧ A'.Nodup ∧ (∀ e, e ∈ A' ↔ e ∈ A ∨ e = b) ∧ A'.length ≤ A.length + 1 := by
  have has : (acc.any fun kv => decide (kv.1 = key b)) = true ↔ b ∈ A := by
    have z : (acc.any fun kv => decide (kv.1 = key b)) = (acc.map (·.1)).any fun k => decide (k = key b) := by rw [List.any_map]; rfl
    rw [z, h, List.any_map]
    constructor
    · intro q
      obtain ⟨a, ha, e⟩ := List.any_eq_true.mp q
      have e' : key a = key b := of_decide_eq_true e
      rw [← inj _ _ e']
      exact ha
    · intro q
      exact List.any_eq_true.mpr ⟨b, q, decide_eq_true rfl⟩
  by_cases hb : b ∈ A
  · refine ⟨A, ?_, nd, fun e => ⟨.inl, fun q => q.elim id fun q => q ▸ hb⟩, by omega⟩
    unfold putK
    rw [if_pos (has.mpr hb), ← h, List.map_map]
    refine List.map_congr_left fun kv _ => ?_
    show (if kv.1 = key b then (kv.1, v) else kv).1 = kv.1
    split <;> rfl
  · refine ⟨A ++ [b], ?_, ?_, fun e => by rw [List.mem_append, List.mem_singleton], by simp⟩
    · unfold putK
      rw [if_neg (fun q => hb (has.mp q)), List.map_append, List.map_append, h]
      rfl
    · rw [List.nodup_append]
      refine ⟨nd, by simp, fun x hx y hy => ?_⟩
      rw [List.mem_singleton.mp hy]
      rintro rfl
      exact hb hx
def k1 (u : Nat) : Key := .inl (u : Int)
theorem k1_inj (a b : Nat) (h : k1 a = k1 b) : a = b := by
  unfold k1 at h
  injection h with h
  exact Int.ofNat.inj h
/-- the knots, each once -/
def KnR (T : List Tri) : Rel := fun v H => ∃ N, KnotsOf T N ∧ N.length ≤ 2 * T.length + 1 ∧ IsN N v H
instance (T : List Tri) : Mono (KnR T) := ⟨fun {v H H'} e ⟨N, a, l, r⟩ => ⟨N, a, l, rmono (IsN N) e r⟩⟩
def FullR (T : List Tri) (n : Nat) : Rel := fun v _ => ∃ N, KnotsOf T N ∧ v = .bl (fullT T n N)
section
variable {K : PySem.W.Frag} {σ : L2.St} {H H' : Hp} {ta tb te tc tl ty tv : TE} {t u : TT} {x y z v : V} {R Ra Rb : Rel} {D : Ends} {tu tw : TS}
theorem st_newD {n : Nat} (k : ∀ p H1, Ex H H1 → H p = none → H1 p = some (.dT []) → D.nx (σ.set n (some (.ref p))) H1) : tAsg tDNewT (gName n) D σ H :=
  fun p hp => k p _ (Evl.Ex.new hp) hp upd_same
theorem er_cR (R : Rel) [m : Mono R] (r : R v H) : ER (tC v) σ H R := fun H1 e _ q => q v H1 Ex.rfl (m.mono e r)
theorem er_src {R' : Rel} {g : TG} {tt : TT} {vs : List Nat} (h : ER tl σ H R) (k : ∀ v H1, Ex H H1 → R v H1 → ER (tLc (iList K (tC v)) g tt te vs) σ H1 R') : ER (tLc (iList K tl) g tt te vs) σ H R' := fun H0 e Q q =>
  h H0 e _ fun v H1 e1 r => k v H1 (e.trans e1) r H1 Ex.rfl Q fun w H2 e2 r2 => q w H2 (e1.trans e2) r2
theorem st_src {g : TG} (h : ER tl σ H R) (k : ∀ v H1, Ex H H1 → R v H1 → tFor (iList K (tC v)) g tu D σ H1) : tFor (iList K tl) g tu D σ H := h H Ex.rfl _ fun v H1 e r => k v H1 e r
/-- all(..), any(..) of what's told later -/
theorem er_allX {S : List Bool → Prop} (h : ER te σ H (fun v H1 => ∃ bs, S bs ∧ IsL (bs.map V.bl) v H1)) : ER (tCB (rAll K) (tCons te tNil)) σ H (fun v _ => ∃ bs, S bs ∧ v = .bl (bs.all id)) := fun H1 e Q q =>
  h H1 e _ fun v H2 e2 ⟨bs, s, p, ep, hp⟩ => ⟨p, bs, by rw [ep], .of hp, q _ H2 e2 ⟨bs, s, rfl⟩⟩
theorem er_key {i j m n : Nat} (h1 : σ[i]? = some (some (.int (m : Int)))) (h2 : σ[j]? = some (some (.int (n : Int)))) : ER (tTup (tCons (tVar i) (tCons (tVar j) tNil))) σ H (IsP m n) := er_T (xs := [.int (m : Int), .int (n : Int)]) (ea2 (er_n m h1) (er_n n h2)) (show 2 ≤ 1000 by decide)
theorem er_pair {m n : Nat} (h1 : ER ta σ H (IsI (m : Int))) (h2 : ER tb σ H (IsI (n : Int))) : ER (tTup (tCons ta (tCons tb tNil))) σ H (IsP m n) := er_T (xs := [.int (m : Int), .int (n : Int)]) (ea2 h1 h2) (show 2 ≤ 1000 by decide)
end
section
variable {P : Program} {w : World} {K : PySem.W.Frag} {mg : Str → Option Value} {base : Heap} {c : Cl3}
abbrev s_leads_of : Stmt := (top 30)
abbrev N_leads_of : List Str := ["threads", "leads", "begin", "finger", "end"]
theorem sc_leads_of : FnScope ["threads", "leads", "begin", "finger", "end"] ["threads"] (defScope s_leads_of) := ⟨rfl, rfl, rfl, by decide +kernel, rfl, by decide +kernel, by decide +kernel⟩
theorem b_leads_of : BindsP "leads_of" "leads_of" s_leads_of ["threads"] := fun _ _ _ _ _ _ us hl => match us, hl with | [_], _ => rfl
theorem ok_leads_of (T : Txt K mg c) : Ok P w K mg base CX0 1 "leads_of" ["threads"] (spF (fun T : List Tri => [LstOf TriR T]) (fun T => NoClash T ∧ T.length ≤ 400000) (fun T => LdR (stepT T))) := by
  refine T.leads_of.ok sc_leads_of b_leads_of (fun vs H Q E h => ?_) (fun f cdv A outer s H vs Q E hr h => ⟨_, (pss_cons (ps_set (i := 1) sc_leads_of.nd rfl (.inl rfl) pe_dnewT)
      (pss_cons (ps_for PassesOwn.never rfl (pi_list (pv 0)) (pg_tupK (K := K) (n := 3) rfl rfl (pgs_cons (pg_name (i := 2) sc_leads_of.nd rfl (.inl rfl)) (pgs_cons (pg_name (i := 3) sc_leads_of.nd rfl (.inl rfl)) (pgs_cons (pg_name (i := 4) sc_leads_of.nd rfl (.inl rfl)) pgs_nil)))) (pss_cons (ps_dput (hu_of hr) (pv 1) (pe_tup (pa_cons (pv 2) (pa_cons (pe_op op_mul pe_int (pv 3)) pa_nil))) (pv 4) rfl)
      (pss_one (ps_dput (hu_of hr) (pv 1) (pe_tup (pa_cons (pv 4) (pa_cons (pe_op op_add (pe_op op_mul pe_int (pv 3)) pe_int) pa_nil))) (pv 2) rfl))))
      (pss_one (ps_ret (pv 1))))), ?_⟩)
  · obtain ⟨n, _, r, _⟩ := h; exact all_len r
  · obtain ⟨E0, ⟨no, hz⟩, ra, q⟩ := h
    obtain ⟨mv, rfl, r⟩ := all1 ra
    obtain ⟨pT, xsT, rfl, hpT, prT⟩ := id r
    refine st_seq (st_newD fun d H1 e1 n1 h1 => ?_)
    have exb : ∀ H', ExB [d] H1 H' → Ex H H' := fun H' b => ExB.ex e1 b fun l m => by rw [List.mem_singleton.mp m]; exact n1
    dsimp only
    refine st_seq (st_listK (S := TriR) (bs := E0) (H0 := H) (p := pT) (er_ref rfl) r e1
      (fun i σ' H' => ∃ o1 o2 o3 k, σ' = [some (.ref pT), some (.ref d), o1, o2, o3] ∧ ExB [d] H1 H' ∧ H' d = some (.dT k) ∧ k.length ≤ 2 * i ∧ ∀ u x, valV k (nk u x) = (stepT (E0.take i) u x).map fun v : Nat => V.int (v : Int))
      (fun H2 e2 => ⟨_, _, _, [], rfl, .of e2, e2 _ _ h1, Nat.le_refl _, fun u x => ?_⟩)
      (fun i σ' H' ⟨_, _, _, _, _, b, _⟩ => exb _ b) (fun i b x σ' H' hb hx hJ => ?_) fun σ' H' hJ => ?_)
    · rw [List.take_zero]
      unfold stepT
      split <;> rfl
    · obtain ⟨o1, o2, o3, k, rfl, bb, g1, lk, I⟩ := hJ
      obtain ⟨be, fi, en⟩ := b
      have hi : i < E0.length := (List.getElem?_eq_some_iff.mp hb).1
      have tk : E0.take (i + 1) = E0.take i ++ [(be, fi, en)] := by rw [List.take_add_one, hb]; rfl
      refine g_tri hx ?_
      refine st_seq (st_dput (v := .int (en : Int)) (u := be) (f := 2 * fi) (er_n en rfl) (er_ref rfl) g1 (er_pair (er_n be rfl) (er_twice (er_n fi rfl))) (by omega) fun H2 e2 => ?_)
      have l1 := length_putK k (nk be (2 * fi)) (.int (en : Int))
      refine st_dput (v := .int (be : Int)) (u := en) (f := 2 * fi + 1) (er_n be rfl) (er_ref rfl) upd_same (er_pair (er_n en rfl) (er_add (er_twice (er_n fi rfl)) er_c)) (by omega) fun H3 e3 => ?_
      have l2 := length_putK (putK k (nk be (2 * fi)) (.int (en : Int))) (nk en (2 * fi + 1)) (.int (be : Int))
      refine ⟨_, _, _, _, rfl, (((bb.more e2).trans (.upd (by simp))).more e3).trans (.upd (by simp)), upd_same, by omega, fun u x => ?_⟩
      have nS : NoClash (E0.take i ++ [(be, fi, en)]) := by
        rw [← tk]
        exact no.sub fun e h => List.mem_of_mem_take h
      rw [tk, stepT_snoc nS, valV_nk, valV_nk, I]
      split
      · rfl
      · split <;> rfl
    · obtain ⟨o1, o2, o3, k, rfl, bb, g1, lk, I⟩ := hJ
      rw [List.take_length] at I
      exact st_ret (er_var (R := LdR (stepT E0)) ⟨d, k, rfl, g1, I⟩ rfl) fun v H2 e2 r2 => q v H2 ((exb _ bb).trans e2) r2
abbrev s_end_of : Stmt := (top 31)
abbrev N_end_of : List Str := ["leads", "taut", "knot", "turn"]
theorem sc_end_of : FnScope ["leads", "taut", "knot", "turn"] ["leads", "taut"] (defScope s_end_of) := ⟨rfl, rfl, rfl, by decide +kernel, rfl, by decide +kernel, by decide +kernel⟩
theorem b_end_of : BindsP "end_of" "end_of" s_end_of ["leads", "taut"] := fun _ _ _ _ _ _ us hl => match us, hl with | [_, _], _ => rfl
theorem ok_end_of (T : Txt K mg c) : Ok P w K mg base CX0 1 "end_of" ["leads", "taut"] (spF (fun p : (Nat → Nat → Option Nat) × List Nat => [LdR p.1, IsN p.2]) (fun _ => True) (fun p => IsV (optV (pathT p.1 0 p.2)))) := by
  refine T.end_of.ok sc_end_of b_end_of (fun vs H Q E h => ?_) (fun f cdv A outer s H vs Q E hr h => ⟨_, (pss_cons (ps_set (i := 2) sc_end_of.nd rfl (.inl rfl) pe_int)
      (pss_cons (ps_for PassesOwn.never rfl (pi_list (pv 1)) (pg_name (i := 3) sc_end_of.nd rfl (.inl rfl)) (pss_cons (ps_if (pt_cmp (pc_dnotin (hu_of hr) (pe_tup (pa_cons (pv 2) (pa_cons (pv 3) pa_nil))) (pv 0))) (pss_one (ps_ret pe_non)) pss_nil)
      (pss_one (ps_set (i := 2) sc_end_of.nd rfl (.inl rfl) (pe_dget (hu_of hr) (pv 0) (pe_tup (pa_cons (pv 2) (pa_cons (pv 3) pa_nil))) (fun _ _ => rfl))))))
      (pss_one (ps_ret (pv 2))))), ?_⟩)
  · obtain ⟨n, _, r, _⟩ := h; exact all_len r
  · obtain ⟨⟨g, ws⟩, _, ra, q⟩ := h
    dsimp only at ra q
    obtain ⟨v1, v2, rfl, r1, r2⟩ := all2 ra
    refine st_seq (st_asg (er_c (v := .int 0)) fun v H1 e1 rv => ?_)
    have ev : v = .int ((0 : Nat) : Int) := rv
    subst ev
    dsimp only
    refine st_seq (st_listX (S := fun x : Nat => IsI (x : Int)) (bs := ws) (er_var (R := LstOf (fun x : Nat => IsI (x : Int)) ws) (isL_of (rmono (IsN ws) e1 r2)) rfl)
      (fun H2 i σ' H' => ∃ (k : Nat) (o : Option V), σ' = [some v1, some v2, some (.int (k : Int)), o] ∧ Ex H2 H' ∧ pathT g 0 (ws.take i) = some k)
      (fun H2 e2 => ⟨0, _, rfl, Ex.rfl, rfl⟩) (fun _ _ _ _ ⟨_, _, _, e, _⟩ => e) (fun H2 i m x σ' H' e2 hb hm hJ => ?_) fun H2 σ' H' e2 hJ => ?_)
    · obtain ⟨k, o, rfl, ex, hk⟩ := hJ
      cases hm
      have spl : ws = ws.take i ++ m :: ws.drop (i + 1) := by
        have hi : i < ws.length := (List.getElem?_eq_some_iff.mp hb).1
        have e : ws[i] = m := (List.getElem?_eq_some_iff.mp hb).2
        rw [← e, ← List.drop_eq_getElem_cons hi, List.take_append_drop]
      have rl : ∀ H3, Ex H' H3 → LdR g v1 H3 := fun H3 e3 => rmono (LdR g) (((e1.trans e2).trans ex).trans e3) r1
      have ld : ∀ H3, Ex H' H3 → ER (tVar 0) [some v1, some v2, some (V.int (k : Int)), some (V.int (m : Int))] H3 (LdR g) := fun H3 e3 => er_var (R := LdR g) (rl H3 e3) rfl
      refine st_seq (st_if (et_B (er_notinD (er_key (m := k) (n := m) rfl rfl) (ld _ Ex.rfl))) (fun hc H3 e3 => ?_) fun hc H3 e3 => ?_)
      · refine q .non H3 ((((e1.trans e2).trans ex)).trans e3) ?_
        have hn : g k m = none := by
          cases hg : g k m with
          | none => rfl
          | some y => rw [hg] at hc; cases hc
        show V.non = optV _
        rw [spl, pathT_append, hk]
        show V.non = optV ((g k m).bind _)
        rw [hn]
        rfl
      · obtain ⟨y, hy⟩ : ∃ y, g k m = some y := by
          cases hg : g k m with
          | none => rw [hg] at hc; cases hc
          | some y => exact ⟨y, rfl⟩
        refine st_asg (er_getT (v := .int (y : Int)) (ld _ e3) (er_key (m := k) (n := m) rfl rfl) (by rw [hy]; rfl)) fun v H4 e4 rv => ⟨y, some (.int (m : Int)), ?_, (ex.trans e3).trans e4, ?_⟩
        · rw [show v = _ from rv]
          rfl
        · rw [List.take_add_one, hb, pathT_append, hk]
          show (g k m).bind _ = some y
          rw [hy]
          rfl
    · obtain ⟨k, o, rfl, ex, hk⟩ := hJ
      rw [List.take_length] at hk
      refine st_ret (er_n k rfl) fun v H3 e3 rv => q v H3 ((((e1.trans e2).trans ex)).trans e3) ?_
      rw [hk]
      exact rv
abbrev s_is_made : Stmt := (top 32)
abbrev N_is_made : List Str := ["leads", "cord"]
theorem sc_is_made : FnScope ["leads", "cord"] ["leads", "cord"] (defScope s_is_made) := ⟨rfl, rfl, rfl, by decide +kernel, rfl, by decide +kernel, by decide +kernel⟩
theorem b_is_made : BindsP "is_made" "is_made" s_is_made ["leads", "cord"] := fun _ _ _ _ _ _ us hl => match us, hl with | [_, _], _ => rfl
theorem ok_is_made (T : Txt K mg c) : Ok P w K mg base CX0 3 "is_made" ["leads", "cord"] (spF (fun p : (Nat → Nat → Option Nat) × List Nat => [LdR p.1, IsN p.2]) (fun p => p.2.length ≤ 1000000) (fun p => IsB (decide (pathT p.1 0 (Vbcjai.taut p.2) = some 0)))) := by
  refine T.is_made.ok sc_is_made b_is_made (fun vs H Q E h => ?_) (fun f cdv A outer s H vs Q E hr h => ⟨_, (pss_one (ps_ret (pe_cmpR op_eq (pcall (ok_end_of T) (hr.mono (by decide)) rfl pass0 (pa_cons (pv 0) (pa_cons (pcall (ok_pulled_taut T) (hr.mono (by decide)) rfl pass0 (pa_cons (pv 1) pa_nil)) pa_nil))) pe_int (nomark _)))), ?_⟩)
  · obtain ⟨n, _, r, _⟩ := h; exact all_len r
  · obtain ⟨⟨g, ws⟩, hz, ra, q⟩ := h
    dsimp only at ra q hz
    obtain ⟨v1, v2, rfl, r1, r2⟩ := all2 ra
    refine st_ret (er_eq (er_call (g, Vbcjai.taut ws) (ea2 (er_var (R := LdR g) r1 rfl) (er_call ws (ea1 (er_var (R := IsN ws) r2 rfl)) hz)) trivial) er_c ?_) fun v H2 e2 rv => q v H2 e2 ?_
    · show scal (optV _) (.int 0) = true
      cases pathT g 0 (Vbcjai.taut ws) <;> rfl
    · show v = _
      rw [show v = _ from rv]
      dsimp only
      cases pathT g 0 (Vbcjai.taut ws) with
      | none => rfl
      | some k =>
        have z := @int_eq k 0
        show V.bl (decide (V.int (k : Int) = V.int ((0 : Nat) : Int))) = _
        rw [z]
        congr 1
        by_cases c0 : k = 0
        · rw [c0]; rfl
        · rw [decide_eq_false c0, decide_eq_false (by simpa using c0)]
abbrev s_knots_of : Stmt := (top 33)
abbrev N_knots_of : List Str := ["threads", "found", "begin", "finger", "end"]
theorem sc_knots_of : FnScope ["threads", "found", "begin", "finger", "end"] ["threads"] (defScope s_knots_of) := ⟨rfl, rfl, rfl, by decide +kernel, rfl, by decide +kernel, by decide +kernel⟩
theorem b_knots_of : BindsP "knots_of" "knots_of" s_knots_of ["threads"] := fun _ _ _ _ _ _ us hl => match us, hl with | [_], _ => rfl
theorem ok_knots_of (T : Txt K mg c) : Ok P w K mg base CX0 1 "knots_of" ["threads"] (spF (fun T : List Tri => [LstOf TriR T]) (fun T => T.length ≤ 400000) (fun T => KnR T)) := by
  refine T.knots_of.ok sc_knots_of b_knots_of (fun vs H Q E h => ?_) (fun f cdv A outer s H vs Q E hr h => ⟨_, (pss_cons (ps_set (i := 1) sc_knots_of.nd rfl (.inl rfl) (pe_disp (pps_cons pe_int pe_bl pps_nil) (by rfl) (by rfl) (fun z => by cases z) (by decide)))
      (pss_cons (ps_for PassesOwn.never rfl (pi_list (pv 0)) (pg_tupK (K := K) (n := 3) rfl rfl (pgs_cons (pg_name (i := 2) sc_knots_of.nd rfl (.inl rfl)) (pgs_cons (pg_name (i := 3) sc_knots_of.nd rfl (.inl rfl)) (pgs_cons (pg_name (i := 4) sc_knots_of.nd rfl (.inl rfl)) pgs_nil)))) (pss_cons (ps_dput (hu_of hr) (pv 1) (pv 2) pe_bl rfl)
      (pss_one (ps_dput (hu_of hr) (pv 1) (pv 4) pe_bl rfl))))
      (pss_one (ps_ret (pe_callTy (call_list_dK rfl) (by rfl) T.list Pv.boot_list (pa_cons (pv 1) pa_nil)))))), ?_⟩)
  · obtain ⟨n, _, r, _⟩ := h; exact all_len r
  · obtain ⟨E0, hz, ra, q⟩ := h
    obtain ⟨mv, rfl, r⟩ := all1 ra
    obtain ⟨pT, xsT, rfl, hpT, prT⟩ := id r
    refine st_seq (show tAsg _ (gName 1) _ _ _ from fun d n1 => ?_)
    refine ⟨upd_same, [(.inl 0, .bl true)], rfl, by decide, ?_⟩
    have e1 : Ex H (upd (upd H d (.dK [])) d (.dK (mergeK [] [(.inl 0, .bl true)]))) := Evl.Ex.mut (Evl.Ex.new n1) n1
    have h1 : (upd (upd H d (.dK [])) d (.dK (mergeK [] [(.inl 0, .bl true)]))) d = some (.dK [(k1 0, .bl true)]) := upd_same
    generalize (upd (upd H d (.dK [])) d (.dK (mergeK [] [(.inl 0, .bl true)]))) = H1 at e1 h1
    show tSeq _ _ _ _ _
    have exb : ∀ H', ExB [d] H1 H' → Ex H H' := fun H' b => ExB.ex e1 b fun l m => by rw [List.mem_singleton.mp m]; exact n1
    refine st_seq (st_listK (S := TriR) (bs := E0) (H0 := H) (p := pT) (er_ref rfl) r e1
      (fun i σ' H' => ∃ o1 o2 o3 k A, σ' = [some (.ref pT), some (.ref d), o1, o2, o3] ∧ ExB [d] H1 H' ∧ H' d = some (.dK k) ∧ k.map (·.1) = A.map k1 ∧ A.Nodup ∧ A.length ≤ 2 * i + 1 ∧ ∀ u, u ∈ A ↔ Knot (E0.take i) u)
      (fun H2 e2 => ⟨_, _, _, _, [0], rfl, .of e2, e2 _ _ h1, rfl, by simp, Nat.le_refl _, fun u => ?_⟩)
      (fun i σ' H' ⟨_, _, _, _, _, _, b, _⟩ => exb _ b) (fun i b x σ' H' hb hx hJ => ?_) fun σ' H' hJ => ?_)
    · rw [List.take_zero]
      unfold Knot
      simp
    · obtain ⟨o1, o2, o3, k, A, rfl, bb, g1, hk, nd, lk, I⟩ := hJ
      obtain ⟨be, fi, en⟩ := b
      have hi : i < E0.length := (List.getElem?_eq_some_iff.mp hb).1
      have tk : E0.take (i + 1) = E0.take i ++ [(be, fi, en)] := by rw [List.take_add_one, hb]; rfl
      have kl : k.length = A.length := by have := congrArg List.length hk; simpa using this
      obtain ⟨A1, a1, a2, a3, a4⟩ := put_keys k1_inj be (.bl true) hk nd
      obtain ⟨A2, b1, b2, b3, b4⟩ := put_keys k1_inj en (.bl true) a1 a2
      have kl1 : (putK k (k1 be) (.bl true)).length = A1.length := by have := congrArg List.length a1; simpa using this
      refine g_tri hx ?_
      refine st_seq (st_dputK (R := IsB true) (u := be) er_c (er_ref rfl) g1 (er_n be rfl) (by omega) fun v H2 e2 r2 => ?_)
      have ev : v = .bl true := r2
      subst ev
      refine st_dputK (R := IsB true) (u := en) er_c (er_ref rfl) upd_same (er_n en rfl) (by show (putK k (k1 be) (.bl true)).length ≤ _; omega) fun v H3 e3 r3 => ?_
      have ev : v = .bl true := r3
      subst ev
      refine ⟨_, _, _, _, A2, rfl, (((bb.more e2).trans (.upd (by simp))).more e3).trans (.upd (by simp)), upd_same, b1, b2, by omega, fun u => ?_⟩
      rw [b3, a3, I, tk]
      unfold Knot
      constructor
      · rintro (((rfl | ⟨f, v, m | m⟩) | rfl) | rfl)
        · exact .inl rfl
        · exact .inr ⟨f, v, .inl (List.mem_append_left _ m)⟩
        · exact .inr ⟨f, v, .inr (List.mem_append_left _ m)⟩
        · exact .inr ⟨fi, en, .inl (by simp)⟩
        · exact .inr ⟨fi, be, .inr (by simp)⟩
      · rintro (rfl | ⟨f, v, m | m⟩)
        · exact .inl (.inl (.inl rfl))
        · rw [List.mem_append, List.mem_singleton] at m
          rcases m with m | m
          · exact .inl (.inl (.inr ⟨f, v, .inl m⟩))
          · injection m with m1 m
            exact .inl (.inr m1)
        · rw [List.mem_append, List.mem_singleton] at m
          rcases m with m | m
          · exact .inl (.inl (.inr ⟨f, v, .inr m⟩))
          · injection m with m1 m; injection m with m2 m3
            exact .inr m3
    · obtain ⟨o1, o2, o3, k, A, rfl, bb, g1, hk, nd, lk, I⟩ := hJ
      rw [List.take_length] at I
      refine ⟨_, rfl, d, k, rfl, g1, fun p hp => q _ _ ((exb _ bb).trans (Evl.Ex.new hp)) ⟨A, ⟨nd, I⟩, lk, p, rfl, ?_⟩⟩
      rw [upd_same]
      have e : (k.map fun kv => kV kv.1) = iv A := by
        rw [show (k.map fun kv => kV kv.1) = (k.map (·.1)).map kV by rw [List.map_map]; rfl, hk, List.map_map]
        rfl
      rw [e]
abbrev s_leads_on : Stmt := (top 34)
abbrev N_leads_on : List Str := ["leads", "knot", "fingers", "turn"]
theorem sc_leads_on : FnScope ["leads", "knot", "fingers", "turn"] ["leads", "knot", "fingers"] (defScope s_leads_on) := ⟨rfl, rfl, rfl, by decide +kernel, rfl, by decide +kernel, by decide +kernel⟩
theorem b_leads_on : BindsP "leads_on" "leads_on" s_leads_on ["leads", "knot", "fingers"] := fun _ _ _ _ _ _ us hl => match us, hl with | [_, _, _], _ => rfl
theorem ok_leads_on (T : Txt K mg c) : Ok P w K mg base CX0 1 "leads_on" ["leads", "knot", "fingers"] (spF (fun p : (Nat → Nat → Option Nat) × Nat × Nat => [LdR p.1, IsI (p.2.1 : Int), IsI (p.2.2 : Int)]) (fun p => p.2.2 ≤ 1000) (fun p => IsB ((List.range (2 * p.2.2)).all fun x => (p.1 p.2.1 x).isSome))) := by
  refine T.leads_on.ok sc_leads_on b_leads_on (fun vs H Q E h => ?_) (fun f cdv A outer s H vs Q E hr h => ⟨_, (pss_one (ps_ret (pe_callB (cr_all rfl) (by rfl) T.all boot_all (pa_cons (pe_lc (own := [("turn", 3)]) rfl sc_leads_on.nd (pi_range1 (by rfl) T.range (pa_cons (pe_op op_mul pe_int (pv 2)) pa_nil)) (blkOk_by (own := [("turn", 3)]) (N := N_leads_on) (sc := defScope s_leads_on) (by decide +kernel)) (fun _ _ _ _ _ => (pg_name (i := 3) sc_leads_on.nd rfl (.inl rfl))) (fun _ _ _ _ _ => pts_nil) (fun _ _ _ _ _ => (pe_cmp (pc_din (hu_of hr) (pe_tup (pa_cons (pv 1) (pa_cons (pv 3) pa_nil))) (pv 0)) rfl))) pa_nil)))), ?_⟩)
  · obtain ⟨n, _, r, _⟩ := h; exact all_len r
  · obtain ⟨⟨g, u, n⟩, hz, ra, q⟩ := h
    dsimp only at ra q hz
    obtain ⟨v1, v2, v3, rfl, r1, r2, r3⟩ := all3 ra
    cases r2; cases r3
    refine st_ret (er_all (bs := (List.range (2 * n)).map fun x => (g u x).isSome) ((er_lcRAn (R := fun b : Bool => IsB b) (ea1 (er_twice (er_n n rfl))) (by omega) (fun x => (g u x).isSome) fun i hi H1 e1 => ?_).imp fun v H1 e r => lstOf_val r)) fun v H2 e2 rv => q v H2 e2 ?_
    · refine er_is (er_inD (er_key (m := u) (n := i) rfl rfl) (er_var (R := LdR g) (rmono (LdR g) e1 r1) rfl)) ?_
      rw [Option.isSome_map]
    · show v = _
      rw [show v = _ from rv, List.all_map]
      rfl
abbrev s_is_full : Stmt := (top 35)
abbrev N_is_full : List Str := ["threads", "fingers", "leads", "knot"]
theorem sc_is_full : FnScope ["threads", "fingers", "leads", "knot"] ["threads", "fingers"] (defScope s_is_full) := ⟨rfl, rfl, rfl, by decide +kernel, rfl, by decide +kernel, by decide +kernel⟩
theorem b_is_full : BindsP "is_full" "is_full" s_is_full ["threads", "fingers"] := fun _ _ _ _ _ _ us hl => match us, hl with | [_, _], _ => rfl
theorem ok_is_full (T : Txt K mg c) : Ok P w K mg base CX0 2 "is_full" ["threads", "fingers"] (spF (fun p : List Tri × Nat => [LstOf TriR p.1, IsI (p.2 : Int)]) (fun p => NoClash p.1 ∧ p.1.length ≤ 400000 ∧ p.2 ≤ 1000) (fun p => FullR p.1 p.2)) := by
  refine T.is_full.ok sc_is_full b_is_full (fun vs H Q E h => ?_) (fun f cdv A outer s H vs Q E hr h => ⟨_, (pss_cons (ps_set (i := 2) sc_is_full.nd rfl (.inr rfl) (pcall (ok_leads_of T) (hr.mono (by decide)) rfl pass0 (pa_cons (pv 0) pa_nil)))
      (pss_one (ps_ret (pe_callB (cr_all rfl) (by rfl) T.all boot_all (pa_cons (pe_lc (own := [("knot", 3)]) rfl sc_is_full.nd (pi_list (pcall (ok_knots_of T) (hr.mono (by decide)) rfl pass0 (pa_cons (pv 0) pa_nil))) (blkOk_by (own := [("knot", 3)]) (N := N_is_full) (sc := defScope s_is_full) (by decide +kernel)) (fun _ _ _ _ _ => (pg_name (i := 3) sc_is_full.nd rfl (.inl rfl))) (fun _ _ _ _ _ => pts_nil) (fun _ _ _ _ _ => (pcall (ok_leads_on T) (hr.mono (by decide)) rfl pass0 (pa_cons (pv 2) (pa_cons (pv 3) (pa_cons (pv 1) pa_nil)))))) pa_nil))))), ?_⟩)
  · obtain ⟨n, _, r, _⟩ := h; exact all_len r
  · obtain ⟨⟨E0, n⟩, ⟨no, hz, hn⟩, ra, q⟩ := h
    dsimp only at ra q hz hn no
    obtain ⟨v1, v2, rfl, r1, r2⟩ := all2 ra
    cases r2
    refine st_seq (st_asg (er_call E0 (ea1 (er_var (R := LstOf TriR E0) r1 rfl)) ⟨no, hz⟩) fun lv H1 e1 rl => ?_)
    dsimp only
    refine st_ret (er_allX (S := fun bs => ∃ N, KnotsOf E0 N ∧ bs = N.map fun u => (List.range (2 * n)).all fun x => (stepT E0 u x).isSome)
      (er_src (er_call E0 (ea1 (er_var (R := LstOf TriR E0) (rmono (LstOf TriR E0) e1 r1) rfl)) hz) fun kv H2 e2 ⟨N, kN, lN, rN⟩ => ?_)) fun v H3 e3 r3 => q v H3 (e1.trans e3) ?_
    · refine (er_lcAn (S := fun x : Nat => IsI (x : Int)) (R := fun b : Bool => IsB b) (as := N) (er_cR (LstOf (fun x : Nat => IsI (x : Int)) N) (isL_of rN)) (by omega) (fun u => (List.range (2 * n)).all fun x => (stepT E0 u x).isSome) fun u hu x H3 e3 hx => ?_).imp fun v H3 e3 r3 => ⟨_, ⟨N, kN, rfl⟩, lstOf_val r3⟩
      cases hx
      exact er_call (stepT E0, u, n) (ea_cons (er_var (R := LdR (stepT E0)) (rmono (LdR (stepT E0)) (e2.trans e3) rl) rfl) (ea2 (er_n u rfl) (er_n n rfl))) hn
    · obtain ⟨bs, ⟨N, kN, rfl⟩, rfl⟩ := r3
      refine ⟨N, kN, ?_⟩
      rw [List.all_map]
      rfl
end
end Fc
set_option maxRecDepth 100000
set_option maxHeartbeats 2000000
namespace Fc
open PySem PySem.Spec PyProof.Rows L2
/-- pairs of numbers, sorted -/
def lexP (p q : Nat × Nat) : Prop := p.1 < q.1 ∨ (p.1 = q.1 ∧ p.2 ≤ q.2)
abbrev PairR (p : Nat × Nat) : Rel := IsP p.1 p.2
def SrtR (ps : List (Nat × Nat)) : Rel := fun v H => ∃ qs, qs.Perm ps ∧ qs.Pairwise lexP ∧ LstOf PairR qs v H
instance (ps : List (Nat × Nat)) : Mono (SrtR ps) := ⟨fun {v H H'} e ⟨N, a, l, r⟩ => ⟨N, a, l, rmono (LstOf PairR N) e r⟩⟩
section
variable {K : PySem.W.Frag} {σ : L2.St} {H H' : Hp} {ta tb te tc tl ty tv : TE} {t u : TT} {x y z v : V} {R Ra Rb : Rel} {D : Ends} {tu tw : TS}
theorem paired_back {β : Type} {F : β → V → Prop} {g : V → β} (hg : ∀ b x, F b x → g x = b) : ∀ {bs : List β} {xs : List V}, Paired F bs xs → xs.map g = bs
  | _, _, .nil => rfl
  | _, _, .cons r t => by rw [List.map_cons, hg _ _ r, paired_back hg t]
def pairAt (H : Hp) (x : V) : Int × Int := match x with
  | .ref t => (match H t with
    | some (.tup [.int i, .int j]) => (i, j)
    | _ => (0, 0))
  | _ => (0, 0)
theorem er_sorted {ps : List (Nat × Nat)} (h : ER te σ H (LstOf PairR ps)) : ER (tCB (rSortedPO K) (tCons te tNil)) σ H (SrtR ps) := fun H1 e Q q =>
  h H1 e _ fun v H2 e2 ⟨p, xs, ep, hp, pr⟩ => by
    have at_ : ∀ {b : Nat × Nat} {x : V}, PairR b x H2 → (∃ t, x = .ref t ∧ H2 t = some (.tup [.int (b.1 : Int), .int (b.2 : Int)])) ∧ pairAt H2 x = ((b.1 : Int), (b.2 : Int)) := by
      rintro b x ⟨t, rfl, ht⟩
      refine ⟨⟨t, rfl, ht⟩, ?_⟩
      unfold pairAt
      dsimp only
      rw [ht]
    have all : ∀ x ∈ xs, ∃ b, PairR b x H2 := paired_all pr
    let g : V → Nat × Nat := fun x => ((pairAt H2 x).1.toNat, (pairAt H2 x).2.toNat)
    have gx : ∀ {b : Nat × Nat} {x : V}, PairR b x H2 → g x = b := fun {b x} r => by
      have z := (at_ r).2
      show ((pairAt H2 x).1.toNat, (pairAt H2 x).2.toNat) = b
      rw [z]
      simp
    have gxs : xs.map g = ps := paired_back (fun b x r => gx r) pr
    refine ⟨p, xs, pairAt H2, by rw [ep], .of hp, fun x hx => ?_, fun ys n h1 h2 hn => q _ _ (e2.trans (Evl.Ex.new hn)) ⟨ys.map g, ?_, ?_, n, ys, rfl, upd_same, ?_⟩⟩
    · obtain ⟨b, r⟩ := all x hx
      obtain ⟨⟨t, e, ht⟩, z⟩ := at_ r
      exact ⟨t, e, by rw [z]; exact ht⟩
    · rw [← gxs]
      exact h2.perm.map g
    · rw [List.pairwise_map]
      refine List.Pairwise.imp_of_mem (fun {x y} hx hy hxy => ?_) h1
      obtain ⟨b, r⟩ := all x (h2.perm.mem_iff.mp hx)
      obtain ⟨d, s⟩ := all y (h2.perm.mem_iff.mp hy)
      rw [gx r, gx s]
      have z := SrtO.lexB_no.mp hxy
      rw [(at_ r).2, (at_ s).2] at z
      dsimp only at z
      unfold lexP
      omega
    · have : ∀ l : List V, (∀ y ∈ l, y ∈ xs) → Paired (fun b x => PairR b x (upd H2 n (.lst ys))) (l.map g) l := by
        intro l
        induction l with
        | nil => intro _; exact .nil
        | cons y l ih =>
          intro hl
          refine .cons ?_ (ih fun z hz => hl z (List.mem_cons_of_mem _ hz))
          obtain ⟨b, r⟩ := all y (hl y List.mem_cons_self)
          show PairR (g y) y _
          rw [gx r]
          exact rmono (PairR b) (Evl.Ex.new hn) r
      exact this ys fun y hy => h2.perm.mem_iff.mp hy
theorem er_and {a b : Nat} (ha : ER ta σ H (IsI (a : Int))) (hb : ER tb σ H (IsI (b : Int))) : ER (tOp (rI0 fun i j => .int (Builtin.bitAnd i j)) ta tb) σ H (IsI ((a &&& b : Nat) : Int)) :=
  er_is (er_I0 ha hb) (by rw [bitAnd_pp (by omega) (by omega)]; rfl)
theorem et_eqN {a b : Nat} (ha : ER ta σ H (IsI (a : Int))) (hb : ER tb σ H (IsI (b : Int))) : ET (tTest (tOp rEq ta tb)) σ H (decide (a = b)) := et_is (et_test (er_eq ha hb rfl)) int_eq
theorem er_eqN {a b : Nat} (ha : ER ta σ H (IsI (a : Int))) (hb : ER tb σ H (IsI (b : Int))) : ER (tOp rEq ta tb) σ H (IsB (decide (a = b))) := er_is (er_eq ha hb rfl) (by rw [int_eq])
theorem er_neN {a b : Nat} (ha : ER ta σ H (IsI (a : Int))) (hb : ER tb σ H (IsI (b : Int))) : ER (tOp rNe ta tb) σ H (IsB (decide (a ≠ b))) := er_is (er_ne ha hb rfl) (by rw [int_eq, decide_not])
end
theorem inOrder_ne (n : Nat) : inOrder n ≠ [] := fun z => by
  have p := (inOrder_perm n).length_eq
  rw [z, List.length_range] at p
  have : 0 < 2 ^ n := Nat.two_pow_pos n
  simp at p
  omega
theorem inOrder_len {n : Nat} (hn : n ≤ 6) : (inOrder n).length ≤ 64 := by
  rw [(inOrder_perm n).length_eq, List.length_range]
  exact two_pow_le hn
theorem sorted_is {n : Nat} (hn : n ≤ 6) {qs : List (Nat × Nat)} (hp : qs.Perm ((List.range (2 ^ n)).map fun k => ((Vbcjai.bits k).length, k))) (hs : qs.Pairwise lexP) : qs.map (·.2) = inOrder n := by
  have p2 : (qs.map (·.2)).Perm (List.range (2 ^ n)) := by
    have := hp.map (·.2)
    rw [List.map_map] at this
    have e : ((List.range (2 ^ n)).map ((·.2) ∘ fun k => ((Vbcjai.bits k).length, k))) = List.range (2 ^ n) := by
      rw [show ((fun x : Nat × Nat => x.2) ∘ fun k => ((Vbcjai.bits k).length, k)) = id from rfl, List.map_id]
    rw [e] at this
    exact this
  have nd : (qs.map (·.2)).Nodup := p2.nodup_iff.mpr List.nodup_range
  refine ord_one ?_ (inOrder_ord n) (p2.trans (inOrder_perm n).symm)
  unfold Ord
  rw [List.pairwise_map]
  unfold List.Nodup at nd
  rw [List.pairwise_map] at nd
  have both := hs.and nd
  refine List.Pairwise.imp_of_mem (fun {x y} hx hy hxy => ?_) both
  have ax : x.1 = (Vbcjai.bits x.2).length := by
    obtain ⟨k, _, e⟩ := List.mem_map.mp (hp.mem_iff.mp hx)
    rw [← e]
  have ay : y.1 = (Vbcjai.bits y.2).length := by
    obtain ⟨k, _, e⟩ := List.mem_map.mp (hp.mem_iff.mp hy)
    rw [← e]
  obtain ⟨h1, h2⟩ := hxy
  have h2 : x.2 ≠ y.2 := h2
  unfold lexP at h1
  rw [lessSet_iff]
  omega
section
variable {P : Program} {w : World} {K : PySem.W.Frag} {mg : Str → Option Value} {base : Heap} {c : Cl3}
/-! ### letting go -/
abbrev s_sets_of : Stmt := (top 38)
abbrev N_sets_of : List Str := ["fingers"]
theorem sc_sets_of : FnScope ["fingers"] ["fingers"] (defScope s_sets_of) := ⟨rfl, rfl, rfl, by decide +kernel, rfl, by decide +kernel, by decide +kernel⟩
theorem b_sets_of : BindsP "sets_of" "sets_of" s_sets_of ["fingers"] := fun _ _ _ _ _ _ us hl => match us, hl with | [_], _ => rfl
theorem ok_sets_of (T : Txt K mg c) : Ok P w K mg base CX0 1 "sets_of" ["fingers"] (spF (fun n : Nat => [IsI (n : Int)]) (fun n => n ≤ 1000) (fun n => IsI (2 ^ n : Nat))) := by
  refine T.sets_of.ok sc_sets_of b_sets_of (fun vs H Q E h => ?_) (fun f cdv A outer s H vs Q E hr h => ⟨_, (pss_one (ps_ret (pe_op op_shl pe_int (pv 0)))), ?_⟩)
  · obtain ⟨n, _, r, _⟩ := h; exact all_len r
  · obtain ⟨n, hn, ra, q⟩ := h
    obtain ⟨v, rfl, r⟩ := all1 ra
    cases r
    refine st_ret (er_is (er_I er_c (er_n n rfl) ⟨by omega, by omega, by decide⟩) ?_) fun v H2 e2 r => q v H2 e2 r
    rw [Int.toNat_natCast, Int.one_mul]
    simp
abbrev s_has_finger : Stmt := (top 39)
abbrev N_has_finger : List Str := ["number", "finger"]
theorem sc_has_finger : FnScope ["number", "finger"] ["number", "finger"] (defScope s_has_finger) := ⟨rfl, rfl, rfl, by decide +kernel, rfl, by decide +kernel, by decide +kernel⟩
theorem b_has_finger : BindsP "has_finger" "has_finger" s_has_finger ["number", "finger"] := fun _ _ _ _ _ _ us hl => match us, hl with | [_, _], _ => rfl
theorem ok_has_finger (T : Txt K mg c) : Ok P w K mg base CX0 1 "has_finger" ["number", "finger"] (spF (fun p : Nat × Nat => [IsI (p.1 : Int), IsI (p.2 : Int)]) (fun _ => True) (fun p => IsB (p.1.testBit p.2))) := by
  refine T.has_finger.ok sc_has_finger b_has_finger (fun vs H Q E h => ?_) (fun f cdv A outer s H vs Q E hr h => ⟨_, (pss_one (ps_ret (pe_cmpR op_eq (pe_op op_mod (pe_op op_shr (pv 0) (pv 1)) pe_int) pe_int (nomark _)))), ?_⟩)
  · obtain ⟨n, _, r, _⟩ := h; exact all_len r
  · obtain ⟨⟨m, f⟩, _, ra, q⟩ := h
    dsimp only at ra q
    obtain ⟨v1, v2, rfl, r1, r2⟩ := all2 ra
    cases r1; cases r2
    refine st_ret (er_is (er_eqN (a := m / 2 ^ f % 2) (b := 1) (er_is (er_I (er_I (er_n m rfl) (er_n f rfl) (by omega)) er_c (by decide)) ?_) er_c) ?_) fun v H2 e2 r => q v H2 e2 r
    · rw [Int.toNat_natCast]
      simp
    · rw [bit_div]
abbrev s_fingers_in : Stmt := (top 40)
abbrev N_fingers_in : List Str := ["number", "fingers", "finger"]
theorem sc_fingers_in : FnScope ["number", "fingers", "finger"] ["number", "fingers"] (defScope s_fingers_in) := ⟨rfl, rfl, rfl, by decide +kernel, rfl, by decide +kernel, by decide +kernel⟩
theorem b_fingers_in : BindsP "fingers_in" "fingers_in" s_fingers_in ["number", "fingers"] := fun _ _ _ _ _ _ us hl => match us, hl with | [_, _], _ => rfl
theorem ok_fingers_in (T : Txt K mg c) : Ok P w K mg base CX0 2 "fingers_in" ["number", "fingers"] (spF (fun p : Nat × Nat => [IsI (p.1 : Int), IsI (p.2 : Int)]) (fun p => p.2 ≤ 6 ∧ p.1 < 2 ^ p.2) (fun p => IsN (Vbcjai.bits p.1))) := by
  refine T.fingers_in.ok sc_fingers_in b_fingers_in (fun vs H Q E h => ?_) (fun f cdv A outer s H vs Q E hr h => ⟨_, (pss_one (ps_ret (pe_lc (own := [("finger", 2)]) rfl sc_fingers_in.nd (pi_range1 (by rfl) T.range (pa_cons (pv 1) pa_nil)) (blkOk_by (own := [("finger", 2)]) (N := N_fingers_in) (sc := defScope s_fingers_in) (by decide +kernel)) (fun _ _ _ _ _ => (pg_name (i := 2) sc_fingers_in.nd rfl (.inl rfl))) (fun _ _ _ _ _ => pts_one (pt_val (pcall (ok_has_finger T) (hr.mono (by decide)) rfl pass0 (pa_cons (pv 0) (pa_cons (pv 2) pa_nil))))) (fun _ _ _ _ _ => (pv 2))))), ?_⟩)
  · obtain ⟨n, _, r, _⟩ := h; exact all_len r
  · obtain ⟨⟨m, n⟩, ⟨hn, hm⟩, ra, q⟩ := h
    dsimp only at ra q hn hm
    obtain ⟨v1, v2, rfl, r1, r2⟩ := all2 ra
    cases r1; cases r2
    refine st_ret (er_lcRn (R := fun x : Nat => IsI (x : Int)) (n := n) (ea1 (er_n n rfl)) (by omega) (fun i => m.testBit i) id (fun i hi H1 e1 => et_B (er_call (m, i) (ea2 (er_n m rfl) (er_n i rfl)) trivial)) fun i hi H1 e1 => er_n i rfl) fun v H2 e2 r => q v H2 e2 ?_
    rw [List.map_id, bits_few hn hm] at r
    exact lstOf_val r
abbrev s_falls : Stmt := (top 41)
abbrev N_falls : List Str := ["cord", "number", "left", "turn"]
theorem sc_falls : FnScope ["cord", "number", "left", "turn"] ["cord", "number"] (defScope s_falls) := ⟨rfl, rfl, rfl, by decide +kernel, rfl, by decide +kernel, by decide +kernel⟩
theorem b_falls : BindsP "falls" "falls" s_falls ["cord", "number"] := fun _ _ _ _ _ _ us hl => match us, hl with | [_, _], _ => rfl
theorem ok_falls (T : Txt K mg c) : Ok P w K mg base CX0 3 "falls" ["cord", "number"] (spF (fun p : List Nat × Nat => [IsN p.1, IsI (p.2 : Int)]) (fun p => p.1.length ≤ 1000000) (fun p => IsB (Vbcjai.falls p.2 p.1))) := by
  refine T.falls.ok sc_falls b_falls (fun vs H Q E h => ?_) (fun f cdv A outer s H vs Q E hr h => ⟨_, (pss_cons (ps_setLc (i := 2) (own := [("turn", 3)]) rfl sc_falls.nd rfl rfl (sw_true rfl rfl rfl (by decide +kernel)) (pi_list (pv 0)) (blkOk_by (own := [("turn", 3)]) (N := N_falls) (sc := defScope s_falls) (by decide +kernel)) (fun _ _ _ _ _ => (pg_name (i := 3) sc_falls.nd rfl (.inl rfl))) (fun _ _ _ _ _ => pts_one (pt_not (pt_val (pcall (ok_has_finger T) (hr.mono (by decide)) rfl pass0 (pa_cons (pv 1) (pa_cons (pcall (ok_finger_of T) (hr.mono (by decide)) rfl pass0 (pa_cons (pv 3) pa_nil)) pa_nil)))))) (fun _ _ _ _ _ => (pv 3)))
      (pss_one (ps_ret (pe_cmpR op_eq (pe_callB (r := Evl.rLenS K) call_len_seq (by rfl) T.len PySem.boot_len (pa_cons (pcall (ok_pulled_taut T) (hr.mono (by decide)) rfl pass0 (pa_cons (pv 2) pa_nil)) pa_nil)) pe_int (nomark _))))), ?_⟩)
  · obtain ⟨n, _, r, _⟩ := h; exact all_len r
  · obtain ⟨⟨ws, m⟩, hz, ra, q⟩ := h
    dsimp only at ra q hz
    obtain ⟨v1, v2, rfl, r1, r2⟩ := all2 ra
    cases r2
    have fl := List.length_filter_le (fun x => !m.testBit (Vbcjai.finger x)) ws
    refine st_seq (st_asg (er_lcLn (S := fun x : Nat => IsI (x : Int)) (R := fun x : Nat => IsI (x : Int)) (as := ws) (er_var (R := LstOf (fun x : Nat => IsI (x : Int)) ws) (isL_of r1) rfl) hz (fun x => !m.testBit (Vbcjai.finger x)) id (fun a ha x H1 e1 hx => ?_) fun a ha x H1 e1 hx => ?_) fun lv H1 e1 rl => ?_)
    · cases hx
      exact Evl.et_not (et_B (er_call (m, a / 2) (ea2 (er_n m rfl) (er_call a (ea1 (er_n a rfl)) trivial)) trivial))
    · cases hx
      exact er_n a rfl
    · rw [List.map_id] at rl
      dsimp only
      have rl' : IsN (Vbcjai.letGo m ws) lv H1 := lstOf_val rl
      refine st_ret (er_is (er_eqN (b := 0) (er_lenN (er_call (Vbcjai.letGo m ws) (ea1 (er_var (R := IsN (Vbcjai.letGo m ws)) rl' rfl)) (Nat.le_trans fl hz))) er_c) ?_) fun v H2 e2 r => q v H2 (e1.trans e2) r
      unfold Vbcjai.falls
      cases Vbcjai.taut (Vbcjai.letGo m ws) <;> rfl
abbrev s_want_let_go : Stmt := (top 42)
abbrev N_want_let_go : List Str := ["number", "fingers"]
theorem sc_want_let_go : FnScope ["number", "fingers"] ["number", "fingers"] (defScope s_want_let_go) := ⟨rfl, rfl, rfl, by decide +kernel, rfl, by decide +kernel, by decide +kernel⟩
theorem b_want_let_go : BindsP "want_let_go" "want_let_go" s_want_let_go ["number", "fingers"] := fun _ _ _ _ _ _ us hl => match us, hl with | [_, _], _ => rfl
theorem ok_want_let_go (T : Txt K mg c) : Ok P w K mg base (L2.CX P w) 3 "want_let_go" ["number", "fingers"] (spX c.R (fun p : Int × Nat => [IsI p.1, IsI (p.2 : Int)]) (fun p => p.2 ≤ 1000) (fun p => if 0 ≤ p.1 ∧ p.1 < (2 ^ p.2 : Nat) then none else some (-2)) (fun _ => IsV .non)) := by
  refine T.want_let_go.okX sc_want_let_go b_want_let_go (fun vs H Q E h => ?_) (fun f cdv A outer s H vs Q E hr h => ⟨_, (pss_one (ps_if (pt_not (pt_chain op_le op_lt pe_int (pv 0) (pcall (ok_sets_of T) (hr.mono (by decide)) rfl pass0 (pa_cons (pv 1) pa_nil)))) (pss_one (praise T hr (takes_of rfl rfl rfl rfl) (pa_cons (pconst T.OUT_OF_RANGE rfl) pa_nil))) pss_nil)), ?_⟩)
  · obtain ⟨n, _, r, _⟩ := h; exact all_len r
  · obtain ⟨⟨m, n⟩, hn, ra, q, x⟩ := h
    dsimp only at ra q x hn
    obtain ⟨v1, v2, rfl, r1, r2⟩ := all2 ra
    cases r1; cases r2
    refine st_if (Evl.et_not (et_test (er_chain (i := 0) (j := m) (k := (2 ^ n : Nat)) er_c (er_v rfl) (er_call n (ea1 (er_n n rfl)) hn) rfl rfl))) (fun hb H1 e1 => ?_) fun hb H1 e1 => ?_
    · have ne : ¬ (0 ≤ m ∧ m < (2 ^ n : Nat)) := fun z => by
        rw [decide_eq_true z.1, decide_eq_true z.2] at hb
        cases hb
      exact st_raise er_c ((x (-2) (by rw [if_neg ne])).mono e1)
    · have ye : 0 ≤ m ∧ m < (2 ^ n : Nat) := by
        have hb : (decide (0 ≤ m) && decide (m < ((2 ^ n : Nat) : Int))) = true := by
          cases z : (decide (0 ≤ m) && decide (m < ((2 ^ n : Nat) : Int))) with
          | true => rfl
          | false => rw [z] at hb; cases hb
        rw [Bool.and_eq_true, decide_eq_true_iff, decide_eq_true_iff] at hb
        exact hb
      exact q (by rw [if_pos ye]) .non H1 e1 rfl
abbrev s_in_order : Stmt := (top 43)
abbrev N_in_order : List Str := ["fingers", "pairs", "number", "many"]
theorem sc_in_order : FnScope ["fingers", "pairs", "number", "many"] ["fingers"] (defScope s_in_order) := ⟨rfl, rfl, rfl, by decide +kernel, rfl, by decide +kernel, by decide +kernel⟩
theorem b_in_order : BindsP "in_order" "in_order" s_in_order ["fingers"] := fun _ _ _ _ _ _ us hl => match us, hl with | [_], _ => rfl
theorem ok_in_order (T : Txt K mg c) : Ok P w K mg base CX0 3 "in_order" ["fingers"] (spF (fun n : Nat => [IsI (n : Int)]) (fun n => n ≤ 6) (fun n => IsN (inOrder n))) := by
  refine T.in_order.ok sc_in_order b_in_order (fun vs H Q E h => ?_) (fun f cdv A outer s H vs Q E hr h => ⟨_, (pss_cons (ps_set (i := 1) sc_in_order.nd rfl (.inl rfl) (pe_callB cr_sortedPO (by rfl) T.sorted boot_sorted (pa_cons (pe_lc (own := [("number", 2)]) rfl sc_in_order.nd (pi_range1 (by rfl) T.range (pa_cons (pcall (ok_sets_of T) (hr.mono (by decide)) rfl pass0 (pa_cons (pv 0) pa_nil)) pa_nil)) (blkOk_by (own := [("number", 2)]) (N := N_in_order) (sc := defScope s_in_order) (by decide +kernel)) (fun _ _ _ _ _ => (pg_name (i := 2) sc_in_order.nd rfl (.inl rfl))) (fun _ _ _ _ _ => pts_nil) (fun _ _ _ _ _ => (pe_tup (pa_cons (pe_callB (r := Evl.rLenS K) call_len_seq (by rfl) T.len PySem.boot_len (pa_cons (pcall (ok_fingers_in T) (hr.mono (by decide)) rfl pass0 (pa_cons (pv 2) (pa_cons (pv 0) pa_nil))) pa_nil)) (pa_cons (pv 2) pa_nil))))) pa_nil)))
      (pss_one (ps_ret (pe_lc (own := [("many", 3), ("number", 2)]) rfl sc_in_order.nd (pi_list (pv 1)) (blkOk_by (own := [("many", 3), ("number", 2)]) (N := N_in_order) (sc := defScope s_in_order) (by decide +kernel)) (fun _ _ _ _ _ => (pg_tupK (K := K) (n := 2) rfl rfl (pgs_cons (pg_name (i := 3) sc_in_order.nd rfl (.inl rfl)) (pgs_cons (pg_name (i := 2) sc_in_order.nd rfl (.inl rfl)) pgs_nil)))) (fun _ _ _ _ _ => pts_nil) (fun _ _ _ _ _ => (pv 2)))))), ?_⟩)
  · obtain ⟨n, _, r, _⟩ := h; exact all_len r
  · obtain ⟨n, hn, ra, q⟩ := h
    obtain ⟨v, rfl, r⟩ := all1 ra
    cases r
    have h2 := two_pow_le hn
    refine st_seq (st_asg (er_sorted (er_lcRAn (R := PairR) (n := 2 ^ n) (ea1 (er_call n (ea1 (er_n n rfl)) (by omega))) (by omega) (fun k => ((Vbcjai.bits k).length, k)) fun i hi H1 e1 => er_pair (er_lenN (er_call (i, n) (ea2 (er_n i rfl) (er_n n rfl)) ⟨hn, hi⟩)) (er_n i rfl))) fun sv H1 e1 rs => ?_)
    obtain ⟨qs, hp, hs, rq⟩ := rs
    dsimp only
    have e := sorted_is hn hp hs
    have lq : qs.length ≤ 64 := by rw [hp.length_eq, List.length_map, List.length_range]; exact h2
    refine st_ret (er_lcA (S := PairR) (R := fun x : Nat => IsI (x : Int)) (as := qs) (er_var (R := LstOf PairR qs) rq rfl) (by omega) (·.2) fun a ha x H2 e2 hx => ⟨_, fun H3 e3 Q hQ => g_pair (rmono (PairR a) e3 hx) hQ, rfl, er_n a.2 rfl⟩) fun v H2 e2 r => q v H2 (e1.trans e2) ?_
    rw [e] at r
    exact lstOf_val r
abbrev s_lies_within : Stmt := (top 44)
abbrev N_lies_within : List Str := ["number", "other"]
theorem sc_lies_within : FnScope ["number", "other"] ["number", "other"] (defScope s_lies_within) := ⟨rfl, rfl, rfl, by decide +kernel, rfl, by decide +kernel, by decide +kernel⟩
theorem b_lies_within : BindsP "lies_within" "lies_within" s_lies_within ["number", "other"] := fun _ _ _ _ _ _ us hl => match us, hl with | [_, _], _ => rfl
theorem ok_lies_within (T : Txt K mg c) : Ok P w K mg base CX0 1 "lies_within" ["number", "other"] (spF (fun p : Nat × Nat => [IsI (p.1 : Int), IsI (p.2 : Int)]) (fun p => p.1 < 64) (fun p => IsB (Vbcjai.within p.1 p.2))) := by
  refine T.lies_within.ok sc_lies_within b_lies_within (fun vs H Q E h => ?_) (fun f cdv A outer s H vs Q E hr h => ⟨_, (pss_one (ps_ret (pe_cmpR op_eq (pe_op op_and (pv 0) (pv 1)) (pv 0) (nomark _)))), ?_⟩)
  · obtain ⟨n, _, r, _⟩ := h; exact all_len r
  · obtain ⟨⟨a, b⟩, h6, ra, q⟩ := h
    dsimp only at ra q h6
    obtain ⟨v1, v2, rfl, r1, r2⟩ := all2 ra
    cases r1; cases r2
    exact st_ret (er_is (er_eqN (er_and (er_n a rfl) (er_n b rfl)) (er_n a rfl)) (by rw [and_within h6])) fun v H2 e2 r => q v H2 e2 r
abbrev s_meets_all : Stmt := (top 49)
abbrev N_meets_all : List Str := ["number", "told", "one"]
theorem sc_meets_all : FnScope ["number", "told", "one"] ["number", "told"] (defScope s_meets_all) := ⟨rfl, rfl, rfl, by decide +kernel, rfl, by decide +kernel, by decide +kernel⟩
theorem b_meets_all : BindsP "meets_all" "meets_all" s_meets_all ["number", "told"] := fun _ _ _ _ _ _ us hl => match us, hl with | [_, _], _ => rfl
theorem ok_meets_all (T : Txt K mg c) : Ok P w K mg base CX0 1 "meets_all" ["number", "told"] (spF (fun p : Nat × List Nat => [IsI (p.1 : Int), IsN p.2]) (fun p => (∀ s ∈ p.2, s < 64) ∧ p.2.length ≤ 1000) (fun p => IsB (p.2.all fun s => (Vbcjai.bits s).any fun i => p.1.testBit i))) := by
  refine T.meets_all.ok sc_meets_all b_meets_all (fun vs H Q E h => ?_) (fun f cdv A outer s H vs Q E hr h => ⟨_, (pss_one (ps_ret (pe_callB (cr_all rfl) (by rfl) T.all boot_all (pa_cons (pe_lc (own := [("one", 2)]) rfl sc_meets_all.nd (pi_list (pv 1)) (blkOk_by (own := [("one", 2)]) (N := N_meets_all) (sc := defScope s_meets_all) (by decide +kernel)) (fun _ _ _ _ _ => (pg_name (i := 2) sc_meets_all.nd rfl (.inl rfl))) (fun _ _ _ _ _ => pts_nil) (fun _ _ _ _ _ => (pe_cmpR op_ne (pe_op op_and (pv 0) (pv 2)) pe_int (nomark _)))) pa_nil)))), ?_⟩)
  · obtain ⟨n, _, r, _⟩ := h; exact all_len r
  · obtain ⟨⟨m, ms⟩, ⟨h6, hz⟩, ra, q⟩ := h
    dsimp only at ra q h6 hz
    obtain ⟨v1, v2, rfl, r1, r2⟩ := all2 ra
    cases r1
    refine st_ret (er_all (bs := ms.map fun s => (Vbcjai.bits s).any fun i => m.testBit i) ((er_lcAn (S := fun x : Nat => IsI (x : Int)) (R := fun b : Bool => IsB b) (as := ms) (er_var (R := LstOf (fun x : Nat => IsI (x : Int)) ms) (isL_of r2) rfl) (by omega) (fun s => (Vbcjai.bits s).any fun i => m.testBit i) fun a ha x H1 e1 hx => ?_).imp fun v H1 e r => lstOf_val r)) fun v H2 e2 rv => q v H2 e2 ?_
    · cases hx
      exact er_is (er_neN (b := 0) (er_and (er_n m rfl) (er_n a rfl)) er_c) (by rw [and_meets (h6 a ha)])
    · show v = _
      rw [show v = _ from rv, List.all_map]
      rfl
abbrev s_fits : Stmt := (top 50)
abbrev N_fits : List Str := ["told", "cord", "fingers", "number"]
theorem sc_fits : FnScope ["told", "cord", "fingers", "number"] ["told", "cord", "fingers"] (defScope s_fits) := ⟨rfl, rfl, rfl, by decide +kernel, rfl, by decide +kernel, by decide +kernel⟩
theorem b_fits : BindsP "fits" "fits" s_fits ["told", "cord", "fingers"] := fun _ _ _ _ _ _ us hl => match us, hl with | [_, _, _], _ => rfl
theorem ok_fits (T : Txt K mg c) : Ok P w K mg base CX0 4 "fits" ["told", "cord", "fingers"] (spF (fun p : List Nat × List Nat × Nat => [IsN p.1, IsN p.2.1, IsI (p.2.2 : Int)]) (fun p => (∀ s ∈ p.1, s < 64) ∧ p.1.length ≤ 1000 ∧ p.2.1.length ≤ 1000000 ∧ p.2.2 ≤ 6) (fun p => IsB (Vbcjai.fitsSets p.2.2 p.1 p.2.1))) := by
  refine T.fits.ok sc_fits b_fits (fun vs H Q E h => ?_) (fun f cdv A outer s H vs Q E hr h => ⟨_, (pss_one (ps_ret (pe_callB (cr_all rfl) (by rfl) T.all boot_all (pa_cons (pe_lc (own := [("number", 3)]) rfl sc_fits.nd (pi_range1 (by rfl) T.range (pa_cons (pcall (ok_sets_of T) (hr.mono (by decide)) rfl pass0 (pa_cons (pv 2) pa_nil)) pa_nil)) (blkOk_by (own := [("number", 3)]) (N := N_fits) (sc := defScope s_fits) (by decide +kernel)) (fun _ _ _ _ _ => (pg_name (i := 3) sc_fits.nd rfl (.inl rfl))) (fun _ _ _ _ _ => pts_nil) (fun _ _ _ _ _ => (pe_cmpR op_eq (pcall (ok_falls T) (hr.mono (by decide)) rfl pass0 (pa_cons (pv 1) (pa_cons (pv 3) pa_nil))) (pcall (ok_meets_all T) (hr.mono (by decide)) rfl pass0 (pa_cons (pv 3) (pa_cons (pv 0) pa_nil))) (nomark _)))) pa_nil)))), ?_⟩)
  · obtain ⟨n, _, r, _⟩ := h; exact all_len r
  · obtain ⟨⟨ms, ws, n⟩, ⟨h6, hz, hw, hn⟩, ra, q⟩ := h
    dsimp only at ra q h6 hz hw hn
    obtain ⟨v1, v2, v3, rfl, r1, r2, r3⟩ := all3 ra
    cases r3
    have h2 := two_pow_le hn
    let g : Nat → Bool := fun m => Vbcjai.falls m ws == ms.all fun s => (Vbcjai.bits s).any fun i => m.testBit i
    refine st_ret (er_all (bs := (List.range (2 ^ n)).map g) ((er_lcRAn (R := fun b : Bool => IsB b) (n := 2 ^ n) (ea1 (er_call n (ea1 (er_n n rfl)) (by omega))) (by omega) g fun i hi H1 e1 => ?_).imp fun v H1 e r => lstOf_val r)) fun v H2 e2 rv => q v H2 e2 ?_
    · refine er_is (er_eq (er_call (ws, i) (ea2 (er_var (R := IsN ws) (rmono (IsN ws) e1 r2) rfl) (er_n i rfl)) hw) (er_call (i, ms) (ea2 (er_n i rfl) (er_var (R := IsN ms) (rmono (IsN ms) e1 r1) rfl)) ⟨h6, hz⟩) rfl) ?_
      rw [dec_bl]
    · show v = _
      rw [show v = _ from rv, List.all_map]
      rfl
end
end Fc
set_option maxRecDepth 100000
set_option maxHeartbeats 2000000
namespace Fc
open PySem PySem.Spec PyProof.Rows L2
theorem iv_drop (w : List Nat) (k : Nat) : iv (w.drop k) = (iv w).drop k := by unfold iv; rw [List.map_drop]
theorem iv_take (w : List Nat) (k : Nat) : iv (w.take k) = (iv w).take k := by unfold iv; rw [List.map_take]
theorem cut_mid (w : List Nat) {a b : Nat} (ha : a ≤ w.length) (hb : b ≤ w.length) : cutV (iv w) (some (a : Int)) (some (b : Int)) = iv ((w.drop a).take (b - a)) := by
  unfold cutV
  rw [HT.sIx_nat, HT.sIx_nat, iv_len, Nat.min_eq_left ha, Nat.min_eq_left hb, iv_take, iv_drop]
theorem cut_from (w : List Nat) {a : Nat} (ha : a ≤ w.length) : cutV (iv w) (some (a : Int)) none = iv (w.drop a) := by
  unfold cutV
  rw [HT.sIx_nat, HT.sIx_none, iv_len, Nat.min_eq_left ha, iv_drop, List.take_of_length_le (by rw [List.length_drop, iv_len]; omega)]
theorem cut_to (w : List Nat) {b : Nat} (hb : b ≤ w.length) : cutV (iv w) none (some (b : Int)) = iv (w.take b) := by
  unfold cutV
  rw [HT.sIx_nat, HT.sIx_none, iv_len, Nat.min_eq_left hb, iv_take, List.drop_zero]
  rfl
section
variable {K : PySem.W.Frag} {σ : L2.St} {H H' : Hp} {ta tb te tc tl ty tv : TE} {tp tq : TO} {t u : TT} {x y z v : V} {R Ra Rb : Rel} {D : Ends} {tu tw : TS} {w a b : List Nat}
theorem er_catN (ha : ER ta σ H (IsN a)) (hb : ER tb σ H (IsN b)) (hz : a.length + b.length ≤ 16000000) : ER (tOp rCat ta tb) σ H (IsN (a ++ b)) :=
  er_to (er_cat ha hb (by rw [iv_len, iv_len]; exact Nat.le_trans hz (by decide))) (by rw [← iv_append])
theorem er_oneN {n : Nat} (h : ER te σ H (IsI (n : Int))) : ER (tLst (tCons te tNil)) σ H (IsN [n]) := er_lst (xs := [.int (n : Int)]) (ea1 h) (show 1 ≤ 1000 by decide)
theorem er_cutFrom {k : Nat} (h : ER te σ H (IsN w)) (h1 : ER ta σ H (IsI (k : Int))) (hk : k ≤ w.length) : ER (tSl (rSlL K) te (tPart ta) tNoPart) σ H (IsN (w.drop k)) := er_to (er_sl h (eo_some h1) eo_none) (by rw [cut_from w hk])
theorem er_cutTo {k : Nat} (h : ER te σ H (IsN w)) (h1 : ER ta σ H (IsI (k : Int))) (hk : k ≤ w.length) : ER (tSl (rSlL K) te tNoPart (tPart ta)) σ H (IsN (w.take k)) := er_to (er_sl h eo_none (eo_some h1)) (by rw [cut_to w hk])
theorem er_cutMid {j k : Nat} (h : ER te σ H (IsN w)) (h1 : ER ta σ H (IsI (j : Int))) (h2 : ER tb σ H (IsI (k : Int))) (hj : j ≤ w.length) (hk : k ≤ w.length) : ER (tSl (rSlL K) te (tPart ta) (tPart tb)) σ H (IsN ((w.drop j).take (k - j))) := er_to (er_sl h (eo_some h1) (eo_some h2)) (by rw [cut_mid w hj hk])
theorem er_vN {k : Nat} (r : IsN w v H) (h : σ[k]? = some (some v)) : ER (tVar k) σ H (IsN w) := er_var (R := IsN w) r h
end
/-- the sets told are good -/
def goodSets (n : Nat) (l : List Int) : Bool := decide (1 ≤ l.length ∧ l.length ≤ Vbcjai.SETS) && (l.all (fun z => decide (1 ≤ z ∧ z < Int.ofNat (2 ^ n))) && decide l.Nodup)
theorem rows_le {r : List Nat} (hr : r.length ≤ 5) (t : Nat) (i : Nat) : ((r.take i).foldl rowStep [t]).length ≤ 94 := by
  have z := rows_length (r.take i) [t]
  have l : (r.take i).length ≤ 5 := by rw [List.length_take]; omega
  have p : 2 ^ (r.take i).length ≤ 2 ^ 5 := Nat.pow_le_pow_right (by decide) l
  rw [List.length_singleton] at z
  have q : 2 ^ (r.take i).length * (1 + 2) ≤ 2 ^ 5 * (1 + 2) := Nat.mul_le_mul_right _ p
  omega
theorem rowOf_le {ts : List Nat} (h : ts.length ≤ 6) : (rowOf ts).length ≤ 94 := by
  cases ts with
  | nil => decide
  | cons t r =>
    have z := rows_le (r := r) (by simpa using h) t r.length
    rw [List.take_length] at z
    exact z
section
variable {P : Program} {w : World} {K : PySem.W.Frag} {mg : Str → Option Value} {base : Heap} {c : Cl3}
abbrev s_least_sets : Stmt := (top 45)
abbrev N_least_sets : List Str := ["cord", "fingers", "found", "number", "one"]
theorem sc_least_sets : FnScope ["cord", "fingers", "found", "number", "one"] ["cord", "fingers"] (defScope s_least_sets) := ⟨rfl, rfl, rfl, by decide +kernel, rfl, by decide +kernel, by decide +kernel⟩
theorem b_least_sets : BindsP "least_sets" "least_sets" s_least_sets ["cord", "fingers"] := fun _ _ _ _ _ _ us hl => match us, hl with | [_, _], _ => rfl
theorem ok_least_sets (T : Txt K mg c) : Ok P w K mg base CX0 4 "least_sets" ["cord", "fingers"] (spF (fun p : List Nat × Nat => [IsN p.1, IsI (p.2 : Int)]) (fun p => p.1.length ≤ 1000000 ∧ p.2 ≤ 6) (fun p => IsN (Vbcjai.leastSets p.2 p.1))) := by
  refine T.least_sets.ok sc_least_sets b_least_sets (fun vs H Q E h => ?_) (fun f cdv A outer s H vs Q E hr h => ⟨_, (pss_cons (ps_set (i := 2) sc_least_sets.nd rfl (.inl rfl) (pe_lst pa_nil))
      (pss_cons (ps_for PassesOwn.never rfl (pi_list (pcall (ok_in_order T) (hr.mono (by decide)) rfl pass0 (pa_cons (pv 1) pa_nil))) (pg_name (i := 3) sc_least_sets.nd rfl (.inr rfl)) (pss_one (ps_if (PW.pt (pw_and (pt_not (pt_val (pe_callB (cr_any rfl) (by rfl) T.any boot_any (pa_cons (pe_lc (own := [("one", 4)]) rfl sc_least_sets.nd (pi_list (pv 2)) (blkOk_by (own := [("one", 4)]) (N := N_least_sets) (sc := defScope s_least_sets) (by decide +kernel)) (fun _ _ _ _ _ => (pg_name (i := 4) sc_least_sets.nd rfl (.inl rfl))) (fun _ _ _ _ _ => pts_nil) (fun _ _ _ _ _ => (pcall (ok_lies_within T) (hr.mono (by decide)) rfl pass0 (pa_cons (pv 4) (pa_cons (pv 3) pa_nil))))) pa_nil)))) (pw_and1 (pt_val (pcall (ok_falls T) (hr.mono (by decide)) rfl pass0 (pa_cons (pv 0) (pa_cons (pv 3) pa_nil))))))) (pss_one (ps_expr (pe_bm PySem.F.plainAttrs_list PySem.F.slot_list_append PySem.F.type_list_append mt_append (pv 2) (pa_cons (pv 3) pa_nil)))) pss_nil)))
      (pss_one (ps_ret (pv 2))))), ?_⟩)
  · obtain ⟨n, _, r, _⟩ := h; exact all_len r
  · obtain ⟨⟨ws, n⟩, ⟨hz, hn⟩, ra, q⟩ := h
    dsimp only at ra q hz hn
    obtain ⟨v1, v2, rfl, r1, r2⟩ := all2 ra
    cases r2
    refine st_seq (st_new fun l H1 e1 nl hl => ?_)
    dsimp only
    refine st_seq (st_src (er_call n (ea1 (er_n n rfl)) hn) fun v H2 e2 ⟨p, ev, hp⟩ => ?_)
    subst ev
    have pl : p ≠ l := fun e => by
      rw [e, e2 _ _ hl] at hp
      injection hp with hp
      injection hp with hp
      have := congrArg List.length hp
      rw [iv_len] at this
      exact inOrder_ne n (List.eq_nil_of_length_eq_zero this.symm)
    have lo := inOrder_len hn
    have exb : ∀ H', ExB [l] H2 H' → Ex H H' := fun H' b => ExB.ex (e1.trans e2) b fun l' m => by rw [List.mem_singleton.mp m]; exact nl
    refine st_listA (p := p) (xs := iv (inOrder n)) er_c hp (fun i σ' H' => ∃ o1 o2, σ' = [some v1, some (.int (n : Int)), some (.ref l), o1, o2] ∧ ExB [l] H2 H' ∧ H' l = some (.lst (iv (((inOrder n).take i).foldl (leastStep ws) []))))
      (fun H3 e3 => ⟨_, _, rfl, .of e3, e3 _ _ (e2 _ _ hl)⟩) (fun i σ' H' hP => ?_) (fun i x σ' H' hx hP => ?_) fun σ' H' hP => ?_
    · obtain ⟨o1, o2, _, b, _⟩ := hP
      exact b p _ (by simp [pl]) hp
    · obtain ⟨o1, o2, rfl, b, hl'⟩ := hP
      obtain ⟨k, hk, rfl⟩ := iv_get hx
      have k64 : k < 64 := by
        have m := (inOrder_perm n).mem_iff.mp (List.mem_of_getElem? hk)
        have := List.mem_range.mp m
        have := two_pow_le hn
        omega
      have tk := take_succ_fold (f := leastStep ws) (b := []) hk
      have fnd : ((inOrder n).take i).foldl (leastStep ws) [] = ((inOrder n).take i).filter (isLeast n ws) := least_run hn _ _ (List.take_append_drop i (inOrder n)).symm
      have lf : (((inOrder n).take i).foldl (leastStep ws) []).length ≤ 64 := by
        rw [fnd]
        have h1 := List.length_filter_le (isLeast n ws) ((inOrder n).take i)
        rw [List.length_take] at h1
        omega
      have f64 : ∀ a ∈ ((inOrder n).take i).foldl (leastStep ws) [], a < 64 := by
        rw [fnd]
        intro a ha
        have m := (inOrder_perm n).mem_iff.mp (List.mem_of_mem_take (List.mem_filter.mp ha).1)
        have := List.mem_range.mp m
        have := two_pow_le hn
        omega
      generalize hst : ((inOrder n).take i).foldl (leastStep ws) [] = fs at hl' tk lf f64
      have cw : ∀ H3, Ex H' H3 → IsN ws v1 H3 := fun H3 e3 => rmono (IsN ws) ((exb _ b).trans e3) r1
      refine st_if (Evl.et_and (Evl.et_not (et_B (er_any (bs := fs.map fun a => Vbcjai.within a k) ((er_lcAn (S := fun x : Nat => IsI (x : Int)) (R := fun b : Bool => IsB b) (as := fs) ((er_at (er_ref rfl) hl').imp fun v H3 e r => isL_of r) (by omega) (fun a => Vbcjai.within a k) fun a ha x H3 e3 hx => ?_).imp fun v H3 e r => lstOf_val r))))
        fun _ => et_B (er_call (ws, k) (ea2 (er_vN (cw _ Ex.rfl) rfl) (er_n k rfl)) hz)) (fun hb H3 e3 => ?_) fun hb H3 e3 => ?_
      · cases hx
        exact er_call (a, k) (ea2 (er_n a rfl) (er_n k rfl)) (f64 a ha)
      · rw [Bool.and_eq_true, List.any_map] at hb
        have hb : (!fs.any fun a => Vbcjai.within a k) = true ∧ Vbcjai.falls k ws = true := hb
        refine st_append (e3 _ _ hl') (er_ref rfl) (er_n k rfl) (by rw [iv_len]; omega) fun v H4 e4 r => ⟨_, _, rfl, ((b.more e3).more e4).trans (.upd (by simp)), ?_⟩
        rw [upd_same, tk]
        unfold leastStep
        rw [if_pos hb, iv_append, show v = _ from r]
        rfl
      · refine ⟨_, _, rfl, b.more e3, ?_⟩
        rw [tk]
        unfold leastStep
        rw [if_neg, e3 _ _ hl']
        rintro ⟨z1, z2⟩
        rw [List.any_map] at hb
        have : (!(fs.any (id ∘ fun a => Vbcjai.within a k))) = true := z1
        rw [this, z2] at hb
        cases hb
    · obtain ⟨o1, o2, rfl, b, hl'⟩ := hP
      rw [show (inOrder n).take (iv (inOrder n)).length = inOrder n by rw [iv_len]; exact List.take_length, least_all hn] at hl'
      exact st_ret (er_ref rfl) fun v H3 e3 r => q v H3 ((exb _ b).trans e3) ⟨l, r, e3 _ _ hl'⟩
abbrev s_want_sets : Stmt := (top 46)
abbrev N_want_sets : List Str := ["told", "fingers", "number"]
theorem sc_want_sets : FnScope ["told", "fingers", "number"] ["told", "fingers"] (defScope s_want_sets) := ⟨rfl, rfl, rfl, by decide +kernel, rfl, by decide +kernel, by decide +kernel⟩
theorem b_want_sets : BindsP "want_sets" "want_sets" s_want_sets ["told", "fingers"] := fun _ _ _ _ _ _ us hl => match us, hl with | [_, _], _ => rfl
theorem ok_want_sets (T : Txt K mg c) : Ok P w K mg base (L2.CX P w) 3 "want_sets" ["told", "fingers"] (spX c.R (fun p : List Int × Nat => [IsL (p.1.map V.int), IsI (p.2 : Int)]) (fun p => p.1.length ≤ 4000 ∧ p.2 ≤ 1000) (fun p => if goodSets p.2 p.1 = true then none else some (-3)) (fun _ => IsV .non)) := by
  refine T.want_sets.okX sc_want_sets b_want_sets (fun vs H Q E h => ?_) (fun f cdv A outer s H vs Q E hr h => ⟨_, (pss_cons (ps_if (PW.pt (pw_or (pt_not (pt_chain op_le op_le pe_int (pe_callB (r := Evl.rLenS K) call_len_seq (by rfl) T.len PySem.boot_len (pa_cons (pv 0) pa_nil)) (pconst T.MOST_SETS rfl))) (pw_or1 (pt_cmpR op_lt (pe_lenSet (by rfl) T.len (by rfl) T.set (pv 0)) (pe_callB (r := Evl.rLenS K) call_len_seq (by rfl) T.len PySem.boot_len (pa_cons (pv 0) pa_nil)) (nomark _))))) (pss_one (praise T hr (takes_of rfl rfl rfl rfl) (pa_cons (pconst T.NO_SETS rfl) pa_nil))) pss_nil)
      (pss_one (ps_if (pt_not (pt_val (pe_callB (cr_all rfl) (by rfl) T.all boot_all (pa_cons (pe_lc (own := [("number", 2)]) rfl sc_want_sets.nd (pi_list (pv 0)) (blkOk_by (own := [("number", 2)]) (N := N_want_sets) (sc := defScope s_want_sets) (by decide +kernel)) (fun _ _ _ _ _ => (pg_name (i := 2) sc_want_sets.nd rfl (.inl rfl))) (fun _ _ _ _ _ => pts_nil) (fun _ _ _ _ _ => (pe_chain op_le op_lt pe_int (pv 2) (pcall (ok_sets_of T) (hr.mono (by decide)) rfl pass0 (pa_cons (pv 1) pa_nil))))) pa_nil)))) (pss_one (praise T hr (takes_of rfl rfl rfl rfl) (pa_cons (pconst T.NO_SETS rfl) pa_nil))) pss_nil))), ?_⟩)
  · obtain ⟨n, _, r, _⟩ := h; exact all_len r
  · obtain ⟨⟨ns, n⟩, ⟨hz, hn⟩, ra, q, x⟩ := h
    dsimp only at ra q x hn hz
    obtain ⟨v1, v2, rfl, r1, r2⟩ := all2 ra
    cases r2
    have met := met_iff ns
    have lenI : ∀ H3, Ex H H3 → ER (tCB (Evl.rLenS K) (tCons (tVar 0) tNil)) (start N_want_sets [v1, .int (n : Int)]) H3 (IsI (ns.length : Int)) := fun H3 e3 => er_lenI (er_var (R := IsL (ns.map V.int)) (rmono (IsL (ns.map V.int)) e3 r1) rfl) (by rw [List.length_map])
    refine st_seq (st_if (Evl.et_or (Evl.et_not (et_test (er_chain (i := 1) (j := (ns.length : Int)) (k := 12) er_c (lenI _ Ex.rfl) er_c rfl rfl))) fun _ => et_test (er_is (er_I0 (er_lenSet (er_var (R := IsL (ns.map V.int)) r1 rfl) hz) (lenI _ Ex.rfl)) rfl)) (fun hb H1 e1 => ?_) fun hb H1 e1 => ?_)
    · refine st_raise er_c ((x (-3) ?_).mono e1)
      rw [if_neg]
      intro z
      unfold goodSets at z
      rw [Bool.and_eq_true, Bool.and_eq_true, decide_eq_true_iff, decide_eq_true_iff] at z
      obtain ⟨⟨z1, z2⟩, _, z3⟩ := z
      have z4 := met.2.mpr z3
      have z2 : ns.length ≤ 12 := z2
      rw [z4, decide_eq_true (show (1 : Int) ≤ (ns.length : Int) by omega), decide_eq_true (show (ns.length : Int) ≤ 12 by omega), decide_eq_false (show ¬ ((ns.length : Int) < (ns.length : Int)) by omega)] at hb
      cases hb
    · rw [Bool.or_eq_false_iff] at hb
      obtain ⟨hb1, hb2⟩ := hb
      have hb1 : 1 ≤ ns.length ∧ ns.length ≤ 12 := by
        by_cases z1 : (1 : Int) ≤ (ns.length : Int)
        · by_cases z2 : (ns.length : Int) ≤ 12
          · omega
          · rw [decide_eq_true z1, decide_eq_false z2] at hb1; cases hb1
        · rw [decide_eq_false z1] at hb1; cases hb1
      have hb2 := of_decide_eq_false hb2
      have nd : ns.Nodup := met.2.mp (by have := met.1; omega)
      let g : Int → Bool := fun z => decide (1 ≤ z) && decide (z < ((2 ^ n : Nat) : Int))
      dsimp only
      have gg : goodSets n ns = ns.all g := by
        unfold goodSets
        rw [decide_eq_true (show 1 ≤ ns.length ∧ ns.length ≤ Vbcjai.SETS from hb1), decide_eq_true nd, Bool.true_and, Bool.and_true]
        congr 1
        funext z
        show decide (1 ≤ z ∧ z < ((2 ^ n : Nat) : Int)) = (decide (1 ≤ z) && decide (z < ((2 ^ n : Nat) : Int)))
        rw [Bool.decide_and]
      refine st_if (Evl.et_not (et_B (er_all (bs := ns.map g) ((er_lcAn (S := fun z : Int => IsI z) (R := fun b : Bool => IsB b) (as := ns) (er_var (R := LstOf (fun z : Int => IsI z) ns) (isL_of (rmono (IsL (ns.map V.int)) e1 r1)) rfl) (by omega) g fun a ha y H2 e2 hy => ?_).imp fun v H2 e r => lstOf_val r)))) (fun hb H2 e2 => ?_) fun hb H2 e2 => ?_
      · cases hy
        exact er_chain (i := 1) (j := a) (k := ((2 ^ n : Nat) : Int)) er_c (er_v rfl) (er_call n (ea1 (er_n n rfl)) hn) rfl rfl
      · refine st_raise er_c ((x (-3) ?_).mono (e1.trans e2))
        rw [if_neg]
        rw [gg]
        intro z
        rw [List.all_map, show (id ∘ g) = g from rfl, z] at hb
        cases hb
      · refine q ?_ .non H2 (e1.trans e2) rfl
        rw [if_pos]
        rw [gg]
        rw [List.all_map, show (id ∘ g) = g from rfl] at hb
        cases z : ns.all g with
        | true => rfl
        | false => rw [z] at hb; cases hb
abbrev s_part_for : Stmt := (top 47)
abbrev N_part_for : List Str := ["number", "fingers", "turns", "finger", "row", "turn"]
theorem sc_part_for : FnScope ["number", "fingers", "turns", "finger", "row", "turn"] ["number", "fingers"] (defScope s_part_for) := ⟨rfl, rfl, rfl, by decide +kernel, rfl, by decide +kernel, by decide +kernel⟩
theorem b_part_for : BindsP "part_for" "part_for" s_part_for ["number", "fingers"] := fun _ _ _ _ _ _ us hl => match us, hl with | [_, _], _ => rfl
theorem ok_part_for (T : Txt K mg c) : Ok P w K mg base CX0 3 "part_for" ["number", "fingers"] (spF (fun p : Nat × Nat => [IsI (p.1 : Int), IsI (p.2 : Int)]) (fun p => p.2 ≤ 6 ∧ 1 ≤ p.1 ∧ p.1 < 2 ^ p.2) (fun p => IsN (rowOf ((Vbcjai.bits p.1).map fun i => 2 * i)))) := by
  refine T.part_for.ok sc_part_for b_part_for (fun vs H Q E h => ?_) (fun f cdv A outer s H vs Q E hr h => ⟨_, (pss_cons (ps_setLc (i := 2) (own := [("finger", 3)]) rfl sc_part_for.nd rfl rfl (sw_true rfl rfl rfl (by decide +kernel)) (pi_list (pcall (ok_fingers_in T) (hr.mono (by decide)) rfl pass0 (pa_cons (pv 0) (pa_cons (pv 1) pa_nil)))) (blkOk_by (own := [("finger", 3)]) (N := N_part_for) (sc := defScope s_part_for) (by decide +kernel)) (fun _ _ _ _ _ => (pg_name (i := 3) sc_part_for.nd rfl (.inl rfl))) (fun _ _ _ _ _ => pts_nil) (fun _ _ _ _ _ => (pcall (ok_small_turn T) (hr.mono (by decide)) rfl pass0 (pa_cons (pv 3) pa_nil))))
      (pss_cons (ps_set (i := 4) sc_part_for.nd rfl (.inl rfl) (pe_lst (pa_cons (pe_ix (r := rIxL K) ix_list (pv 2) pe_int (fun _ _ => rfl)) pa_nil)))
      (pss_cons (ps_for PassesOwn.never rfl (pi_list (pe_slice sl_list (pv 2) (po_some pe_int) po_none)) (pg_name (i := 5) sc_part_for.nd rfl (.inl rfl)) (pss_one (ps_set (i := 4) sc_part_for.nd rfl (.inl rfl) (pe_op op_cat (pe_op op_cat (pe_op op_cat (pv 4) (pe_lst (pa_cons (pv 5) pa_nil))) (pcall (ok_turned_back T) (hr.mono (by decide)) rfl pass0 (pa_cons (pv 4) pa_nil))) (pe_lst (pa_cons (pcall (ok_undo T) (hr.mono (by decide)) rfl pass0 (pa_cons (pv 5) pa_nil)) pa_nil))))))
      (pss_one (ps_ret (pv 4)))))), ?_⟩)
  · obtain ⟨n, _, r, _⟩ := h; exact all_len r
  · obtain ⟨⟨m, n⟩, ⟨hn, h1, hm⟩, ra, q⟩ := h
    dsimp only at ra q hn hm h1
    obtain ⟨v1, v2, rfl, r1, r2⟩ := all2 ra
    cases r1; cases r2
    have m64 : m < 64 := Nat.lt_of_lt_of_le hm (two_pow_le hn)
    have bl := bits_le m
    refine st_seq (st_asg (er_lcAn (S := fun x : Nat => IsI (x : Int)) (R := fun x : Nat => IsI (x : Int)) (as := Vbcjai.bits m) ((er_call (m, n) (ea2 (er_n m rfl) (er_n n rfl)) ⟨hn, hm⟩).imp fun v H1 e r => isL_of r) (by omega) (fun i => 2 * i) fun a ha x H1 e1 hx => ?_) fun tv H1 e1 rt => ?_)
    · cases hx
      exact er_call a (ea1 (er_n a rfl)) trivial
    · have rt : IsN ((Vbcjai.bits m).map fun i => 2 * i) tv H1 := lstOf_val rt
      have lt : ((Vbcjai.bits m).map fun i => 2 * i).length ≤ 6 := by rw [List.length_map]; exact bl
      have ne : ((Vbcjai.bits m).map fun i => 2 * i) ≠ [] := fun z => bits_some m m64 h1 (List.map_eq_nil_iff.mp z)
      generalize ((Vbcjai.bits m).map fun i => 2 * i) = ts at rt lt ne q
      obtain ⟨t, r, rfl⟩ : ∃ t r, ts = t :: r := by
        cases ts with
        | nil => exact absurd rfl ne
        | cons t r => exact ⟨t, r, rfl⟩
      have lr : r.length ≤ 5 := by simpa using lt
      dsimp only
      refine st_seq (st_asg (er_oneN (er_ixN (j := 0) (er_vN rt rfl) er_c rfl)) fun rv H2 e2 rr => ?_)
      dsimp only
      refine st_seq (st_listX (S := fun x : Nat => IsI (x : Int)) (bs := r) ((er_cutFrom (k := 1) (er_vN (rmono (IsN (t :: r)) e2 rt) rfl) er_c (by simp)).imp fun v H3 e3 r3 => isL_of r3)
        (fun H3 i σ' H' => ∃ rv o3 o5, σ' = [some (.int (m : Int)), some (.int (n : Int)), some tv, o3, some rv, o5] ∧ Ex H3 H' ∧ IsN ((r.take i).foldl rowStep [t]) rv H')
        (fun H3 e3 => ⟨rv, _, _, rfl, Ex.rfl, rmono (IsN [t]) e3 rr⟩) (fun _ _ _ _ ⟨_, _, _, _, e, _⟩ => e) (fun H3 i x y σ' H' e3 hb hy hJ => ?_) fun H3 σ' H' e3 hJ => ?_)
      · obtain ⟨rv, o3, o5, rfl, ex, rr⟩ := hJ
        cases hy
        have tk := take_succ_fold (f := rowStep) (b := [t]) hb
        have l1 := rows_le lr t i
        generalize (r.take i).foldl rowStep [t] = row at rr tk l1
        have lb : (Vbcjai.back row).length = row.length := by unfold Vbcjai.back; rw [List.length_map, List.length_reverse]
        refine st_asg (er_catN (er_catN (er_catN (er_vN rr rfl) (er_oneN (er_n x rfl)) ?_) (er_call row (ea1 (er_vN rr rfl)) (by omega)) ?_) (er_oneN (er_call x (ea1 (er_n x rfl)) trivial)) ?_) fun v H4 e4 r4 => ⟨v, _, _, rfl, ex.trans e4, ?_⟩
        · simp; omega
        · rw [List.length_append, lb]; simp; omega
        · rw [List.length_append, List.length_append, lb]; simp; omega
        · rw [tk]
          exact r4
      · obtain ⟨rv, o3, o5, rfl, ex, rr⟩ := hJ
        rw [List.take_length] at rr
        exact st_ret (er_vN rr rfl) fun v H4 e4 r4 => q v H4 ((((e1.trans e2).trans e3).trans ex).trans e4) r4
abbrev s_cord_made : Stmt := (top 48)
abbrev N_cord_made : List Str := ["told", "fingers", "whole", "number"]
theorem sc_cord_made : FnScope ["told", "fingers", "whole", "number"] ["told", "fingers"] (defScope s_cord_made) := ⟨rfl, rfl, rfl, by decide +kernel, rfl, by decide +kernel, by decide +kernel⟩
theorem b_cord_made : BindsP "cord_made" "cord_made" s_cord_made ["told", "fingers"] := fun _ _ _ _ _ _ us hl => match us, hl with | [_, _], _ => rfl
theorem ok_cord_made (T : Txt K mg c) : Ok P w K mg base CX0 4 "cord_made" ["told", "fingers"] (spF (fun p : List Nat × Nat => [IsN p.1, IsI (p.2 : Int)]) (fun p => p.2 ≤ 6 ∧ p.1.length ≤ 12 ∧ ∀ m ∈ p.1, 1 ≤ m ∧ m < 2 ^ p.2) (fun p => IsN (Vbcjai.made p.1))) := by
  refine T.cord_made.ok sc_cord_made b_cord_made (fun vs H Q E h => ?_) (fun f cdv A outer s H vs Q E hr h => ⟨_, (pss_cons (ps_set (i := 2) sc_cord_made.nd rfl (.inl rfl) (pe_lst pa_nil))
      (pss_cons (ps_for PassesOwn.never rfl (pi_list (pv 0)) (pg_name (i := 3) sc_cord_made.nd rfl (.inl rfl)) (pss_one (ps_set (i := 2) sc_cord_made.nd rfl (.inl rfl) (pe_op op_cat (pv 2) (pcall (ok_part_for T) (hr.mono (by decide)) rfl pass0 (pa_cons (pv 3) (pa_cons (pv 1) pa_nil)))))))
      (pss_one (ps_ret (pcall (ok_pulled_taut T) (hr.mono (by decide)) rfl pass0 (pa_cons (pv 2) pa_nil)))))), ?_⟩)
  · obtain ⟨n, _, r, _⟩ := h; exact all_len r
  · obtain ⟨⟨ms, n⟩, ⟨hn, h12, hm⟩, ra, q⟩ := h
    dsimp only at ra q hn hm h12
    obtain ⟨v1, v2, rfl, r1, r2⟩ := all2 ra
    cases r2
    let part : Nat → List Nat := fun m => rowOf ((Vbcjai.bits m).map fun i => 2 * i)
    have pl : ∀ m, (part m).length ≤ 94 := fun m => rowOf_le (by rw [List.length_map]; exact bits_le m)
    have fl : ∀ l : List Nat, (l.flatMap part).length ≤ 94 * l.length := by
      intro l
      induction l with
      | nil => simp
      | cons a l ih => rw [List.flatMap_cons, List.length_append, List.length_cons]; have := pl a; omega
    refine st_seq (st_asg (er_to (er_lst (xs := []) ea_nil (show 0 ≤ 1000 by decide)) (show IsL [] = IsN [] from rfl)) fun wv H1 e1 rw0 => ?_)
    dsimp only
    refine st_seq (st_listX (S := fun x : Nat => IsI (x : Int)) (bs := ms) (er_var (R := LstOf (fun x : Nat => IsI (x : Int)) ms) (isL_of (rmono (IsN ms) e1 r1)) rfl)
      (fun H3 i σ' H' => ∃ rv o3, σ' = [some v1, some (.int (n : Int)), some rv, o3] ∧ Ex H3 H' ∧ IsN ((ms.take i).flatMap part) rv H')
      (fun H3 e3 => ⟨wv, _, rfl, Ex.rfl, rmono (IsN []) e3 rw0⟩) (fun _ _ _ _ ⟨_, _, _, e, _⟩ => e) (fun H3 i x y σ' H' e3 hb hy hJ => ?_) fun H3 σ' H' e3 hJ => ?_)
    · obtain ⟨rv, o3, rfl, ex, rr⟩ := hJ
      cases hy
      have l1 := fl (ms.take i)
      rw [List.length_take] at l1
      have l2 := pl x
      have l3 : 94 * min i ms.length ≤ 94 * 12 := Nat.mul_le_mul_left _ (by omega)
      have hx := hm x (List.mem_of_getElem? hb)
      refine st_asg (er_catN (er_vN rr rfl) (er_call (x, n) (ea2 (er_n x rfl) (er_n n rfl)) ⟨hn, hx.1, hx.2⟩) (by show _ + (part x).length ≤ _; omega)) fun v H4 e4 r4 => ⟨v, _, rfl, ex.trans e4, ?_⟩
      rw [List.take_add_one, hb, List.flatMap_append]
      show IsN (_ ++ ([x]).flatMap part) v H4
      rw [List.flatMap_cons, List.flatMap_nil, List.append_nil]
      exact r4
    · obtain ⟨rv, o3, rfl, ex, rr⟩ := hJ
      rw [List.take_length] at rr
      have l1 := fl ms
      have l2 : (ms.flatMap part).length ≤ 1000000 := by have : 94 * ms.length ≤ 94 * 12 := Nat.mul_le_mul_left _ h12; omega
      dsimp only
      refine st_ret (er_call (ms.flatMap part) (ea1 (er_vN rr rfl)) l2) fun v H4 e4 r4 => q v H4 (((e1.trans e3).trans ex).trans e4) ?_
      show IsN (Vbcjai.made ms) v H4
      rw [made_is]
      exact r4
end
end Fc
set_option maxRecDepth 100000
set_option maxHeartbeats 2000000
namespace Fc
open PySem PySem.Spec PyProof.Rows L2
theorem off_upto (t : List Nat) : ∀ n : Nat, (∀ j, j < n → endsUndo t j = true) ∨ ∃ m, OffAt t m
  | 0 => .inl fun _ z => absurd z (Nat.not_lt_zero _)
  | n + 1 => by
    rcases off_upto t n with h | h
    · cases e : endsUndo t n with
      | true =>
        refine .inl fun j hj => ?_
        rcases Nat.lt_or_ge j n with k | k
        · exact h j k
        · rw [show j = n by omega]; exact e
      | false => exact .inr ⟨n, h, e⟩
    · exact .inr h
theorem off_ex (t : List Nat) : ∃ m, OffAt t m := by
  rcases off_upto t (t.length + 1) with h | h
  · have z := (endsUndo_iff.mp (h t.length (by omega))).1
    omega
  · exact h
noncomputable def offOf (t : List Nat) : Nat := Classical.choose (off_ex t)
theorem offOf_at (t : List Nat) : OffAt t (offOf t) := Classical.choose_spec (off_ex t)
theorem OffAt.eq {t : List Nat} {m : Nat} (h : OffAt t m) : m = offOf t := by
  have k := offOf_at t
  rcases Nat.lt_trichotomy m (offOf t) with l | e | g
  · have z := k.all m l
    rw [h.stop] at z
    cases z
  · exact e
  · have z := h.all _ g
    rw [k.stop] at z
    cases z
/-- the shortest part -/
def PartR (w : List Nat) : Rel := fun v H => ∃ p, PartAt w p ∧ IsN (w.take p) v H
instance (w : List Nat) : Mono (PartR w) := ⟨fun {v H H'} e ⟨p, a, r⟩ => ⟨p, a, rmono (IsN (w.take p)) e r⟩⟩
theorem iv_flat (k : Nat) (w : List Nat) : (List.replicate k (iv w)).flatten = iv (List.replicate k w).flatten := by
  induction k with
  | zero => rfl
  | succ k ih => rw [List.replicate_succ, List.replicate_succ, List.flatten_cons, List.flatten_cons, iv_append, ih]
theorem rep_len (k : Nat) (w : List Nat) : (List.replicate k w).flatten.length = k * w.length := by
  induction k with
  | zero => simp
  | succ k ih => rw [List.replicate_succ, List.flatten_cons, List.length_append, ih, Nat.succ_mul]; omega
section
variable {K : PySem.W.Frag} {σ : L2.St} {H H' : Hp} {ta tb te tc tl ty tv : TE} {t u : TT} {x y z v : V} {R Ra Rb : Rel} {D : Ends} {tu tw : TS} {w a b : List Nat}
/-- a loop over a range from one number to another -/
theorem st_range2 {ta : TA} {lo n : Nat} {g : TG} (h : EA ta σ H [IsI (lo : Int), IsI (n : Int)]) (hl : lo ≤ 2000000) (hn : n ≤ 2000000) (Pv : Nat → L2.St → Hp → Prop) (h0 : ∀ H1, Ex H H1 → Pv 0 σ H1)
    (hs : ∀ i σ' H', lo + i < n → Pv i σ' H' → g (.int ((lo + i : Nat) : Int)) σ' H' fun σ2 H2 => tu { D with nx := Pv (i + 1), ct := Pv (i + 1), bk := D.nx } σ2 H2) (hd : ∀ σ' H', Pv (n - lo) σ' H' → D.nx σ' H') : tFor (iRng2 ta) g tu D σ H := by
  refine h H Ex.rfl _ fun vs H1 e1 r => ?_
  have ev : vs = [V.int (lo : Int), V.int (n : Int)] := isL_all2 (xs := [V.int (lo : Int), V.int (n : Int)]) r
  refine ⟨lo, n, ev, ⟨by omega, by omega, by omega, by omega⟩, ?_⟩
  refine for_range (lo := (lo : Int)) (n := ((n : Int) - (lo : Int)).toNat) Pv (h0 H1 e1) (fun i σ' H' hi p => ?_) (fun σ' H' p => hd σ' H' (by rw [show ((n : Int) - (lo : Int)).toNat = n - lo by omega] at p; exact p))
  have q := hs i σ' H' (by omega) p
  rw [show (lo : Int) + (i : Int) = ((lo + i : Nat) : Int) by omega]
  exact q
theorem er_repN {k : Nat} (ha : ER ta σ H (IsN w)) (hb : ER tb σ H (IsI (k : Int))) (hk : k ≤ 1000000) (hz : w.length * k ≤ 16000000) : ER (tOp rRep ta tb) σ H (IsN (List.replicate k w).flatten) :=
  er_to (er_rep ha hb ⟨by omega, by omega⟩ (by rw [iv_len, Int.toNat_natCast]; exact Nat.le_trans hz (by decide))) (by rw [Int.toNat_natCast, iv_flat])
theorem er_divN {m n : Nat} (ha : ER ta σ H (IsI (m : Int))) (hb : ER tb σ H (IsI (n : Int))) (h0 : 0 < n) (h1 : n ≤ 1000000) : ER (tOp (rI CDiv fun i j => .int (i / j)) ta tb) σ H (IsI ((m / n : Nat) : Int)) := er_I ha hb ⟨by omega, by omega⟩
theorem er_modN {m n : Nat} (ha : ER ta σ H (IsI (m : Int))) (hb : ER tb σ H (IsI (n : Int))) (h0 : 0 < n) : ER (tOp (rI (fun _ j => 0 < j) fun i j => .int (i % j)) ta tb) σ H (IsI ((m % n : Nat) : Int)) := er_I ha hb (by omega)
theorem er_nil : ER (tLst tNil) σ H (IsN []) := er_to (er_lst (xs := []) ea_nil (show 0 ≤ 1000 by decide)) (show IsL [] = IsN [] from rfl)
end
section
variable {P : Program} {w : World} {K : PySem.W.Frag} {mg : Str → Option Value} {base : Heap} {c : Cl3}
/-! ### closed cords, roots -/
abbrev s_off_at_ends : Stmt := (top 52)
abbrev N_off_at_ends : List Str := ["taut", "many"]
theorem sc_off_at_ends : FnScope ["taut", "many"] ["taut"] (defScope s_off_at_ends) := ⟨rfl, rfl, rfl, by decide +kernel, rfl, by decide +kernel, by decide +kernel⟩
theorem b_off_at_ends : BindsP "off_at_ends" "off_at_ends" s_off_at_ends ["taut"] := fun _ _ _ _ _ _ us hl => match us, hl with | [_], _ => rfl
theorem ok_off_at_ends (T : Txt K mg c) : Ok P w K mg base CX0 2 "off_at_ends" ["taut"] (spF (fun w : List Nat => [IsN w]) (fun _ => True) (fun w => IsI (offOf w : Nat))) := by
  refine T.off_at_ends.ok sc_off_at_ends b_off_at_ends (fun vs H Q E h => ?_) (fun f cdv A outer s H vs Q E hr h => ⟨_, (pss_cons (ps_set (i := 1) sc_off_at_ends.nd rfl (.inl rfl) pe_int)
      (pss_cons (ps_while PassesOwn.never (PW.pt (pw_and (pt_cmpR op_ge (pe_op op_sub (pe_callB (r := Evl.rLenS K) call_len_seq (by rfl) T.len PySem.boot_len (pa_cons (pv 0) pa_nil)) (pe_op op_mul pe_int (pv 1))) pe_int (nomark _)) (pw_and1 (pt_cmpR op_eq (pe_ix (r := rIxL K) ix_list (pv 0) (pv 1) (fun _ _ => rfl)) (pcall (ok_undo T) (hr.mono (by decide)) rfl pass0 (pa_cons (pe_ix (r := rIxL K) ix_list (pv 0) (pe_op op_sub (pe_op op_sub (pe_callB (r := Evl.rLenS K) call_len_seq (by rfl) T.len PySem.boot_len (pa_cons (pv 0) pa_nil)) pe_int) (pv 1)) (fun _ _ => rfl)) pa_nil)) (nomark _))))) (pss_one (ps_aug (i := 1) sc_off_at_ends.nd rfl (.inl rfl) pe_int ip_add)))
      (pss_one (ps_ret (pv 1))))), ?_⟩)
  · obtain ⟨n, _, r, _⟩ := h; exact all_len r
  · obtain ⟨ws, _, ra, q⟩ := h
    obtain ⟨v, rfl, r⟩ := all1 ra
    refine st_seq (st_asg (er_c (v := .int 0)) fun v1 H1 e1 r1 => ?_)
    have ev : v1 = .int ((0 : Nat) : Int) := r1
    subst ev
    dsimp only
    refine st_seq (Evl.s_while (fun m σ' H' => ∃ k : Nat, σ' = [some v, some (.int (k : Int))] ∧ Ex H H' ∧ (∀ j, j < k → endsUndo ws j = true) ∧ m + k = ws.length + 1) (ws.length + 1) ⟨0, rfl, e1, (fun _ z => absurd z (Nat.not_lt_zero _)), rfl⟩ (fun m σ' H' hW => ?_))
    obtain ⟨k, rfl, ex, al, hm⟩ := hW
    have hk : 2 * k ≤ ws.length := by
      rcases Nat.eq_zero_or_pos k with e | e
      · omega
      · have z := (endsUndo_iff.mp (al (k - 1) (by omega))).1
        omega
    have rl : ∀ H3, Ex H' H3 → IsN ws v H3 := fun H3 e3 => rmono (IsN ws) (ex.trans e3) r
    refine ⟨endsUndo ws k, ?_, fun hb H3 e3 => ?_, fun hb H3 e3 => ?_⟩
    · unfold endsUndo
      refine Evl.et_and (et_is (et_test (er_I0 (er_sub (er_lenN (er_vN (rl _ Ex.rfl) rfl)) (er_twice (er_n k rfl)) hk) er_c)) ?_) fun h0 => ?_
      · exact decide_eq_decide.mpr (by omega)
      · have h0 := of_decide_eq_true h0
        have g1 : ws[k]? = some (ws.getD k 0) := by rw [List.getD_eq_getElem?_getD, List.getElem?_eq_getElem (by omega)]; rfl
        have g2 : ws[ws.length - 1 - k]? = some (ws.getD (ws.length - 1 - k) 0) := by rw [List.getD_eq_getElem?_getD, List.getElem?_eq_getElem (by omega)]; rfl
        refine et_is (et_test (er_eq (er_ixN (er_vN (rl _ Ex.rfl) rfl) (er_n k rfl) g1) (er_call _ (ea1 (er_ixN (er_vN (rl _ Ex.rfl) rfl) (er_sub (er_sub (er_lenN (er_vN (rl _ Ex.rfl) rfl)) er_c (b := 1) (by omega)) (er_n k rfl) (by omega)) g2)) trivial) rfl)) ?_
        rw [int_eq]
        rfl
    · refine ⟨_, fun σ2 H2 h => h, ?_⟩
      refine st_aug (a := (k : Int)) (b := 1) rfl er_c fun H4 e4 => ⟨m - 1, ?_, k + 1, rfl, (ex.trans e3).trans e4, fun j hj => ?_, ?_⟩
      · omega
      · rcases Nat.lt_or_ge j k with l | l
        · exact al j l
        · rw [show j = k by omega]; exact hb
      · omega
    · have e : k = offOf ws := OffAt.eq ⟨al, hb⟩
      subst e
      exact st_ret (er_n _ rfl) fun v2 H4 e4 r4 => q v2 H4 ((ex.trans e3).trans e4) r4
abbrev s_middle_of : Stmt := (top 53)
abbrev N_middle_of : List Str := ["taut", "many"]
theorem sc_middle_of : FnScope ["taut", "many"] ["taut"] (defScope s_middle_of) := ⟨rfl, rfl, rfl, by decide +kernel, rfl, by decide +kernel, by decide +kernel⟩
theorem b_middle_of : BindsP "middle_of" "middle_of" s_middle_of ["taut"] := fun _ _ _ _ _ _ us hl => match us, hl with | [_], _ => rfl
theorem ok_middle_of (T : Txt K mg c) : Ok P w K mg base CX0 3 "middle_of" ["taut"] (spF (fun w : List Nat => [IsN w]) (fun _ => True) (fun w => IsN (core w (offOf w)))) := by
  refine T.middle_of.ok sc_middle_of b_middle_of (fun vs H Q E h => ?_) (fun f cdv A outer s H vs Q E hr h => ⟨_, (pss_cons (ps_set (i := 1) sc_middle_of.nd rfl (.inl rfl) (pcall (ok_off_at_ends T) (hr.mono (by decide)) rfl pass0 (pa_cons (pv 0) pa_nil)))
      (pss_one (ps_ret (pe_slice sl_list (pv 0) (po_some (pv 1)) (po_some (pe_op op_sub (pe_callB (r := Evl.rLenS K) call_len_seq (by rfl) T.len PySem.boot_len (pa_cons (pv 0) pa_nil)) (pv 1))))))), ?_⟩)
  · obtain ⟨n, _, r, _⟩ := h; exact all_len r
  · obtain ⟨ws, _, ra, q⟩ := h
    obtain ⟨v, rfl, r⟩ := all1 ra
    have le := (offOf_at ws).le
    refine st_seq (st_asg (er_call ws (ea1 (er_vN r rfl)) trivial) fun v1 H1 e1 r1 => ?_)
    have ev : v1 = .int ((offOf ws : Nat) : Int) := r1
    subst ev
    dsimp only
    have r' := rmono (IsN ws) e1 r
    refine st_ret (er_to (er_cutMid (j := offOf ws) (k := ws.length - offOf ws) (er_vN r' rfl) (er_n _ rfl) (er_sub (er_lenN (er_vN r' rfl)) (er_n _ rfl) (by omega)) (by omega) (by omega)) ?_) fun v2 H2 e2 r2 => q v2 H2 (e1.trans e2) r2
    unfold core
    rw [show ws.length - offOf ws - offOf ws = ws.length - 2 * offOf ws by omega]
abbrev s_first_of_all : Stmt := (top 54)
abbrev N_first_of_all : List Str := ["ring", "twice", "found", "start", "other"]
theorem sc_first_of_all : FnScope ["ring", "twice", "found", "start", "other"] ["ring"] (defScope s_first_of_all) := ⟨rfl, rfl, rfl, by decide +kernel, rfl, by decide +kernel, by decide +kernel⟩
theorem b_first_of_all : BindsP "first_of_all" "first_of_all" s_first_of_all ["ring"] := fun _ _ _ _ _ _ us hl => match us, hl with | [_], _ => rfl
theorem ok_first_of_all (T : Txt K mg c) : Ok P w K mg base CX0 1 "first_of_all" ["ring"] (spF (fun w : List Nat => [IsN w]) (fun w => w.length ≤ 1000000) (fun w => IsN (firstTurning w))) := by
  refine T.first_of_all.ok sc_first_of_all b_first_of_all (fun vs H Q E h => ?_) (fun f cdv A outer s H vs Q E hr h => (have hu0 := hr.units0; ⟨_, (pss_cons (ps_set (i := 1) sc_first_of_all.nd rfl (.inl rfl) (pe_op op_cat (pv 0) (pv 0)))
      (pss_cons (ps_set (i := 2) sc_first_of_all.nd rfl (.inl rfl) (pv 0))
      (pss_cons (ps_for PassesOwn.never rfl (pi_range1 (by rfl) T.range (pa_cons (pe_callB (r := Evl.rLenS K) call_len_seq (by rfl) T.len PySem.boot_len (pa_cons (pv 0) pa_nil)) pa_nil)) (pg_name (i := 3) sc_first_of_all.nd rfl (.inl rfl)) (pss_cons (ps_set (i := 4) sc_first_of_all.nd rfl (.inl rfl) (pe_slice sl_list (pv 1) (po_some (pv 3)) (po_some (pe_op op_add (pv 3) (pe_callB (r := Evl.rLenS K) call_len_seq (by rfl) T.len PySem.boot_len (pa_cons (pv 0) pa_nil))))))
      (pss_one (ps_if (pt_cmpR (op_ltN hu0) (pv 4) (pv 2) (nomark _)) (pss_one (ps_set (i := 2) sc_first_of_all.nd rfl (.inl rfl) (pv 4))) pss_nil))))
      (pss_one (ps_ret (pv 2)))))), ?_⟩))
  · obtain ⟨n, _, r, _⟩ := h; exact all_len r
  · obtain ⟨ws, hz, ra, q⟩ := h
    obtain ⟨v, rfl, r⟩ := all1 ra
    refine st_seq (st_asg (er_catN (er_vN r rfl) (er_vN r rfl) (by omega)) fun tv H1 e1 rt => ?_)
    dsimp only
    have r1 := rmono (IsN ws) e1 r
    refine st_seq (st_asg (er_vN r1 rfl) fun fv H2 e2 rf => ?_)
    dsimp only
    have r2 := rmono (IsN ws) e2 r1
    have rt2 := rmono (IsN (ws ++ ws)) e2 rt
    refine st_seq (st_range1 (n := ws.length) (ea1 (er_lenN (er_vN r2 rfl))) (by omega) (fun i σ' H' => ∃ fv o3 o4, σ' = [some v, some tv, some fv, o3, o4] ∧ Ex H2 H' ∧ IsN ((List.range i).foldl (fun a i => better a (turning ws i)) ws) fv H')
      (fun H3 e3 => ⟨fv, _, _, rfl, e3, rmono (IsN ws) e3 rf⟩) (fun i σ' H' hi hP => ?_) fun σ' H' hP => ?_)
    · obtain ⟨fv, o3, o4, rfl, ex, rf⟩ := hP
      have st : (List.range (i + 1)).foldl (fun a i => better a (turning ws i)) ws = better ((List.range i).foldl (fun a i => better a (turning ws i)) ws) (turning ws i) := by
        rw [List.range_succ, List.foldl_append]; rfl
      generalize (List.range i).foldl (fun a i => better a (turning ws i)) ws = acc at rf st
      have rr := rmono (IsN ws) ex r2
      have rtt := rmono (IsN (ws ++ ws)) ex rt2
      refine st_seq (st_asg (er_to (er_cutMid (j := i) (k := i + ws.length) (er_vN rtt rfl) (er_n i rfl) (er_add (er_n i rfl) (er_lenN (er_vN rr rfl))) (by rw [List.length_append]; omega) (by rw [List.length_append]; omega))
        (show _ = IsN (turning ws i) by rw [show i + ws.length - i = ws.length by omega, twice_cut ws (Nat.le_of_lt hi)])) fun ov H3 e3 ro => ?_)
      refine st_if (et_test (er_ltN (er_vN ro rfl) (er_vN (rmono (IsN acc) e3 rf) rfl))) (fun hb H4 e4 => ?_) fun hb H4 e4 => ?_
      · refine st_asg (er_vN (rmono (IsN (turning ws i)) e4 ro) rfl) fun nv H5 e5 rn => ⟨nv, _, _, rfl, ((ex.trans e3).trans e4).trans e5, ?_⟩
        rw [st]
        unfold better
        rw [if_pos hb]
        exact rn
      · refine ⟨fv, _, _, rfl, (ex.trans e3).trans e4, ?_⟩
        rw [st]
        unfold better
        rw [if_neg (by rw [hb]; exact Bool.false_ne_true)]
        exact rmono (IsN acc) (e3.trans e4) rf
    · obtain ⟨fv, o3, o4, rfl, ex, rf⟩ := hP
      exact st_ret (er_vN rf rfl) fun v2 H3 e3 r3 => q v2 H3 (((e1.trans e2).trans ex).trans e3) r3
theorem core_le (t : List Nat) (m : Nat) : (core t m).length ≤ t.length := by
  unfold core
  rw [List.length_take, List.length_drop]
  omega
abbrev s_one_form : Stmt := (top 55)
abbrev N_one_form : List Str := ["cord"]
theorem sc_one_form : FnScope ["cord"] ["cord"] (defScope s_one_form) := ⟨rfl, rfl, rfl, by decide +kernel, rfl, by decide +kernel, by decide +kernel⟩
theorem b_one_form : BindsP "one_form" "one_form" s_one_form ["cord"] := fun _ _ _ _ _ _ us hl => match us, hl with | [_], _ => rfl
theorem ok_one_form (T : Txt K mg c) : Ok P w K mg base CX0 4 "one_form" ["cord"] (spF (fun w : List Nat => [IsN w]) (fun w => w.length ≤ 1000000) (fun w => IsN (Vbcjai.ring w))) := by
  refine T.one_form.ok sc_one_form b_one_form (fun vs H Q E h => ?_) (fun f cdv A outer s H vs Q E hr h => ⟨_, (pss_one (ps_ret (pcall (ok_first_of_all T) (hr.mono (by decide)) rfl pass0 (pa_cons (pcall (ok_middle_of T) (hr.mono (by decide)) rfl pass0 (pa_cons (pcall (ok_pulled_taut T) (hr.mono (by decide)) rfl pass0 (pa_cons (pv 0) pa_nil)) pa_nil)) pa_nil)))), ?_⟩)
  · obtain ⟨n, _, r, _⟩ := h; exact all_len r
  · obtain ⟨ws, hz, ra, q⟩ := h
    obtain ⟨v, rfl, r⟩ := all1 ra
    have tl := taut_length ws
    have cl := core_le (Vbcjai.taut ws) (offOf (Vbcjai.taut ws))
    refine st_ret (er_to (er_call (core (Vbcjai.taut ws) (offOf (Vbcjai.taut ws))) (ea1 (er_call (Vbcjai.taut ws) (ea1 (er_call ws (ea1 (er_vN r rfl)) hz)) trivial)) (by omega)) ?_) fun v2 H2 e2 r2 => q v2 H2 e2 r2
    show _ = IsN (Vbcjai.ring ws)
    rw [ring_off (offOf_at (Vbcjai.taut ws))]
abbrev s_are_alike : Stmt := (top 56)
abbrev N_are_alike : List Str := ["one", "other"]
theorem sc_are_alike : FnScope ["one", "other"] ["one", "other"] (defScope s_are_alike) := ⟨rfl, rfl, rfl, by decide +kernel, rfl, by decide +kernel, by decide +kernel⟩
theorem b_are_alike : BindsP "are_alike" "are_alike" s_are_alike ["one", "other"] := fun _ _ _ _ _ _ us hl => match us, hl with | [_, _], _ => rfl
theorem ok_are_alike (T : Txt K mg c) : Ok P w K mg base CX0 5 "are_alike" ["one", "other"] (spF (fun p : List Nat × List Nat => [IsN p.1, IsN p.2]) (fun p => p.1.length ≤ 1000000 ∧ p.2.length ≤ 1000000) (fun p => IsB (decide (Vbcjai.ring p.1 = Vbcjai.ring p.2)))) := by
  refine T.are_alike.ok sc_are_alike b_are_alike (fun vs H Q E h => ?_) (fun f cdv A outer s H vs Q E hr h => (have hu64 := hu64_of hr; ⟨_, (pss_one (ps_ret (pe_cmpR (op_eqD hu64) (pcall (ok_one_form T) (hr.mono (by decide)) rfl pass0 (pa_cons (pv 0) pa_nil)) (pcall (ok_one_form T) (hr.mono (by decide)) rfl pass0 (pa_cons (pv 1) pa_nil)) (nomark _)))), ?_⟩))
  · obtain ⟨n, _, r, _⟩ := h; exact all_len r
  · obtain ⟨⟨a, b⟩, ⟨h1, h2⟩, ra, q⟩ := h
    dsimp only at ra q h1 h2
    obtain ⟨v1, v2, rfl, r1, r2⟩ := all2 ra
    exact st_ret (er_eqL (er_call a (ea1 (er_vN r1 rfl)) h1) (er_call b (ea1 (er_vN r2 rfl)) h2)) fun v2 H2 e2 r2 => q v2 H2 e2 r2
abbrev s_are_the_same : Stmt := (top 57)
abbrev N_are_the_same : List Str := ["one", "other"]
theorem sc_are_the_same : FnScope ["one", "other"] ["one", "other"] (defScope s_are_the_same) := ⟨rfl, rfl, rfl, by decide +kernel, rfl, by decide +kernel, by decide +kernel⟩
theorem b_are_the_same : BindsP "are_the_same" "are_the_same" s_are_the_same ["one", "other"] := fun _ _ _ _ _ _ us hl => match us, hl with | [_, _], _ => rfl
theorem ok_are_the_same (T : Txt K mg c) : Ok P w K mg base CX0 3 "are_the_same" ["one", "other"] (spF (fun p : List Nat × List Nat => [IsN p.1, IsN p.2]) (fun p => p.1.length ≤ 1000000 ∧ p.2.length ≤ 1000000) (fun p => IsB (decide (Vbcjai.taut p.1 = Vbcjai.taut p.2)))) := by
  refine T.are_the_same.ok sc_are_the_same b_are_the_same (fun vs H Q E h => ?_) (fun f cdv A outer s H vs Q E hr h => (have hu64 := hu64_of hr; ⟨_, (pss_one (ps_ret (pe_cmpR (op_eqD hu64) (pcall (ok_pulled_taut T) (hr.mono (by decide)) rfl pass0 (pa_cons (pv 0) pa_nil)) (pcall (ok_pulled_taut T) (hr.mono (by decide)) rfl pass0 (pa_cons (pv 1) pa_nil)) (nomark _)))), ?_⟩))
  · obtain ⟨n, _, r, _⟩ := h; exact all_len r
  · obtain ⟨⟨a, b⟩, ⟨h1, h2⟩, ra, q⟩ := h
    dsimp only at ra q h1 h2
    obtain ⟨v1, v2, rfl, r1, r2⟩ := all2 ra
    exact st_ret (er_eqL (er_call a (ea1 (er_vN r1 rfl)) h1) (er_call b (ea1 (er_vN r2 rfl)) h2)) fun v2 H2 e2 r2 => q v2 H2 e2 r2
abbrev s_shortest_part : Stmt := (top 58)
abbrev N_shortest_part : List Str := ["ring", "long"]
theorem sc_shortest_part : FnScope ["ring", "long"] ["ring"] (defScope s_shortest_part) := ⟨rfl, rfl, rfl, by decide +kernel, rfl, by decide +kernel, by decide +kernel⟩
theorem b_shortest_part : BindsP "shortest_part" "shortest_part" s_shortest_part ["ring"] := fun _ _ _ _ _ _ us hl => match us, hl with | [_], _ => rfl
theorem ok_shortest_part (T : Txt K mg c) : Ok P w K mg base CX0 1 "shortest_part" ["ring"] (spF (fun w : List Nat => [IsN w]) (fun w => w ≠ [] ∧ w.length ≤ 1000000) (fun w => PartR w)) := by
  refine T.shortest_part.ok sc_shortest_part b_shortest_part (fun vs H Q E h => ?_) (fun f cdv A outer s H vs Q E hr h => (have hu64 := hu64_of hr; ⟨_, (pss_cons (ps_for PassesOwn.never rfl (pi_range2 (by rfl) T.range (pa_cons pe_int (pa_cons (pe_callB (r := Evl.rLenS K) call_len_seq (by rfl) T.len PySem.boot_len (pa_cons (pv 0) pa_nil)) pa_nil))) (pg_name (i := 1) sc_shortest_part.nd rfl (.inl rfl)) (pss_one (ps_if (PW.pt (pw_and (pt_cmpR op_eq (pe_op op_mod (pe_callB (r := Evl.rLenS K) call_len_seq (by rfl) T.len PySem.boot_len (pa_cons (pv 0) pa_nil)) (pv 1)) pe_int (nomark _)) (pw_and1 (pt_cmpR (op_eqD hu64) (pe_op op_rep (pe_slice sl_list (pv 0) po_none (po_some (pv 1))) (pe_op op_fdiv (pe_callB (r := Evl.rLenS K) call_len_seq (by rfl) T.len PySem.boot_len (pa_cons (pv 0) pa_nil)) (pv 1))) (pv 0) (nomark _))))) (pss_one (ps_ret (pe_slice sl_list (pv 0) po_none (po_some (pv 1))))) pss_nil)))
      (pss_one (ps_ret (pv 0)))), ?_⟩))
  · obtain ⟨n, _, r, _⟩ := h; exact all_len r
  · obtain ⟨ws, ⟨ne, hz⟩, ra, q⟩ := h
    obtain ⟨v, rfl, r⟩ := all1 ra
    have pos : 0 < ws.length := List.length_pos_iff.mpr ne
    refine st_seq (st_range2 (lo := 1) (n := ws.length) (ea2 er_c (er_lenN (er_vN r rfl))) (by omega) (by omega) (fun i σ' H' => ∃ o, σ' = [some v, o] ∧ Ex H H' ∧ ∀ p, 1 ≤ p → p < 1 + i → partOk ws p = false)
      (fun H3 e3 => ⟨_, rfl, e3, fun p h1 h2 => absurd h1 (by omega)⟩) (fun i σ' H' hi hP => ?_) fun σ' H' hP => ?_)
    · obtain ⟨o, rfl, ex, al⟩ := hP
      have rl : ∀ H3, Ex H' H3 → IsN ws v H3 := fun H3 e3 => rmono (IsN ws) (ex.trans e3) r
      have tk : (ws.take (1 + i)).length = 1 + i := by rw [List.length_take]; omega
      refine st_if (b := partOk ws (1 + i)) ?_ (fun hb H4 e4 => ?_) fun hb H4 e4 => ?_
      · unfold partOk
        refine Evl.et_and (et_is (et_eqN (er_modN (er_lenN (er_vN (rl _ Ex.rfl) rfl)) (er_n (1 + i) rfl) (by omega)) er_c (b := 0)) rfl) fun h0 => ?_
        have dv : (1 + i) * (ws.length / (1 + i)) ≤ ws.length := Nat.mul_div_le _ _
        refine et_is (et_test (er_eqL (er_repN (k := ws.length / (1 + i)) (er_cutTo (k := 1 + i) (er_vN (rl _ Ex.rfl) rfl) (er_n (1 + i) rfl) (by omega)) (er_divN (er_lenN (er_vN (rl _ Ex.rfl) rfl)) (er_n (1 + i) rfl) (by omega) (by omega)) (Nat.le_trans (Nat.div_le_self _ _) hz) (by rw [tk]; omega)) (er_vN (rl _ Ex.rfl) rfl))) ?_
        by_cases c0 : ws = (List.replicate (ws.length / (1 + i)) (ws.take (1 + i))).flatten
        · rw [decide_eq_true c0.symm]; exact (beq_iff_eq.mpr c0).symm
        · rw [decide_eq_false fun z => c0 z.symm]; exact (beq_eq_false_iff_ne.mpr c0).symm
      · exact st_ret (er_cutTo (k := 1 + i) (er_vN (rl _ e4) rfl) (er_n (1 + i) rfl) (by omega)) fun v2 H5 e5 r5 => q v2 H5 ((ex.trans e4).trans e5) ⟨1 + i, ⟨by omega, by omega, al, hb⟩, r5⟩
      · refine ⟨_, rfl, ex.trans e4, fun p h1 h2 => ?_⟩
        rcases Nat.lt_or_ge p (1 + i) with l | l
        · exact al p h1 l
        · rw [show p = 1 + i by omega]; exact hb
    · obtain ⟨o, rfl, ex, al⟩ := hP
      refine st_ret (er_vN (rmono (IsN ws) ex r) rfl) fun v2 H5 e5 r5 => q v2 H5 (ex.trans e5) ⟨ws.length, ⟨pos, Nat.le_refl _, fun p h1 h2 => al p h1 (by omega), partOk_whole ne⟩, ?_⟩
      rw [List.take_length]
      exact r5
abbrev s_root_of : Stmt := (top 59)
abbrev N_root_of : List Str := ["cord", "taut", "many", "ring", "part"]
theorem sc_root_of : FnScope ["cord", "taut", "many", "ring", "part"] ["cord"] (defScope s_root_of) := ⟨rfl, rfl, rfl, by decide +kernel, rfl, by decide +kernel, by decide +kernel⟩
theorem b_root_of : BindsP "root_of" "root_of" s_root_of ["cord"] := fun _ _ _ _ _ _ us hl => match us, hl with | [_], _ => rfl
theorem ok_root_of (T : Txt K mg c) : Ok P w K mg base CX0 4 "root_of" ["cord"] (spF (fun w : List Nat => [IsN w]) (fun w => w.length ≤ 1000000) (fun w => TupOf [IsI ((Vbcjai.root w).2 : Nat), IsN (Vbcjai.root w).1])) := by
  refine T.root_of.ok sc_root_of b_root_of (fun vs H Q E h => ?_) (fun f cdv A outer s H vs Q E hr h => ⟨_, (pss_cons (ps_set (i := 1) sc_root_of.nd rfl (.inl rfl) (pcall (ok_pulled_taut T) (hr.mono (by decide)) rfl pass0 (pa_cons (pv 0) pa_nil)))
      (pss_cons (ps_if (pt_cmpR op_eq (pe_callB (r := Evl.rLenS K) call_len_seq (by rfl) T.len PySem.boot_len (pa_cons (pv 1) pa_nil)) pe_int (nomark _)) (pss_one (ps_ret (pe_tup (pa_cons pe_int (pa_cons (pe_lst pa_nil) pa_nil))))) pss_nil)
      (pss_cons (ps_set (i := 2) sc_root_of.nd rfl (.inl rfl) (pcall (ok_off_at_ends T) (hr.mono (by decide)) rfl pass0 (pa_cons (pv 1) pa_nil)))
      (pss_cons (ps_set (i := 3) sc_root_of.nd rfl (.inl rfl) (pcall (ok_middle_of T) (hr.mono (by decide)) rfl pass0 (pa_cons (pv 1) pa_nil)))
      (pss_cons (ps_set (i := 4) sc_root_of.nd rfl (.inl rfl) (pcall (ok_shortest_part T) (hr.mono (by decide)) rfl pass0 (pa_cons (pv 3) pa_nil)))
      (pss_one (ps_ret (pe_tup (pa_cons (pe_op op_fdiv (pe_callB (r := Evl.rLenS K) call_len_seq (by rfl) T.len PySem.boot_len (pa_cons (pv 3) pa_nil)) (pe_callB (r := Evl.rLenS K) call_len_seq (by rfl) T.len PySem.boot_len (pa_cons (pv 4) pa_nil))) (pa_cons (pe_op op_cat (pe_op op_cat (pe_slice sl_list (pv 1) po_none (po_some (pv 2))) (pv 4)) (pe_slice sl_list (pv 1) (po_some (pe_op op_sub (pe_callB (r := Evl.rLenS K) call_len_seq (by rfl) T.len PySem.boot_len (pa_cons (pv 1) pa_nil)) (pv 2))) po_none)) pa_nil)))))))))), ?_⟩)
  · obtain ⟨n, _, r, _⟩ := h; exact all_len r
  · obtain ⟨ws, hz, ra, q⟩ := h
    obtain ⟨v, rfl, r⟩ := all1 ra
    have tl := taut_length ws
    refine st_seq (st_asg (er_call ws (ea1 (er_vN r rfl)) hz) fun tv H1 e1 rt => ?_)
    dsimp only
    refine st_seq (st_if (et_eqN (b := 0) (er_lenN (er_vN rt rfl)) er_c) (fun hb H2 e2 => ?_) fun hb H2 e2 => ?_)
    · have hb := of_decide_eq_true hb
      refine st_ret (er_tup (Rs := [IsI ((0 : Nat) : Int), IsN []]) (ea2 er_c er_nil) (show 2 ≤ 1000 by decide)) fun v2 H3 e3 r3 => q v2 H3 ((e1.trans e2).trans e3) ?_
      show TupOf [IsI ((Vbcjai.root ws).2 : Nat), IsN (Vbcjai.root ws).1] v2 H3
      rw [root_nil (List.eq_nil_of_length_eq_zero hb)]
      exact r3
    · have hb := of_decide_eq_false hb
      have red := taut_red ws
      have off := offOf_at (Vbcjai.taut ws)
      have rootis := fun p hp => root_off (w := ws) (p := p) off hp
      have ne : Vbcjai.taut ws ≠ [] := fun z => hb (by rw [z]; rfl)
      have some_ := off_some red ne off
      generalize Vbcjai.taut ws = t at rt off rootis ne some_ tl
      have cl := core_le t (offOf t)
      have cn : core t (offOf t) ≠ [] := fun z => by
        have := core_length (t := t) (m := offOf t) (by omega)
        rw [z, List.length_nil] at this
        omega
      unfold tNext
      dsimp only
      refine st_seq (st_asg (er_call t (ea1 (er_vN (rmono (IsN t) e2 rt) rfl)) trivial) fun mv H3 e3 rm => ?_)
      have ev : mv = .int ((offOf t : Nat) : Int) := rm
      subst ev
      dsimp only
      refine st_seq (st_asg (er_call t (ea1 (er_vN (rmono (IsN t) (e2.trans e3) rt) rfl)) trivial) fun cv H4 e4 rc => ?_)
      dsimp only
      refine st_seq (st_asg (er_call (core t (offOf t)) (ea1 (er_vN rc rfl)) ⟨cn, by omega⟩) fun pv H5 e5 rp => ?_)
      obtain ⟨p, pa, rp⟩ := rp
      dsimp only
      have rt5 := rmono (IsN t) (((e2.trans e3).trans e4).trans e5) rt
      have rc5 := rmono (IsN (core t (offOf t))) e5 rc
      have lp : ((core t (offOf t)).take p).length = p := by rw [List.length_take]; have := pa.le; omega
      have p1 := pa.pos
      have p2 := pa.le
      refine st_ret (er_tup (Rs := [IsI (((core t (offOf t)).length / p : Nat) : Int), IsN (t.take (offOf t) ++ (core t (offOf t)).take p ++ t.drop (t.length - offOf t))]) (ea2 ?_ ?_) (show 2 ≤ 1000 by decide)) fun v2 H6 e6 r6 => q v2 H6 ((((((e1.trans e2).trans e3).trans e4).trans e5)).trans e6) ?_
      · exact er_divN (er_lenN (er_vN rc5 rfl)) (er_is (er_lenN (er_vN rp rfl)) (by rw [lp])) (by omega) (by omega)
      · refine er_catN (er_catN (er_cutTo (k := offOf t) (er_vN rt5 rfl) (er_n _ rfl) (by omega)) (er_vN rp rfl) ?_) (er_cutFrom (k := t.length - offOf t) (er_vN rt5 rfl) (er_sub (er_lenN (er_vN rt5 rfl)) (er_n _ rfl) (by omega)) (by omega)) ?_
        · rw [List.length_take, lp]; omega
        · rw [List.length_append, List.length_take, lp, List.length_drop]; omega
      · show TupOf [IsI ((Vbcjai.root ws).2 : Nat), IsN (Vbcjai.root ws).1] v2 H6
        rw [rootis p pa]
        rw [List.append_assoc] at r6
        exact r6
end
end Fc
set_option maxRecDepth 100000
set_option maxHeartbeats 2000000
namespace Fc
open PySem PySem.Spec PyProof.Rows L2
theorem optOf_val {o : Option Nat} {v : V} {H : Hp} (r : OptOf (fun x : Nat => IsI (x : Int)) o v H) : IsV (optV o) v H := by
  cases o with
  | none => exact r
  | some x => exact r
theorem optV_non (o : Option Nat) : decide (optV o = .non) = o.isNone := by
  cases o with
  | none => rfl
  | some x => rfl
theorem inV_iv (c : Nat) : ∀ l : List Nat, inV (.int (c : Int)) (iv l) = l.contains c
  | [] => rfl
  | a :: l => by
    show (eqV (.int (a : Int)) (.int (c : Int)) || inV (.int (c : Int)) (iv l)) = _
    rw [inV_iv c l, List.contains_cons]
    congr 1
    show ((a : Int) == (c : Int)) = (c == a)
    by_cases e : a = c
    · rw [e]; simp
    · have h1 : ((a : Int) == (c : Int)) = false := beq_eq_false_iff_ne.mpr fun z => e (Int.ofNat.inj z)
      have h2 : (c == a) = false := beq_eq_false_iff_ne.mpr fun z => e z.symm
      rw [h1, h2]
theorem flat_iv (l : List Nat) : (iv l).all flatV = true := by
  unfold iv
  rw [List.all_map]
  exact List.all_eq_true.mpr fun _ _ => rfl
theorem find_fault {p : Nat → Bool} : ∀ {a : List Nat} {c : Nat} {r : List Nat}, (∀ x ∈ a, p x = false) → p c = true → (a ++ c :: r).findIdx? p = some a.length
  | [], c, r, _, h => by rw [List.nil_append, List.findIdx?_cons, h]; rfl
  | x :: a, c, r, ha, h => by
    rw [List.cons_append, List.findIdx?_cons, ha x List.mem_cons_self, find_fault (fun y hy => ha y (List.mem_cons_of_mem _ hy)) h]
    rfl
theorem fault_none {n : Nat} {also t : List Nat} (h : faultAt n also t = none) {c : Nat} (hc : c ∈ t) (ha : also.contains c = false) : Vbcjai.turnOf n c = some (turnAt n c) := by
  unfold faultAt at h
  rw [List.findIdx?_eq_none_iff] at h
  have q := h c hc
  rw [ha] at q
  unfold turnAt
  cases k : Vbcjai.turnOf n c with
  | none => rw [k] at q; cases q
  | some x => rfl
/-- what a text is refused with -/
def readNo (n : Nat) (also t : List Nat) : Option Int := if 2000 < t.length then some (-8) else (faultAt n also t).map fun k : Nat => (-1000 : Int) - (k : Int)
theorem spl {α : Type} {l : List α} {i : Nat} {a : α} (h : l[i]? = some a) : l = l.take i ++ a :: l.drop (i + 1) := by
  have hi : i < l.length := (List.getElem?_eq_some_iff.mp h).1
  have e : l[i] = a := (List.getElem?_eq_some_iff.mp h).2
  rw [← e, ← List.drop_eq_getElem_cons hi, List.take_append_drop]
theorem sum_total : ∀ ws : List (List Nat), ((ws.map List.length).map fun n : Nat => (n : Int)).sum = (total ws : Nat)
  | [] => rfl
  | w :: ws => by
    rw [List.map_cons, List.map_cons, List.sum_cons, sum_total ws, total_cons]
    omega
theorem paired_upd {H : Hp} {q : Addr} {o : HO} : ∀ {A : List (List Nat)} {qs : List Addr}, Paired (fun w a => H a = some (.lst (iv w))) A qs → q ∉ qs → Paired (fun w a => upd H q o a = some (.lst (iv w))) A qs
  | _, _, .nil, _ => .nil
  | _, _, .cons r t, h => by
    rename_i a qs
    refine .cons ?_ (paired_upd t fun z => h (List.mem_cons_of_mem _ z))
    rw [upd_ne (fun e => h (by rw [e]; exact List.mem_cons_self))]
    exact r
theorem paired_ex {H H' : Hp} (e : Ex H H') : ∀ {A : List (List Nat)} {qs : List Addr}, Paired (fun w a => H a = some (.lst (iv w))) A qs → Paired (fun w a => H' a = some (.lst (iv w))) A qs
  | _, _, .nil => .nil
  | _, _, .cons r t => .cons (e _ _ r) (paired_ex e t)
theorem paired_snoc2 {β γ : Type} {F : β → γ → Prop} : ∀ {bs : List β} {xs : List γ} {b : β} {x : γ}, Paired F bs xs → F b x → Paired F (bs ++ [b]) (xs ++ [x])
  | _, _, _, _, .nil, h => .cons h .nil
  | _, _, _, _, .cons r t, h => .cons r (paired_snoc2 t h)
theorem paired_unsnoc {β γ : Type} {F : β → γ → Prop} : ∀ {bs : List β} {b : β} {xs : List γ}, Paired F (bs ++ [b]) xs → ∃ ys y, xs = ys ++ [y] ∧ Paired F bs ys ∧ F b y
  | [], b, _, .cons r .nil => ⟨[], _, rfl, .nil, r⟩
  | a :: bs, b, _, .cons r t => by
    obtain ⟨ys, y, rfl, h1, h2⟩ := paired_unsnoc t
    exact ⟨_ :: ys, y, rfl, .cons r h1, h2⟩
theorem paired_all2 {β γ : Type} {F : β → γ → Prop} : ∀ {bs : List β} {xs : List γ}, Paired F bs xs → ∀ x ∈ xs, ∃ b, F b x
  | _, _, .nil, _, h => nomatch h
  | _, _, .cons r t, x, h => by
    rcases List.mem_cons.mp h with e | h
    · rw [e]; exact ⟨_, r⟩
    · exact paired_all2 t x h
theorem pieces_small {n : Nat} {t w : List Nat} (h : w ∈ t.foldl (pieceStep n) [[]]) : w.length ≤ t.length + 1 := by
  rw [pieces] at h
  have z := total_mem h
  rw [total_map] at z
  have := parted_size 59 t
  omega
theorem pieces_ne (n : Nat) (t : List Nat) : t.foldl (pieceStep n) [[]] ≠ [] := by
  rw [pieces]
  intro z
  exact parted_ne 59 t (List.map_eq_nil_iff.mp z)
theorem paired_cords {H : Hp} : ∀ {A : List (List Nat)} {qs : List Addr}, Paired (fun w a => H a = some (.lst (iv w))) A qs → Paired (fun b x => IsN b x H) A (qs.map V.ref)
  | _, _, .nil => .nil
  | _, _, .cons r t => .cons ⟨_, rfl, r⟩ (paired_cords t)
theorem some_last {α : Type} {l : List α} (h : l ≠ []) : ∃ a b, l = a ++ [b] := by
  cases e : l.getLast? with
  | none => exact absurd (List.getLast?_eq_none_iff.mp e) h
  | some x =>
    obtain ⟨a, rfl⟩ := List.getLast?_eq_some_iff.mp e
    exact ⟨a, x, rfl⟩
/-- what's put for a turn -/
def putS (s : List (List Nat)) (x : Nat) : List Nat := let u := s.getD (x / 2) []; if x % 2 = 0 then u else Vbcjai.back u
theorem swapped_is (s : List (List Nat)) (w : List Nat) : Vbcjai.swapped s w = Vbcjai.taut (w.flatMap (putS s)) := rfl
theorem often_succ (s : List (List Nat)) (k : Nat) (w : List Nat) : Vbcjai.swappedOften s (k + 1) w = if 2000 < (Vbcjai.swapped s w).length then none else Vbcjai.swappedOften s k (Vbcjai.swapped s w) := rfl
theorem putS_len {s : List (List Nat)} {m : Nat} (h : ∀ c ∈ s, c.length ≤ m) (x : Nat) : (putS s x).length ≤ m := by
  have k : (s.getD (x / 2) []).length ≤ m := by
    rw [List.getD_eq_getElem?_getD]
    cases e : s[x / 2]? with
    | none => exact Nat.zero_le _
    | some c => exact h c (List.mem_of_getElem? e)
  unfold putS
  dsimp only
  split
  · exact k
  · unfold Vbcjai.back; rw [List.length_map, List.length_reverse]; exact k
theorem puts_len {s : List (List Nat)} {m : Nat} (h : ∀ c ∈ s, c.length ≤ m) : ∀ w : List Nat, (w.flatMap (putS s)).length ≤ w.length * m
  | [] => by simp
  | x :: w => by
    rw [List.flatMap_cons, List.length_append, List.length_cons, Nat.succ_mul]
    have := putS_len h x
    have := puts_len h w
    omega
theorem other_half (x : Nat) : Vbcjai.other x / 2 = x / 2 := by
  unfold Vbcjai.other
  split <;> omega
theorem putS_in {s : List (List Nat)} {m : Nat} (h : ∀ c ∈ s, ∀ x ∈ c, x / 2 < m) (x : Nat) : ∀ y ∈ putS s x, y / 2 < m := by
  have k : ∀ y ∈ s.getD (x / 2) [], y / 2 < m := by
    rw [List.getD_eq_getElem?_getD]
    cases e : s[x / 2]? with
    | none => intro y hy; cases hy
    | some c => exact h c (List.mem_of_getElem? e)
  unfold putS
  dsimp only
  intro y hy
  split at hy
  · exact k y hy
  · unfold Vbcjai.back at hy
    obtain ⟨z, hz, rfl⟩ := List.mem_map.mp hy
    rw [other_half]
    exact k z (List.mem_reverse.mp hz)
theorem swapped_in {s : List (List Nat)} {m : Nat} (h : ∀ c ∈ s, ∀ x ∈ c, x / 2 < m) (w : List Nat) : ∀ y ∈ Vbcjai.swapped s w, y / 2 < m := fun y hy => by
  rw [swapped_is] at hy
  obtain ⟨x, _, h2⟩ := List.mem_flatMap.mp (taut_mem hy)
  exact putS_in h x y h2
/-- lists of one number each: they don't look at the list that's being filled with them -/
instance (f : Nat → Nat) : Stable (fun i : Nat => IsN [f i]) := ⟨by
  intro H l ys zs h hy b x r
  obtain ⟨p, e, hp⟩ := r
  refine ⟨p, e, ?_⟩
  rw [upd_ne (fun z => ?_)]
  · exact hp
  · rw [z, h] at hp
    injection hp with hp
    injection hp with hp
    rw [hp] at hy
    obtain ⟨b', p', e', _⟩ := hy (V.int (f b : Nat)) (by show _ ∈ iv [f b]; unfold iv; simp)
    cases e'⟩
theorem lst_map {α β : Type} {S : β → Rel} {f : α → β} {as : List α} {v : V} {H : Hp} (r : LstOf (fun a => S (f a)) as v H) : LstOf S (as.map f) v H := by
  obtain ⟨p, xs, e, hp, pr⟩ := r
  refine ⟨p, xs, e, hp, ?_⟩
  clear hp e
  induction as generalizing xs with
  | nil => cases pr; exact .nil
  | cons a as ih => cases pr with
    | cons r t => exact .cons r (ih _ t)
section
variable {K : PySem.W.Frag} {σ : L2.St} {H H' : Hp} {ta tb te tc tl ty tv : TE} {t u : TT} {x y z v : V} {R Ra Rb : Rel} {D : Ends} {tu tw : TS} {w a b : List Nat}
theorem st_appendNew {l : Addr} {xs : List V} (hl : H l = some (.lst xs)) (ha : ER ta σ H (IsV (.ref l))) (hz : xs.length ≤ 16000000) (k : ∀ p H1, Ex H H1 → H1 p = none → D.nx σ (upd (upd H1 p (.lst [])) l (.lst (xs ++ [.ref p])))) :
    tDrop (tBM K "list" rAppend ta (tCons (tLst tNil) tNil)) D σ H := ha H Ex.rfl _ fun a H1 e1 ra => by
  have ea : a = .ref l := ra
  subst ea
  exact ⟨.inl ⟨rfl, xs, .of (e1 l _ hl)⟩, Nat.zero_le _, fun p hp => ⟨l, xs, .ref p, rfl, rfl, by rw [upd_ne (ne_of_none (e1 _ _ hl) hp)]; exact e1 _ _ hl, Nat.lt_of_le_of_lt hz (by decide), k p H1 e1 hp⟩⟩
end
section
variable {P : Program} {w : World} {K : PySem.W.Frag} {mg : Str → Option Value} {base : Heap} {c : Cl3}
/-! ### texts -/
abbrev s_want_short : Stmt := (top 70)
abbrev N_want_short : List Str := ["text"]
theorem sc_want_short : FnScope ["text"] ["text"] (defScope s_want_short) := ⟨rfl, rfl, rfl, by decide +kernel, rfl, by decide +kernel, by decide +kernel⟩
theorem b_want_short : BindsP "want_short" "want_short" s_want_short ["text"] := fun _ _ _ _ _ _ us hl => match us, hl with | [_], _ => rfl
theorem ok_want_short (T : Txt K mg c) : Ok P w K mg base (L2.CX P w) 3 "want_short" ["text"] (spX c.R (fun t : List Nat => [IsN t]) (fun _ => True) (fun t => if 2000 < t.length then some (-8) else none) (fun _ => IsV .non)) := by
  refine T.want_short.okX sc_want_short b_want_short (fun vs H Q E h => ?_) (fun f cdv A outer s H vs Q E hr h => ⟨_, (pss_one (ps_if (pt_cmpR op_gt (pe_callB (r := Evl.rLenS K) call_len_seq (by rfl) T.len PySem.boot_len (pa_cons (pv 0) pa_nil)) (pconst T.LONGEST rfl) (nomark _)) (pss_one (praise T hr (takes_of rfl rfl rfl rfl) (pa_cons (pconst T.TEXT_TOO_LONG rfl) pa_nil))) pss_nil)), ?_⟩)
  · obtain ⟨n, _, r, _⟩ := h; exact all_len r
  · obtain ⟨ws, _, ra, q, x⟩ := h
    dsimp only at ra q x
    obtain ⟨v, rfl, r⟩ := all1 ra
    refine st_if (b := decide (2000 < ws.length)) (et_is (et_test (er_I0 (er_lenN (er_vN r rfl)) er_c)) ?_) (fun hb H1 e1 => ?_) fun hb H1 e1 => ?_
    · exact decide_eq_decide.mpr (by omega)
    · exact st_raise er_c ((x (-8) (if_pos (of_decide_eq_true hb))).mono e1)
    · exact q (if_neg (of_decide_eq_false hb)) .non H1 e1 rfl
abbrev s_want_letters : Stmt := (top 71)
abbrev N_want_letters : List Str := ["text", "fingers", "also", "place"]
theorem sc_want_letters : FnScope ["text", "fingers", "also", "place"] ["text", "fingers", "also"] (defScope s_want_letters) := ⟨rfl, rfl, rfl, by decide +kernel, rfl, by decide +kernel, by decide +kernel⟩
theorem b_want_letters : BindsP "want_letters" "want_letters" s_want_letters ["text", "fingers", "also"] := fun _ _ _ _ _ _ us hl => match us, hl with | [_, _, _], _ => rfl
theorem ok_want_letters (T : Txt K mg c) : Ok P w K mg base (L2.CX P w) 3 "want_letters" ["text", "fingers", "also"] (spX c.R (fun p : List Nat × Nat × List Nat => [IsN p.1, IsI (p.2.1 : Int), IsT (iv p.2.2)]) (fun p => p.1.length ≤ 1000000) (fun p => (faultAt p.2.1 p.2.2 p.1).map fun k : Nat => (-1000 : Int) - (k : Int)) (fun _ => IsV .non)) := by
  refine T.want_letters.okX sc_want_letters b_want_letters (fun vs H Q E h => ?_) (fun f cdv A outer s H vs Q E hr h => ⟨_, (pss_one (ps_for (passes_of rfl) rfl (pi_range1 (by rfl) T.range (pa_cons (pe_callB (r := Evl.rLenS K) call_len_seq (by rfl) T.len PySem.boot_len (pa_cons (pv 0) pa_nil)) pa_nil)) (pg_name (i := 3) sc_want_letters.nd rfl (.inl rfl)) (pss_one (ps_if (PW.pt (pw_and (pt_cmpR op_notIn_seq (pe_ix (r := rIxL K) ix_list (pv 0) (pv 3) (fun _ _ => rfl)) (pv 2) (by rfl)) (pw_and1 (pt_cmpR op_isN (pcall (ok_turn_read T) (hr.mono (by decide)) rfl pass0 (pa_cons (pe_ix (r := rIxL K) ix_list (pv 0) (pv 3) (fun _ _ => rfl)) (pa_cons (pv 1) pa_nil))) pe_non (nomark _))))) (pss_one (praise T hr (takes_of rfl rfl rfl rfl) (pa_cons (pe_op op_sub (pconst T.FAULT rfl) (pv 3)) pa_nil))) pss_nil)))), ?_⟩)
  · obtain ⟨n, _, r, _⟩ := h; exact all_len r
  · obtain ⟨⟨ts, n, also⟩, hz, ra, q, x⟩ := h
    dsimp only at ra q x hz
    obtain ⟨v1, v2, v3, rfl, r1, r2, r3⟩ := all3 ra
    cases r2
    refine st_range1 (n := ts.length) (ea1 (er_lenN (er_vN r1 rfl))) (by omega) (fun i σ' H' => ∃ o, σ' = [some v1, some (.int (n : Int)), some v3, o] ∧ Ex H H' ∧ ∀ b ∈ ts.take i, (!also.contains b && (Vbcjai.turnOf n b).isNone) = false)
      (fun H3 e3 => ⟨_, rfl, e3, fun b hb => by rw [List.take_zero] at hb; cases hb⟩) (fun i σ' H' hi hP => ?_) fun σ' H' hP => ?_
    · obtain ⟨o, rfl, ex, al⟩ := hP
      have hb : ts[i]? = some ts[i] := List.getElem?_eq_getElem hi
      generalize ts[i] = b at hb
      have rt : IsN ts v1 H' := rmono (IsN ts) ex r1
      have ix : ∀ H3, Ex H' H3 → ER (tOp (rIxL K) (tVar 0) (tVar 3)) [some v1, some (.int (n : Int)), some v3, some (.int (i : Int))] H3 (IsI (b : Int)) := fun H3 e3 => er_ixN (er_vN (rmono (IsN ts) e3 rt) rfl) (er_n i rfl) hb
      refine st_if (b := !also.contains b && (Vbcjai.turnOf n b).isNone) (Evl.et_and (et_is (et_test (er_inT (ix _ Ex.rfl) (er_var (R := IsT (iv also)) (rmono (IsT (iv also)) ex r3) rfl) rfl (flat_iv also))) ?_) fun _ => et_is (et_test (er_isN ((er_call (b, n) (ea2 (ix _ Ex.rfl) (er_n n rfl)) trivial).imp fun v H3 e r => optOf_val r))) (optV_non _)) (fun hc H3 e3 => ?_) fun hc H3 e3 => ?_
      · rw [if_pos rfl, inV_iv]
      · refine st_raise (er_I0 er_c (er_n i rfl)) ((x (-1000 - (i : Int)) ?_).mono (ex.trans e3))
        unfold faultAt
        have e := spl hb
        have z := find_fault (p := fun c => !also.contains c && (Vbcjai.turnOf n c).isNone) (r := ts.drop (i + 1)) al hc
        rw [← e, List.length_take, Nat.min_eq_left (Nat.le_of_lt hi)] at z
        rw [z]
        rfl
      · refine ⟨_, rfl, ex.trans e3, fun y hy => ?_⟩
        rw [List.take_add_one, hb, List.mem_append] at hy
        rcases hy with hy | hy
        · exact al y hy
        · have e : y = b := by simpa using hy
          rw [e]
          exact hc
    · obtain ⟨o, rfl, ex, al⟩ := hP
      rw [List.take_length] at al
      refine q ?_ .non _ ex rfl
      unfold faultAt
      rw [List.findIdx?_eq_none_iff.mpr al]
      rfl
abbrev s_cord_read : Stmt := (top 72)
abbrev N_cord_read : List Str := ["text", "fingers", "byte"]
theorem sc_cord_read : FnScope ["text", "fingers", "byte"] ["text", "fingers"] (defScope s_cord_read) := ⟨rfl, rfl, rfl, by decide +kernel, rfl, by decide +kernel, by decide +kernel⟩
theorem b_cord_read : BindsP "cord_read" "cord_read" s_cord_read ["text", "fingers"] := fun _ _ _ _ _ _ us hl => match us, hl with | [_, _], _ => rfl
theorem ok_cord_read (T : Txt K mg c) : Ok P w K mg base (L2.CX P w) 4 "cord_read" ["text", "fingers"] (spX c.R (fun p : List Nat × Nat => [IsN p.1, IsI (p.2 : Int)]) (fun p => p.1.length ≤ 1000000) (fun p => readNo p.2 [] p.1) (fun p => IsN (p.1.map (turnAt p.2)))) := by
  refine T.cord_read.okX sc_cord_read b_cord_read (fun vs H Q E h => ?_) (fun f cdv A outer s H vs Q E hr h => ⟨_, (pss_cons (ps_expr (pcall (ok_want_short T) (hr.mono (by decide)) rfl (passes_call (takes_of rfl rfl rfl rfl) (fun _ _ _ _ z => z)) (pa_cons (pv 0) pa_nil)))
      (pss_cons (ps_expr (pcall (ok_want_letters T) (hr.mono (by decide)) rfl (passes_call (takes_of rfl rfl rfl rfl) (fun _ _ _ _ z => z)) (pa_cons (pv 0) (pa_cons (pv 1) (pa_cons (pe_tup pa_nil) pa_nil)))))
      (pss_one (ps_ret (pe_lc (own := [("byte", 2)]) rfl sc_cord_read.nd (pi_list (pv 0)) (blkOk_by (own := [("byte", 2)]) (N := N_cord_read) (sc := defScope s_cord_read) (by decide +kernel)) (fun _ _ _ _ _ => (pg_name (i := 2) sc_cord_read.nd rfl (.inl rfl))) (fun _ _ _ _ _ => pts_nil) (fun _ _ _ _ _ => (pcall (ok_turn_read T) (hr.mono (by decide)) rfl pass0 (pa_cons (pv 2) (pa_cons (pv 1) pa_nil))))))))), ?_⟩)
  · obtain ⟨n, _, r, _⟩ := h; exact all_len r
  · obtain ⟨⟨ts, n⟩, hz, ra, q, x⟩ := h
    dsimp only at ra q x hz
    obtain ⟨v1, v2, rfl, r1, r2⟩ := all2 ra
    cases r2
    unfold readNo at q x
    refine st_seq (st_drop (er_callX ts (ea1 (er_vN r1 rfl)) trivial fun m hm => ?_) fun _ H1 e1 ⟨h1, _⟩ => ?_)
    · refine x m ?_
      split at hm
      · rename_i h; rw [if_pos h]; exact hm
      · cases hm
    have h1 : ¬ 2000 < ts.length := fun z => by rw [if_pos z] at h1; cases h1
    rw [if_neg h1] at q x
    have r1' := rmono (IsN ts) e1 r1
    dsimp only
    refine st_seq (st_drop (er_callX (ts, n, []) (ea_cons (er_vN r1' rfl) (ea2 (er_n n rfl) (er_T (xs := iv []) ea_nil (show 0 ≤ 1000 by decide)))) hz fun m hm => (x m hm).mono e1) fun _ H2 e2 ⟨h2, _⟩ => ?_)
    have h2 : faultAt n [] ts = none := by
      cases e : faultAt n [] ts with
      | none => rfl
      | some k => rw [show faultAt (ts, n, ([] : List Nat)).2.1 (ts, n, ([] : List Nat)).2.2 (ts, n, ([] : List Nat)).1 = some k from e] at h2; cases h2
    refine st_ret (er_lcAn (S := fun x : Nat => IsI (x : Int)) (R := fun x : Nat => IsI (x : Int)) (as := ts) ((er_vN (rmono (IsN ts) e2 r1') rfl).imp fun v H3 e3 r => isL_of r) hz (turnAt n) fun a ha y H3 e3 hy => ?_) fun v H3 e3 r3 => q (by rw [h2]; rfl) v H3 ((e1.trans e2).trans e3) (lstOf_val r3)
    cases hy
    refine (er_call (a, n) (ea2 (er_n a rfl) (er_n n rfl)) trivial).imp fun v H4 e4 r4 => ?_
    have r4 : OptOf (fun x : Nat => IsI (x : Int)) (Vbcjai.turnOf n a) v H4 := r4
    rw [fault_none h2 ha rfl] at r4
    exact r4
abbrev s_cords_read : Stmt := (top 73)
abbrev N_cords_read : List Str := ["text", "fingers", "cords", "byte"]
theorem sc_cords_read : FnScope ["text", "fingers", "cords", "byte"] ["text", "fingers"] (defScope s_cords_read) := ⟨rfl, rfl, rfl, by decide +kernel, rfl, by decide +kernel, by decide +kernel⟩
theorem b_cords_read : BindsP "cords_read" "cords_read" s_cords_read ["text", "fingers"] := fun _ _ _ _ _ _ us hl => match us, hl with | [_, _], _ => rfl
theorem ok_cords_read (T : Txt K mg c) : Ok P w K mg base (L2.CX P w) 4 "cords_read" ["text", "fingers"] (spX c.R (fun p : List Nat × Nat => [IsN p.1, IsI (p.2 : Int)]) (fun p => p.1.length ≤ 1000000) (fun p => readNo p.2 [59] p.1) (fun p => Cords (p.1.foldl (pieceStep p.2) [[]]))) := by
  refine T.cords_read.okX sc_cords_read b_cords_read (fun vs H Q E h => ?_) (fun f cdv A outer s H vs Q E hr h => ⟨_, (pss_cons (ps_expr (pcall (ok_want_short T) (hr.mono (by decide)) rfl (passes_call (takes_of rfl rfl rfl rfl) (fun _ _ _ _ z => z)) (pa_cons (pv 0) pa_nil)))
      (pss_cons (ps_expr (pcall (ok_want_letters T) (hr.mono (by decide)) rfl (passes_call (takes_of rfl rfl rfl rfl) (fun _ _ _ _ z => z)) (pa_cons (pv 0) (pa_cons (pv 1) (pa_cons (pe_tup (pa_cons (pconst T.SEMICOLON rfl) pa_nil)) pa_nil)))))
      (pss_cons (ps_set (i := 2) sc_cords_read.nd rfl (.inl rfl) (pe_lst (pa_cons (pe_lst pa_nil) pa_nil)))
      (pss_cons (ps_for (passes_of rfl) rfl (pi_list (pv 0)) (pg_name (i := 3) sc_cords_read.nd rfl (.inl rfl)) (pss_one (ps_if (pt_cmpR op_eq (pv 3) (pconst T.SEMICOLON rfl) (nomark _)) (pss_one (ps_expr (pe_bm PySem.F.plainAttrs_list PySem.F.slot_list_append PySem.F.type_list_append mt_append (pv 2) (pa_cons (pe_lst pa_nil) pa_nil)))) (pss_one (ps_expr (pe_bm PySem.F.plainAttrs_list PySem.F.slot_list_append PySem.F.type_list_append mt_append (pe_ix (r := rIxL K) ix_list (pv 2) (pe_un un_neg pe_int) (fun _ _ => rfl)) (pa_cons (pcall (ok_turn_read T) (hr.mono (by decide)) rfl pass0 (pa_cons (pv 3) (pa_cons (pv 1) pa_nil))) pa_nil)))))))
      (pss_one (ps_ret (pv 2))))))), ?_⟩)
  · obtain ⟨n, _, r, _⟩ := h; exact all_len r
  · obtain ⟨⟨ts, n⟩, hz, ra, q, x⟩ := h
    dsimp only at ra q x hz
    obtain ⟨v1, v2, rfl, r1, r2⟩ := all2 ra
    cases r2
    unfold readNo at q x
    refine st_seq (st_drop (er_callX ts (ea1 (er_vN r1 rfl)) trivial fun m hm => ?_) fun _ H1 e1 ⟨h1, _⟩ => ?_)
    · refine x m ?_
      split at hm
      · rename_i h; rw [if_pos h]; exact hm
      · cases hm
    have h1 : ¬ 2000 < ts.length := fun z => by rw [if_pos z] at h1; cases h1
    rw [if_neg h1] at q x
    have r1' := rmono (IsN ts) e1 r1
    dsimp only
    refine st_seq (st_drop (er_callX (ts, n, [59]) (ea_cons (er_vN r1' rfl) (ea2 (er_n n rfl) (er_T (xs := iv [59]) (ea1 er_c) (show 1 ≤ 1000 by decide)))) hz fun m hm => (x m hm).mono e1) fun _ H2 e2 ⟨h2, _⟩ => ?_)
    have h2 : faultAt n [59] ts = none := by
      cases e : faultAt n [59] ts with
      | none => rfl
      | some k => rw [show faultAt (ts, n, ([59] : List Nat)).2.1 (ts, n, ([59] : List Nat)).2.2 (ts, n, ([59] : List Nat)).1 = some k from e] at h2; cases h2
    have r2 := rmono (IsN ts) e2 r1'
    dsimp only
    refine st_seq (show tAsg _ (gName 2) _ _ _ from ⟨Nat.zero_le _, fun p0 h0 => ⟨(show 1 ≤ sizeLine by decide), fun l hl => ?_⟩⟩)
    have n0 : l ≠ p0 := fun e => by rw [e, upd_same] at hl; cases hl
    have nl : H2 l = none := by rw [upd_ne n0] at hl; exact hl
    have e3 : Ex H2 (upd (upd H2 p0 (.lst [])) l (.lst [.ref p0])) := (Evl.Ex.new h0).trans (Evl.Ex.new hl)
    have g1 : (upd (upd H2 p0 (.lst [])) l (.lst [.ref p0])) l = some (.lst [.ref p0]) := upd_same
    have g2 : (upd (upd H2 p0 (.lst [])) l (.lst [.ref p0])) p0 = some (.lst (iv [])) := by rw [upd_ne n0.symm]; exact upd_same
    show tSeq _ _ _ _ (upd (upd H2 p0 (.lst [])) l (.lst [.ref p0]))
    generalize (upd (upd H2 p0 (.lst [])) l (.lst [.ref p0])) = H3 at e3 g1 g2
    have r3 := rmono (IsN ts) e3 r2
    obtain ⟨pt, rfl, hpt⟩ := id r2
    refine st_seq (st_listA (p := pt) (xs := iv ts) (er_ref rfl) (e3 _ _ hpt) (fun i σ' H' => ∃ o ps, σ' = [some (.ref pt), some (.int (n : Int)), some (.ref l), o] ∧ Ex H2 H' ∧ (l :: ps).Nodup ∧ (∀ a ∈ l :: ps, H2 a = none) ∧ H' l = some (.lst (ps.map V.ref)) ∧ Paired (fun w a => H' a = some (.lst (iv w))) ((ts.take i).foldl (pieceStep n) [[]]) ps ∧ ps.length ≤ i + 1)
      (fun H4 e4 => ⟨_, [p0], rfl, e3.trans e4, by simp [n0], fun a ha => ?_, e4 _ _ g1, .cons (e4 _ _ g2) .nil, Nat.le_refl _⟩) (fun i σ' H' hP => ?_) (fun i b σ' H' hb hP => ?_) fun σ' H' hP => ?_)
    · rcases List.mem_cons.mp ha with rfl | ha
      · exact nl
      · rw [List.mem_singleton.mp ha]; exact h0
    · obtain ⟨_, _, _, ex, _⟩ := hP
      exact ex _ _ hpt
    · obtain ⟨o, ps, rfl, ex, nd, fr, hl', pr, lp⟩ := hP
      obtain ⟨b, hb', rfl⟩ := iv_get hb
      have tk := take_succ_fold (f := pieceStep n) (b := [[]]) hb'
      have li : i < ts.length := (List.getElem?_eq_some_iff.mp hb').1
      have lw : ∀ w ∈ (ts.take i).foldl (pieceStep n) [[]], w.length ≤ 1000001 := fun w hw => by
        have z := pieces_small hw
        rw [List.length_take] at z
        omega
      have ne : (ts.take i).foldl (pieceStep n) [[]] ≠ [] := pieces_ne _ _
      generalize (ts.take i).foldl (pieceStep n) [[]] = acc at pr tk lw ne
      refine st_if (et_eqN (a := b) (b := 59) (er_n b rfl) er_c) (fun hc H4 e4 => ?_) fun hc H4 e4 => ?_
      · have hc := of_decide_eq_true hc
        refine st_appendNew (e4 _ _ hl') (er_ref rfl) (by rw [List.length_map]; omega) fun p H5 e5 hp => ?_
        have np : p ∉ l :: ps := fun m => by
          rcases List.mem_cons.mp m with rfl | m
          · rw [e5 _ _ (e4 _ _ hl')] at hp; cases hp
          · obtain ⟨w, hw⟩ := paired_all2 pr p m
            rw [e5 _ _ (e4 _ _ hw)] at hp; cases hp
        have nlp : l ≠ p := fun e => np (by rw [e]; exact List.mem_cons_self)
        refine ⟨_, ps ++ [p], rfl, Evl.Ex.mut (((ex.trans e4).trans e5).trans (Evl.Ex.new hp)) nl, ?_, fun a ha => ?_, ?_, ?_, ?_⟩
        · rw [← List.cons_append, List.nodup_append]
          refine ⟨nd, by simp, fun a ha b hb => ?_⟩
          rw [List.mem_singleton.mp hb]
          rintro rfl
          exact np ha
        · rw [← List.cons_append, List.mem_append, List.mem_singleton] at ha
          rcases ha with ha | rfl
          · exact fr a ha
          · exact Evl.fresh_back ((ex.trans e4).trans e5) hp
        · rw [upd_same, List.map_append]; rfl
        · rw [tk]
          have e : pieceStep n acc b = acc ++ [[]] := if_pos hc
          rw [e]
          refine paired_snoc2 (paired_upd (paired_upd (paired_ex (e4.trans e5) pr) fun m => np (List.mem_cons_of_mem _ m)) fun m => (List.nodup_cons.mp nd).1 m) ?_
          rw [upd_ne nlp.symm]
          exact upd_same
        · rw [List.length_append]; simp; exact lp
      · have hc := of_decide_eq_false hc
        obtain ⟨A, w, rfl⟩ := some_last ne
        obtain ⟨qs, qa, rfl, pr1, hq⟩ := paired_unsnoc pr
        have qn : qa ∉ qs := fun m => by
          have z := (List.nodup_cons.mp nd).2
          rw [List.nodup_append] at z
          exact z.2.2 _ m _ (List.mem_singleton.mpr rfl) rfl
        have ql : l ≠ qa := fun e => (List.nodup_cons.mp nd).1 (by rw [e]; simp)
        have tr : Vbcjai.turnOf n b = some (turnAt n b) := fault_none h2 (List.mem_of_getElem? hb') (by simp; exact hc)
        refine st_append (l := qa) (R := IsI (turnAt n b : Nat)) (e4 _ _ hq) (er_ixL (er_at (er_ref rfl) (e4 _ _ hl')) (er_U er_c) (by rw [List.map_append]; exact atI_last _ _)) ((er_call (b, n) (ea2 (er_n b rfl) (er_n n rfl)) trivial).imp fun v H5 e5 r5 => ?_) (by rw [iv_len]; exact Nat.le_trans (lw w (by simp)) (by decide)) fun v H5 e5 r5 => ?_
        · have r5 : OptOf (fun x : Nat => IsI (x : Int)) (Vbcjai.turnOf n b) v H5 := r5
          rw [tr] at r5
          exact r5
        · refine ⟨_, qs ++ [qa], rfl, Evl.Ex.mut ((ex.trans e4).trans e5) (fr qa (by simp)), nd, fr, ?_, ?_, by omega⟩
          · rw [upd_ne ql]; exact e5 _ _ (e4 _ _ hl')
          · rw [tk]
            have e : pieceStep n (A ++ [w]) b = A ++ [w ++ [turnAt n b]] := by
              unfold pieceStep
              rw [if_neg hc]
              simp
            rw [e]
            refine paired_snoc2 (paired_upd (paired_ex (e4.trans e5) pr1) qn) ?_
            rw [upd_same, iv_append, show v = _ from r5]
            rfl
    · obtain ⟨o, ps, rfl, ex, nd, fr, hl', pr, lp⟩ := hP
      rw [show ts.take (iv ts).length = ts by rw [iv_len]; exact List.take_length] at pr
      refine st_ret (er_ref rfl) fun v H4 e4 r4 => q (by rw [h2]; rfl) v H4 (((e1.trans e2).trans ex).trans e4) ?_
      rw [show v = _ from r4]
      exact ⟨l, _, rfl, e4 _ _ hl', paired_cords (paired_ex e4 pr)⟩
abbrev s_turns_together : Stmt := (top 74)
abbrev N_turns_together : List Str := ["cords", "cord"]
theorem sc_turns_together : FnScope ["cords", "cord"] ["cords"] (defScope s_turns_together) := ⟨rfl, rfl, rfl, by decide +kernel, rfl, by decide +kernel, by decide +kernel⟩
theorem b_turns_together : BindsP "turns_together" "turns_together" s_turns_together ["cords"] := fun _ _ _ _ _ _ us hl => match us, hl with | [_], _ => rfl
theorem ok_turns_together (T : Txt K mg c) : Ok P w K mg base CX0 1 "turns_together" ["cords"] (spF (fun ws : List (List Nat) => [Cords ws]) (fun ws => ws.length ≤ 1000000) (fun ws => IsI (total ws : Nat))) := by
  refine T.turns_together.ok sc_turns_together b_turns_together (fun vs H Q E h => ?_) (fun f cdv A outer s H vs Q E hr h => ⟨_, (pss_one (ps_ret (pe_callB (cr_sum rfl) (by rfl) T.sum boot_sum (pa_cons (pe_lc (own := [("cord", 1)]) rfl sc_turns_together.nd (pi_list (pv 0)) (blkOk_by (own := [("cord", 1)]) (N := N_turns_together) (sc := defScope s_turns_together) (by decide +kernel)) (fun _ _ _ _ _ => (pg_name (i := 1) sc_turns_together.nd rfl (.inl rfl))) (fun _ _ _ _ _ => pts_nil) (fun _ _ _ _ _ => (pe_callB (r := Evl.rLenS K) call_len_seq (by rfl) T.len PySem.boot_len (pa_cons (pv 1) pa_nil)))) pa_nil)))), ?_⟩)
  · obtain ⟨n, _, r, _⟩ := h; exact all_len r
  · obtain ⟨ws, hz, ra, q⟩ := h
    obtain ⟨v, rfl, r⟩ := all1 ra
    refine st_ret (er_is (er_sum (ns := (ws.map List.length).map fun n : Nat => (n : Int)) ((er_lcAn (S := fun w : List Nat => IsN w) (R := fun x : Nat => IsI (x : Int)) (as := ws) (er_var (R := Cords ws) r rfl) hz List.length fun a ha y H3 e3 hy => ?_).imp fun v H3 e3 r3 => ?_)) ?_) fun v2 H2 e2 r2 => q v2 H2 e2 r2
    · exact er_lenN (er_vN hy rfl)
    · have z := lstOf_val r3
      rw [List.map_map]
      exact z
    · rw [sum_total]
/-! ### exchanges -/
abbrev s_own_letters : Stmt := (top 62)
abbrev N_own_letters : List Str := ["fingers", "finger"]
theorem sc_own_letters : FnScope ["fingers", "finger"] ["fingers"] (defScope s_own_letters) := ⟨rfl, rfl, rfl, by decide +kernel, rfl, by decide +kernel, by decide +kernel⟩
theorem b_own_letters : BindsP "own_letters" "own_letters" s_own_letters ["fingers"] := fun _ _ _ _ _ _ us hl => match us, hl with | [_], _ => rfl
theorem ok_own_letters (T : Txt K mg c) : Ok P w K mg base CX0 2 "own_letters" ["fingers"] (spF (fun n : Nat => [IsI (n : Int)]) (fun n => n ≤ 1000) (fun n => Cords (Vbcjai.own n))) := by
  refine T.own_letters.ok sc_own_letters b_own_letters (fun vs H Q E h => ?_) (fun f cdv A outer s H vs Q E hr h => ⟨_, (pss_one (ps_ret (pe_lc (own := [("finger", 1)]) rfl sc_own_letters.nd (pi_range1 (by rfl) T.range (pa_cons (pv 0) pa_nil)) (blkOk_by (own := [("finger", 1)]) (N := N_own_letters) (sc := defScope s_own_letters) (by decide +kernel)) (fun _ _ _ _ _ => (pg_name (i := 1) sc_own_letters.nd rfl (.inl rfl))) (fun _ _ _ _ _ => pts_nil) (fun _ _ _ _ _ => (pe_lst (pa_cons (pcall (ok_small_turn T) (hr.mono (by decide)) rfl pass0 (pa_cons (pv 1) pa_nil)) pa_nil)))))), ?_⟩)
  · obtain ⟨n, _, r, _⟩ := h; exact all_len r
  · obtain ⟨n, hn, ra, q⟩ := h
    obtain ⟨v, rfl, r⟩ := all1 ra
    cases r
    refine st_ret (er_lcRAn (R := fun i : Nat => IsN [2 * i]) (n := n) (ea1 (er_n n rfl)) (by omega) id fun i hi H1 e1 => er_oneN (er_call i (ea1 (er_n i rfl)) trivial)) fun v H2 e2 r => q v H2 e2 ?_
    rw [List.map_id] at r
    exact lst_map (S := fun w : List Nat => IsN w) (f := fun i => [2 * i]) r
abbrev s_put_for_swaps : Stmt := (top 63)
abbrev N_put_for_swaps : List Str := ["turn", "exchange", "cord"]
theorem sc_put_for_swaps : FnScope ["turn", "exchange", "cord"] ["turn", "exchange"] (defScope s_put_for_swaps) := ⟨rfl, rfl, rfl, by decide +kernel, rfl, by decide +kernel, by decide +kernel⟩
theorem b_put_for_swaps : BindsP "put_for" "put_for" s_put_for_swaps ["turn", "exchange"] := fun _ _ _ _ _ _ us hl => match us, hl with | [_, _], _ => rfl
theorem ok_put_for_swaps (T : Txt K mg c) : Ok P w K mg base CX0 3 "put_for_swaps" ["turn", "exchange"] (spF (fun p : Nat × List (List Nat) => [IsI (p.1 : Int), Cords p.2]) (fun p => p.1 / 2 < p.2.length ∧ ∀ c ∈ p.2, c.length ≤ 1000000) (fun p => IsN (putS p.2 p.1))) := by
  refine T.put_for_swaps.ok sc_put_for_swaps b_put_for_swaps (fun vs H Q E h => ?_) (fun f cdv A outer s H vs Q E hr h => ⟨_, (pss_cons (ps_set (i := 2) sc_put_for_swaps.nd rfl (.inl rfl) (pe_ix (r := rIxL K) ix_list (pv 1) (pcall (ok_finger_of T) (hr.mono (by decide)) rfl pass0 (pa_cons (pv 0) pa_nil)) (fun _ _ => rfl)))
      (pss_cons (ps_if (pt_cmpR op_eq (pe_op op_mod (pv 0) pe_int) pe_int (nomark _)) (pss_one (ps_ret (pv 2))) pss_nil)
      (pss_one (ps_ret (pcall (ok_turned_back T) (hr.mono (by decide)) rfl pass0 (pa_cons (pv 2) pa_nil)))))), ?_⟩)
  · obtain ⟨n, _, r, _⟩ := h; exact all_len r
  · obtain ⟨⟨x, s⟩, ⟨hx, hs⟩, ra, q⟩ := h
    dsimp only at ra q hx hs
    obtain ⟨v1, v2, rfl, r1, r2⟩ := all2 ra
    cases r1
    have hu : s[x / 2]? = some (s.getD (x / 2) []) := by rw [List.getD_eq_getElem?_getD, List.getElem?_eq_getElem hx]; rfl
    have hl := hs _ (List.mem_of_getElem? hu)
    unfold putS at q
    dsimp only at q
    generalize s.getD (x / 2) [] = u at hu hl q
    refine st_seq (st_asg (R := IsN u) (er_ixR (F := fun w : List Nat => IsN w) (b := u) (er_var (R := Cords s) r2 rfl) (er_call x (ea1 (er_n x rfl)) trivial) hu) fun cv H1 e1 rc => ?_)
    dsimp only
    refine st_seq (st_if (et_even (er_n x rfl)) (fun hb H2 e2 => ?_) fun hb H2 e2 => ?_)
    · rw [if_pos (of_decide_eq_true hb)] at q
      exact st_ret (er_vN (rmono (IsN u) e2 rc) rfl) fun v H3 e3 r3 => q v H3 ((e1.trans e2).trans e3) r3
    · rw [if_neg (of_decide_eq_false hb)] at q
      unfold tNext
      dsimp only
      exact st_ret (er_call u (ea1 (er_vN (rmono (IsN u) e2 rc) rfl)) hl) fun v H3 e3 r3 => q v H3 ((e1.trans e2).trans e3) r3
abbrev s_exchanged : Stmt := (top 65)
abbrev N_exchanged : List Str := ["cord", "exchange", "whole", "turn"]
theorem sc_exchanged : FnScope ["cord", "exchange", "whole", "turn"] ["cord", "exchange"] (defScope s_exchanged) := ⟨rfl, rfl, rfl, by decide +kernel, rfl, by decide +kernel, by decide +kernel⟩
theorem b_exchanged : BindsP "exchanged" "exchanged" s_exchanged ["cord", "exchange"] := fun _ _ _ _ _ _ us hl => match us, hl with | [_, _], _ => rfl
theorem ok_exchanged (T : Txt K mg c) : Ok P w K mg base CX0 4 "exchanged" ["cord", "exchange"] (spF (fun p : List Nat × List (List Nat) => [IsN p.1, Cords p.2]) (fun p => p.1.length ≤ 2000 ∧ (∀ x ∈ p.1, x / 2 < p.2.length) ∧ ∀ c ∈ p.2, c.length ≤ 100) (fun p => IsN (Vbcjai.swapped p.2 p.1))) := by
  refine T.exchanged.ok sc_exchanged b_exchanged (fun vs H Q E h => ?_) (fun f cdv A outer s H vs Q E hr h => ⟨_, (pss_cons (ps_set (i := 2) sc_exchanged.nd rfl (.inl rfl) (pe_lst pa_nil))
      (pss_cons (ps_for PassesOwn.never rfl (pi_list (pv 0)) (pg_name (i := 3) sc_exchanged.nd rfl (.inl rfl)) (pss_one (ps_expr (pe_bm PySem.F.plainAttrs_list PySem.F.slot_list_extend PySem.F.type_list_extend mt_extend (pv 2) (pa_cons (pcall (ok_put_for_swaps T) (hr.mono (by decide)) rfl pass0 (pa_cons (pv 3) (pa_cons (pv 1) pa_nil))) pa_nil)))))
      (pss_one (ps_ret (pcall (ok_pulled_taut T) (hr.mono (by decide)) rfl pass0 (pa_cons (pv 2) pa_nil)))))), ?_⟩)
  · obtain ⟨n, _, r, _⟩ := h; exact all_len r
  · obtain ⟨⟨ws, s⟩, ⟨hz, hx, hs⟩, ra, q⟩ := h
    dsimp only at ra q hx hs hz
    obtain ⟨v1, v2, rfl, ⟨p, rfl, hp⟩, r2⟩ := all2 ra
    refine st_seq (st_new fun l H1 e1 hn hl => ?_)
    have pl : p ≠ l := ne_of_none hp hn
    have exb : ∀ H', ExB [l] H1 H' → Ex H H' := fun H' b => ExB.ex e1 b fun l' m => by rw [List.mem_singleton.mp m]; exact hn
    dsimp only
    refine st_seq (st_listA (p := p) (xs := iv ws) (er_ref rfl) (e1 _ _ hp) (fun i σ' H' => ∃ o, σ' = [some (.ref p), some v2, some (.ref l), o] ∧ ExB [l] H1 H' ∧ H' l = some (.lst (iv ((ws.take i).flatMap (putS s)))))
      (fun H2 e2 => ⟨_, rfl, .of e2, e2 _ _ hl⟩) (fun i σ' H' hP => ?_) (fun i x σ' H' hi hP => ?_) fun σ' H' hP => ?_)
    · obtain ⟨o, _, b, _⟩ := hP
      exact b p _ (by simp [pl]) (e1 _ _ hp)
    · obtain ⟨o, rfl, b, hl'⟩ := hP
      obtain ⟨x, hx', rfl⟩ := iv_get hi
      have l1 := puts_len hs (ws.take i)
      have l2 := putS_len hs x
      have l3 : (ws.take i).length * 100 ≤ 2000 * 100 := Nat.mul_le_mul_right _ (by rw [List.length_take]; omega)
      refine st_extend hl' (er_ref rfl) (er_call (x, s) (ea2 (er_n x rfl) (er_var (R := Cords s) (rmono (Cords s) (exb _ b) r2) rfl)) ⟨hx x (List.mem_of_getElem? hx'), fun c hc => Nat.le_trans (hs c hc) (by decide)⟩) (by rw [iv_len, iv_len]; show _ + (putS s x).length ≤ _; omega) fun H2 e2 => ⟨_, rfl, (b.more e2).trans (.upd (by simp)), ?_⟩
      rw [upd_same, List.take_add_one, hx', List.flatMap_append, iv_append]
      show some (HO.lst (_ ++ iv (putS s x))) = some (HO.lst (_ ++ iv ([x].flatMap (putS s))))
      rw [List.flatMap_cons, List.flatMap_nil, List.append_nil]
    · obtain ⟨o, rfl, b, hl'⟩ := hP
      rw [show ws.take (iv ws).length = ws by rw [iv_len]; exact List.take_length] at hl'
      have l1 := puts_len hs ws
      have l3 : ws.length * 100 ≤ 2000 * 100 := Nat.mul_le_mul_right _ hz
      dsimp only
      exact st_ret (er_call (ws.flatMap (putS s)) (ea1 (er_at (er_ref rfl) hl')) (show (ws.flatMap (putS s)).length ≤ 1000000 by omega)) fun v H2 e2 r => q v H2 ((exb _ b).trans e2) r
abbrev s_exchanged_often : Stmt := (top 66)
abbrev N_exchanged_often : List Str := ["cord", "exchange", "often", "here", "time"]
theorem sc_exchanged_often : FnScope ["cord", "exchange", "often", "here", "time"] ["cord", "exchange", "often"] (defScope s_exchanged_often) := ⟨rfl, rfl, rfl, by decide +kernel, rfl, by decide +kernel, by decide +kernel⟩
theorem b_exchanged_often : BindsP "exchanged_often" "exchanged_often" s_exchanged_often ["cord", "exchange", "often"] := fun _ _ _ _ _ _ us hl => match us, hl with | [_, _, _], _ => rfl
theorem ok_exchanged_often (T : Txt K mg c) : Ok P w K mg base (L2.CX P w) 5 "exchanged_often" ["cord", "exchange", "often"] (spX c.R (fun p : List Nat × List (List Nat) × Nat => [IsN p.1, Cords p.2.1, IsI (p.2.2 : Int)]) (fun p => p.1.length ≤ 2000 ∧ (∀ x ∈ p.1, x / 2 < p.2.1.length) ∧ (∀ c ∈ p.2.1, c.length ≤ 100 ∧ ∀ x ∈ c, x / 2 < p.2.1.length) ∧ p.2.2 ≤ 1000)
    (fun p => if (Vbcjai.swappedOften p.2.1 p.2.2 (Vbcjai.taut p.1)).isNone = true then some (-6) else none) (fun p => IsN ((Vbcjai.swappedOften p.2.1 p.2.2 (Vbcjai.taut p.1)).getD []))) := by
  refine T.exchanged_often.okX sc_exchanged_often b_exchanged_often (fun vs H Q E h => ?_) (fun f cdv A outer s H vs Q E hr h => ⟨_, (pss_cons (ps_set (i := 3) sc_exchanged_often.nd rfl (.inl rfl) (pcall (ok_pulled_taut T) (hr.mono (by decide)) rfl pass0 (pa_cons (pv 0) pa_nil)))
      (pss_cons (ps_for (passes_of rfl) rfl (pi_range1 (by rfl) T.range (pa_cons (pv 2) pa_nil)) (pg_name (i := 4) sc_exchanged_often.nd rfl (.inl rfl)) (pss_cons (ps_set (i := 3) sc_exchanged_often.nd rfl (.inl rfl) (pcall (ok_exchanged T) (hr.mono (by decide)) rfl pass0 (pa_cons (pv 3) (pa_cons (pv 1) pa_nil))))
      (pss_one (ps_if (pt_cmpR op_gt (pe_callB (r := Evl.rLenS K) call_len_seq (by rfl) T.len PySem.boot_len (pa_cons (pv 3) pa_nil)) (pconst T.MOST_TURNS rfl) (nomark _)) (pss_one (praise T hr (takes_of rfl rfl rfl rfl) (pa_cons (pconst T.TOO_LONG rfl) pa_nil))) pss_nil))))
      (pss_one (ps_ret (pv 3))))), ?_⟩)
  · obtain ⟨n, _, r, _⟩ := h; exact all_len r
  · obtain ⟨⟨ws, s, k⟩, ⟨hz, hx, hs, hk⟩, ra, q, x⟩ := h
    dsimp only at ra q x hx hs hz hk
    obtain ⟨v1, v2, v3, rfl, r1, r2, r3⟩ := all3 ra
    cases r3
    have tl := taut_length ws
    refine st_seq (st_asg (er_call ws (ea1 (er_vN r1 rfl)) (by omega)) fun hv H1 e1 rh => ?_)
    dsimp only
    refine st_seq (st_range1 (n := k) (ea1 (er_n k rfl)) (by omega) (fun i σ' H' => ∃ hv o u, σ' = [some v1, some v2, some (.int (k : Int)), some hv, o] ∧ Ex H1 H' ∧ IsN u hv H' ∧ u.length ≤ 2000 ∧ (∀ x ∈ u, x / 2 < s.length) ∧ Vbcjai.swappedOften s k (Vbcjai.taut ws) = Vbcjai.swappedOften s (k - i) u)
      (fun H2 e2 => ⟨hv, _, Vbcjai.taut ws, rfl, e2, rmono (IsN (Vbcjai.taut ws)) e2 rh, by omega, fun y hy => hx y (taut_mem hy), rfl⟩) (fun i σ' H' hi hP => ?_) fun σ' H' hP => ?_)
    · obtain ⟨hv, o, u, rfl, ex, rh, lu, xu, eq⟩ := hP
      rw [show k - i = (k - (i + 1)) + 1 by omega, often_succ] at eq
      have sin := swapped_in (s := s) (m := s.length) (fun c hc => (hs c hc).2) u
      refine st_seq (st_asg (er_call (u, s) (ea2 (er_vN rh rfl) (er_var (R := Cords s) (rmono (Cords s) (e1.trans ex) r2) rfl)) ⟨lu, xu, fun c hc => (hs c hc).1⟩) fun nv H2 e2 rn => ?_)
      have rn : IsN (Vbcjai.swapped s u) nv H2 := rn
      generalize Vbcjai.swapped s u = u' at rn eq sin
      dsimp only
      refine st_if (b := decide (2000 < u'.length)) (et_is (et_test (er_I0 (er_lenN (er_vN rn rfl)) er_c)) ?_) (fun hb H3 e3 => ?_) fun hb H3 e3 => ?_
      · exact decide_eq_decide.mpr (by omega)
      · rw [if_pos (of_decide_eq_true hb)] at eq
        exact st_raise er_c ((x (-6) (by rw [eq]; rfl)).mono (((e1.trans ex).trans e2).trans e3))
      · have hb := of_decide_eq_false hb
        rw [if_neg hb] at eq
        exact ⟨nv, _, u', rfl, (ex.trans e2).trans e3, rmono (IsN u') e3 rn, by omega, sin, eq⟩
    · obtain ⟨hv, o, u, rfl, ex, rh, lu, xu, eq⟩ := hP
      rw [Nat.sub_self] at eq
      have eq : Vbcjai.swappedOften s k (Vbcjai.taut ws) = some u := eq
      rw [eq] at q
      exact st_ret (er_vN rh rfl) fun v H2 e2 r => q rfl v H2 ((e1.trans ex).trans e2) r
end
end Fc
set_option maxRecDepth 100000
set_option maxHeartbeats 2000000
namespace Fc
open PySem PySem.Spec PyProof.Rows L2
def wf (a b c : Addr) : List (Str × V) := [(("found" : Str), V.ref a), (("way_to" : Str), V.ref b), (("on_ways" : Str), V.ref c)]
theorem wf_put (a b c : Addr) : putF "on_ways" (V.ref c) (putF "way_to" (V.ref b) (putF "found" (V.ref a) [])) = wf a b c := by rfl
theorem wf_a (a b c : Addr) : (wf a b c).lookup ("found" : Str) = some (.ref a) := by rfl
theorem wf_b (a b c : Addr) : (wf a b c).lookup ("way_to" : Str) = some (.ref b) := by rfl
theorem wf_c (a b c : Addr) : (wf a b c).lookup ("on_ways" : Str) = some (.ref c) := by rfl
theorem wf_f (a b c : Addr) : (wf a b c).lookup ("find" : Str) = none := by rfl
/-- the ways W stand at p: the knots at a, the ways at b, the threads passed at c -/
structure WS (C : Addr) (H : Hp) (p a b c : Addr) (W : Ways) : Prop where
  obj : ∃ dx, H p = some (.ins C dx (wf a b c))
  found : H a = some (.lst (iv (W.map (·.1))))
  tos : ∃ kT : List (Key × V), H b = some (.dK kT) ∧ kT.length ≤ W.length ∧ (∀ u : Nat, hasW W u = false → valV kT (k1 u) = none) ∧ ∀ z ∈ W, ∃ q, valV kT (k1 z.1) = some (.ref q) ∧ q ≠ a ∧ H q = some (.lst (iv z.2))
  ons : ∃ kO : List (List Key × V), H c = some (.dT kO) ∧ kO.length ≤ W.length ∧ ∀ u f, (valV kO (nk u f)).isSome = true ↔ OnW W u f
  len : ∀ z ∈ W, z.2.length ≤ W.length
theorem WS.mono {C : Addr} {H H' : Hp} {p a b c : Addr} {W : Ways} (h : WS C H p a b c W) (e : Ex H H') : WS C H' p a b c W where
  obj := let ⟨dx, q⟩ := h.obj; ⟨dx, e _ _ q⟩
  found := e _ _ h.found
  tos := let ⟨kT, h1, h2, h3, h4⟩ := h.tos; ⟨kT, e _ _ h1, h2, h3, fun z hz => let ⟨q, g1, g2, g3⟩ := h4 z hz; ⟨q, g1, g2, e _ _ g3⟩⟩
  ons := let ⟨kO, h1, h2, h3⟩ := h.ons; ⟨kO, e _ _ h1, h2, h3⟩
  len := h.len
theorem hasW_of {W : Ways} {z : Nat × List Nat} (h : z ∈ W) : hasW W z.1 = true := hasW_iff.mpr (List.mem_map.mpr ⟨z, h, rfl⟩)
theorem hasW_ex {W : Ways} {u : Nat} (h : hasW W u = true) : ∃ z ∈ W, z.1 = u := List.mem_map.mp (hasW_iff.mp h)
theorem k1_eq {u v : Nat} : k1 u = k1 v ↔ u = v := ⟨k1_inj u v, fun h => h ▸ rfl⟩
theorem valK {kT : List (Key × V)} {u v : Nat} {x : V} : valV (putK kT (Sum.inl (v : Int)) x) (k1 u) = if u = v then some x else valV kT (k1 u) := by
  have z := valV_put kT (k1 v) (k1 u) x
  by_cases h : u = v
  · rw [if_pos h]
    rw [if_pos (by rw [h])] at z
    exact z
  · rw [if_neg h]
    rw [if_neg fun e => h (k1_inj _ _ e)] at z
    exact z
/-- __init__ -/
def spWI (C : Addr) : Sp := fun vs H Q _ => ∃ (p dx : Addr), vs = [.ref p] ∧ H p = some (.ins C dx []) ∧ ∀ (H' : Hp) (a b c : Addr), (∀ x o, H x = some o → x ≠ p → H' x = some o) → H a = none → H b = none → H c = none → WS C H' p a b c [(0, [])] → Q .non H'
/-- find -/
def spWF (C : Addr) : Sp := fun vs H Q _ => ∃ (p a b c : Addr) (W : Ways) (stp : Nat → Nat → Option Nat) (n : Nat) (y : Nat × List Nat) (x v : Nat), vs = [.ref p, .int (y.1 : Int), .int (x : Int), .int (v : Int)] ∧ WS C H p a b c W ∧ WOk stp n W ∧
  WOk stp n (W ++ [(v, y.2 ++ [x])]) ∧ y ∈ W ∧ hasW W v = false ∧ W.length ≤ 400000 ∧ ∀ H', ExB [a, b, c] H H' → WS C H' p a b c (W ++ [(v, y.2 ++ [x])]) → Q .non H'
/-- a list of these, not at l -/
def NotAt (l : Addr) (w : List Nat) : Rel := fun v H => ∃ q, v = .ref q ∧ q ≠ l ∧ H q = some (.lst (iv w))
instance (l : Addr) (w : List Nat) : Mono (NotAt l w) := ⟨fun e ⟨q, a, b, c⟩ => ⟨q, a, b, e _ _ c⟩⟩
section
variable {K : PySem.W.Frag} {σ : L2.St} {H H' : Hp} {ta tb te tc tl ty tv : TE} {t u : TT} {x y z v : V} {R Ra Rb : Rel} {D : Ends} {tu tw : TS} {w a b : List Nat}
theorem er_fld {p dx C : Addr} {fs : List (Str × V)} {f : Str} (h : ER ta σ H (IsV (.ref p))) (hp : H p = some (.ins C dx fs)) (cl : Cls K C) (na : NoAttr K C f) (hf : fs.lookup f = some v) : ER (tFld K ta f) σ H (IsV v) := fun H1 e Q q => h H1 e _ fun a H2 e2 ra => by
  have ea : a = .ref p := ra
  subst ea
  exact ⟨p, C, dx, fs, v, rfl, e2 _ _ (e _ _ hp), cl, na, hf, q v H2 e2 rfl⟩
theorem er_catNew {l : Addr} {o : HO} (ha : ER ta σ H (IsN a)) (hb : ER tb σ H (IsN b)) (hl : H l = some o) (hz : a.length + b.length ≤ 16000000) : ER (tOp rCat ta tb) σ H (NotAt l (a ++ b)) := fun H1 e Q q =>
  ha H1 e _ fun x H2 e2 ⟨p, ep, hp⟩ => hb H2 (e.trans e2) _ fun y H3 e3 ⟨p', ep', hp'⟩ =>
    ⟨p, p', _, _, ep, ep', e3 _ _ hp, hp', by rw [iv_len, iv_len]; exact Nat.le_trans hz (by decide), fun n hn => q _ _ ((e2.trans e3).trans (Evl.Ex.new hn)) ⟨n, rfl, (ne_of_none (e3 _ _ (e2 _ _ (e _ _ hl))) hn).symm, by rw [upd_same, iv_append]⟩⟩
/-- d[k], k a number -/
theorem er_getAt {d : Addr} {kvs : List (Key × V)} {m : Nat} (ha : ER ta σ H (IsV (.ref d))) (hd : H d = some (.dK kvs)) (hb : ER tb σ H (IsI (m : Int))) (h : valV kvs (k1 m) = some v) : ER (tDGet ta tb) σ H (IsV v) := fun H1 e Q q =>
  ha H1 e _ fun a H2 e2 ra => hb H2 (e.trans e2) _ fun b H3 e3 rb => by
    have ea : a = .ref d := ra
    have eb : b = .int (m : Int) := rb
    subst ea
    subst eb
    have g := DGet.k (k := .inl (m : Int)) (e3 _ _ (e2 _ _ (e _ _ hd)))
    have h : valV kvs (.inl (m : Int)) = some v := h
    rw [h] at g
    exact ⟨d, v, rfl, g, q _ H3 (e2.trans e3) rfl⟩
theorem er_notinAt {d : Addr} {kvs : List (Key × V)} {m : Nat} (hb : ER tb σ H (IsI (m : Int))) (ha : ER ta σ H (IsV (.ref d))) (hd : H d = some (.dK kvs)) : ER (tDNotIn tb ta) σ H (IsB (!(valV kvs (k1 m)).isSome)) := fun H1 e Q q =>
  hb H1 e _ fun b H2 e2 rb => ha H2 (e.trans e2) _ fun a H3 e3 ra => by
    have ea : a = .ref d := ra
    have eb : b = .int (m : Int) := rb
    subst ea
    subst eb
    exact ⟨d, _, rfl, DGet.k (k := .inl (m : Int)) (e3 _ _ (e2 _ _ (e _ _ hd))), q _ H3 (e2.trans e3) rfl⟩
end
section
variable {P : Program} {w : World} {K : PySem.W.Frag} {mg : Str → Option Value} {base : Heap} {c : Cl3}
abbrev s_passed : Stmt := (top 77)
abbrev N_passed : List Str := ["knot", "turn", "other"]
theorem sc_passed : FnScope ["knot", "turn", "other"] ["knot", "turn", "other"] (defScope s_passed) := ⟨rfl, rfl, rfl, by decide +kernel, rfl, by decide +kernel, by decide +kernel⟩
theorem b_passed : BindsP "passed" "passed" s_passed ["knot", "turn", "other"] := fun _ _ _ _ _ _ us hl => match us, hl with | [_, _, _], _ => rfl
theorem ok_passed (T : Txt K mg c) : Ok P w K mg base CX0 2 "passed" ["knot", "turn", "other"] (spF (fun p : Nat × Nat × Nat => [IsI (p.1 : Int), IsI (p.2.1 : Int), IsI (p.2.2 : Int)]) (fun _ => True) (fun p => IsP (passedT p.1 p.2.1 p.2.2).1 (passedT p.1 p.2.1 p.2.2).2)) := by
  refine T.passed.ok sc_passed b_passed (fun vs H Q E h => ?_) (fun f cdv A outer s H vs Q E hr h => ⟨_, (pss_cons (ps_if (pt_cmpR op_eq (pe_op op_mod (pv 1) pe_int) pe_int (nomark _)) (pss_one (ps_ret (pe_tup (pa_cons (pv 0) (pa_cons (pcall (ok_finger_of T) (hr.mono (by decide)) rfl pass0 (pa_cons (pv 1) pa_nil)) pa_nil))))) pss_nil)
      (pss_one (ps_ret (pe_tup (pa_cons (pv 2) (pa_cons (pcall (ok_finger_of T) (hr.mono (by decide)) rfl pass0 (pa_cons (pv 1) pa_nil)) pa_nil)))))), ?_⟩)
  · obtain ⟨n, _, r, _⟩ := h; exact all_len r
  · obtain ⟨⟨u, x, v⟩, _, ra, q⟩ := h
    dsimp only at ra q
    obtain ⟨v1, v2, v3, rfl, r1, r2, r3⟩ := all3 ra
    cases r1; cases r2; cases r3
    unfold passedT at q
    refine st_seq (st_if (et_even (er_n x rfl)) (fun hb H2 e2 => ?_) fun hb H2 e2 => ?_)
    · rw [if_pos (of_decide_eq_true hb)] at q
      exact st_ret (er_pair (er_n u rfl) (er_call x (ea1 (er_n x rfl)) trivial)) fun v H3 e3 r3 => q v H3 (e2.trans e3) r3
    · rw [if_neg (of_decide_eq_false hb)] at q
      unfold tNext
      dsimp only
      exact st_ret (er_pair (er_n v rfl) (er_call x (ea1 (er_n x rfl)) trivial)) fun v H3 e3 r3 => q v H3 (e2.trans e3) r3
abbrev s_ways_init : Stmt := (inClass (top 76) 0)
abbrev N_ways_init : List Str := ["self"]
theorem sc_ways_init : FnScope ["self"] ["self"] (defScope s_ways_init) := ⟨rfl, rfl, rfl, by decide +kernel, rfl, by decide +kernel, by decide +kernel⟩
theorem b_ways_init : BindsP "__init__" "Ways.__init__" s_ways_init ["self"] := fun _ _ _ _ _ _ us hl => match us, hl with | [_], _ => rfl
theorem ok_ways_init (T : Txt K mg c) : OkM P w K mg base CX0 1 c.W "__init__" ["self"] (spWI c.W) := by
  refine T.ways_init.ok sc_ways_init b_ways_init (fun vs H Q E h => ?_) (fun f cdv A outer s H vs Q E hr h => ⟨_, (pss_cons (ps_fld (pv 0) (pe_lst (pa_cons pe_int pa_nil)) rfl)
      (pss_cons (ps_fld (pv 0) (pe_disp (pps_cons pe_int (pe_lst pa_nil) pps_nil) (by rfl) (by rfl) (fun z => by cases z) (by decide)) rfl)
      (pss_one (ps_fld (pv 0) pe_dnewT rfl)))), ?_⟩)
  · obtain ⟨p, dx, rfl, _⟩ := h; rfl
  · obtain ⟨p, dx, rfl, hp, k⟩ := h
    -- found
    refine ⟨(show 1 ≤ sizeLine by decide), fun a na => ?_⟩
    have pa : p ≠ a := ne_of_none hp na
    refine ⟨_, rfl, p, c.W, dx, [], rfl, by rw [upd_ne pa]; exact hp, T.Ways.cl, T.wF, (show 0 < 1000 by decide), ?_⟩
    have f1 : ∀ x o, H x = some o → x ≠ p → (upd (upd H a (.lst [.int 0])) p (.ins c.W dx (putF "found" (.ref a) []))) x = some o := fun x o h hx => by
      rw [upd_ne hx, upd_ne (ne_of_none h na)]; exact h
    have g1 : (upd (upd H a (.lst [.int 0])) p (.ins c.W dx (putF "found" (.ref a) []))) p = some (.ins c.W dx (putF "found" (.ref a) [])) := upd_same
    have g2 : (upd (upd H a (.lst [.int 0])) p (.ins c.W dx (putF "found" (.ref a) []))) a = some (.lst [.int 0]) := by rw [upd_ne pa.symm]; exact upd_same
    have g3 : ∀ x, (upd (upd H a (.lst [.int 0])) p (.ins c.W dx (putF "found" (.ref a) []))) x = none → H x = none := fun x h => by
      by_cases e1 : x = p
      · rw [e1, upd_same] at h; cases h
      · rw [upd_ne e1] at h
        by_cases e2 : x = a
        · rw [e2, upd_same] at h; cases h
        · rw [upd_ne e2] at h; exact h
    show tSeq _ _ _ _ (upd (upd H a (.lst [.int 0])) p (.ins c.W dx (putF "found" (.ref a) [])))
    generalize (upd (upd H a (.lst [.int 0])) p (.ins c.W dx (putF "found" (.ref a) []))) = H1 at f1 g1 g2 g3
    -- way_to
    refine fun b nb => ?_
    refine ⟨Nat.zero_le _, fun q nq => ?_⟩
    have qb : q ≠ b := fun e => by rw [e, upd_same] at nq; cases nq
    have nq1 : H1 q = none := by rw [upd_ne qb] at nq; exact nq
    refine ⟨by rw [upd_ne qb.symm]; exact upd_same, [(k1 0, .ref q)], rfl, (show 1 ≤ 15 by decide), ?_⟩
    have pq : p ≠ q := ne_of_none g1 nq1
    have pb : p ≠ b := ne_of_none g1 nb
    have aq : a ≠ q := ne_of_none g2 nq1
    have ab : a ≠ b := ne_of_none g2 nb
    refine ⟨_, rfl, p, c.W, dx, putF "found" (.ref a) [], rfl, by rw [upd_ne pb, upd_ne pq, upd_ne pb]; exact g1, T.Ways.cl, T.wT, (show 1 < 1000 by decide), ?_⟩
    have f2 : ∀ x o, H1 x = some o → x ≠ p → (upd (upd (upd (upd H1 b (.dK [])) q (.lst [])) b (.dK (mergeK [] [(k1 0, .ref q)]))) p (.ins c.W dx (putF "way_to" (.ref b) (putF "found" (.ref a) [])))) x = some o := fun x o h hx => by
      rw [upd_ne hx, upd_ne (ne_of_none h nb), upd_ne (ne_of_none h nq1), upd_ne (ne_of_none h nb)]; exact h
    have h1 : (upd (upd (upd (upd H1 b (.dK [])) q (.lst [])) b (.dK (mergeK [] [(k1 0, .ref q)]))) p (.ins c.W dx (putF "way_to" (.ref b) (putF "found" (.ref a) [])))) p = some (.ins c.W dx (putF "way_to" (.ref b) (putF "found" (.ref a) []))) := upd_same
    have h2 : (upd (upd (upd (upd H1 b (.dK [])) q (.lst [])) b (.dK (mergeK [] [(k1 0, .ref q)]))) p (.ins c.W dx (putF "way_to" (.ref b) (putF "found" (.ref a) [])))) b = some (.dK [(k1 0, .ref q)]) := by rw [upd_ne pb.symm]; exact upd_same
    have h3 : (upd (upd (upd (upd H1 b (.dK [])) q (.lst [])) b (.dK (mergeK [] [(k1 0, .ref q)]))) p (.ins c.W dx (putF "way_to" (.ref b) (putF "found" (.ref a) [])))) q = some (.lst (iv [])) := by rw [upd_ne pq.symm, upd_ne qb]; exact upd_same
    have h4 : ∀ x, (upd (upd (upd (upd H1 b (.dK [])) q (.lst [])) b (.dK (mergeK [] [(k1 0, .ref q)]))) p (.ins c.W dx (putF "way_to" (.ref b) (putF "found" (.ref a) [])))) x = none → H1 x = none := fun x h => by
      by_cases e1 : x = p
      · rw [e1, upd_same] at h; cases h
      · rw [upd_ne e1] at h
        by_cases e2 : x = b
        · rw [e2, upd_same] at h; cases h
        · rw [upd_ne e2] at h
          by_cases e3 : x = q
          · rw [e3, upd_same] at h; cases h
          · rw [upd_ne e3, upd_ne e2] at h; exact h
    have h5 := f2 a _ g2 pa.symm
    dsimp only
    generalize (upd (upd (upd (upd H1 b (.dK [])) q (.lst [])) b (.dK (mergeK [] [(k1 0, .ref q)]))) p (.ins c.W dx (putF "way_to" (.ref b) (putF "found" (.ref a) [])))) = H2 at f2 h1 h2 h3 h4 h5
    -- on_ways
    refine fun d nd => ?_
    have pd : p ≠ d := ne_of_none h1 nd
    refine ⟨_, rfl, p, c.W, dx, putF "way_to" (.ref b) (putF "found" (.ref a) []), rfl, by rw [upd_ne pd]; exact h1, T.Ways.cl, T.wO, (show 2 < 1000 by decide), ?_⟩
    have kp : ∀ x o, H2 x = some o → x ≠ p → (upd (upd H2 d (.dT [])) p (.ins c.W dx (wf a b d))) x = some o := fun x o h hx => by rw [upd_ne hx, upd_ne (ne_of_none h nd)]; exact h
    refine k _ a b d (fun x o h hx => kp x o (f2 x o (f1 x o h hx) hx) hx) na (g3 b nb) (g3 d (h4 d nd)) ⟨⟨dx, upd_same⟩, kp _ _ h5 pa.symm, ⟨_, kp _ _ h2 pb.symm, Nat.le_refl _, fun u hu => ?_, fun z hz => ?_⟩, ⟨[], ?_, Nat.zero_le _, fun u f => ?_⟩, fun z hz => ?_⟩
    · have ne : ¬ k1 0 = k1 u := fun e => by
        rw [← k1_inj _ _ e] at hu
        cases hu
      unfold valV
      rw [List.find?_cons_of_neg (by rw [decide_eq_true_iff]; exact ne)]
      rfl
    · have ez : z = (0, []) := by simpa using hz
      subst ez
      exact ⟨q, rfl, aq.symm, kp _ _ h3 pq.symm⟩
    · rw [upd_ne pd.symm]; exact upd_same
    · exact ⟨fun h => (by cases h), fun h => (onW_start u f h).elim⟩
    · have ez : z = (0, []) := by simpa using hz
      subst ez
      exact Nat.zero_le _
abbrev s_ways_find : Stmt := (inClass (top 76) 1)
abbrev N_ways_find : List Str := ["self", "knot", "turn", "other"]
theorem sc_ways_find : FnScope ["self", "knot", "turn", "other"] ["self", "knot", "turn", "other"] (defScope s_ways_find) := ⟨rfl, rfl, rfl, by decide +kernel, rfl, by decide +kernel, by decide +kernel⟩
theorem b_ways_find : BindsP "find" "Ways.find" s_ways_find ["self", "knot", "turn", "other"] := fun _ _ _ _ _ _ us hl => match us, hl with | [_, _, _, _], _ => rfl
theorem ok_ways_find (T : Txt K mg c) : OkM P w K mg base CX0 3 c.W "find" ["self", "knot", "turn", "other"] (spWF c.W) := by
  refine T.ways_find.ok sc_ways_find b_ways_find (fun vs H Q E h => ?_) (fun f cdv A outer s H vs Q E hr h => ⟨_, (pss_cons (ps_expr (pe_bm PySem.F.plainAttrs_list PySem.F.slot_list_append PySem.F.type_list_append mt_append (pe_fld (pv 0) rfl) (pa_cons (pv 3) pa_nil)))
      (pss_cons (ps_dput (hu_of hr) (pe_fld (pv 0) rfl) (pv 3) (pe_op op_cat (pe_dget (hu_of hr) (pe_fld (pv 0) rfl) (pv 1) (fun _ _ => rfl)) (pe_lst (pa_cons (pv 2) pa_nil))) rfl)
      (pss_one (ps_dput (hu_of hr) (pe_fld (pv 0) rfl) (pcall (ok_passed T) (hr.mono (by decide)) rfl pass0 (pa_cons (pv 1) (pa_cons (pv 2) (pa_cons (pv 3) pa_nil)))) pe_bl rfl)))), ?_⟩)
  · obtain ⟨p, a, b, c, W, stp, n, y, x, v, rfl, _⟩ := h; rfl
  · obtain ⟨p, a, b, d, W, stp, n, y, x, v, rfl, S, ok, ok', hy, nw, hl, k⟩ := h
    obtain ⟨dx, hp⟩ := S.obj
    obtain ⟨kT, hb, lT, noT, allT⟩ := S.tos
    obtain ⟨kO, hd, lO, onO⟩ := S.ons
    have ha := S.found
    have pa : p ≠ a := ne_of hp ha (fun z => nomatch z)
    have pb : p ≠ b := ne_of hp hb (fun z => nomatch z)
    have pd : p ≠ d := ne_of hp hd (fun z => nomatch z)
    have ab : a ≠ b := ne_of ha hb (fun z => nomatch z)
    have ad : a ≠ d := ne_of ha hd (fun z => nomatch z)
    have bd : b ≠ d := ne_of hb hd (fun z => nomatch z)
    obtain ⟨qy, vy, qa, hq⟩ := allT y hy
    refine st_seq (st_append ha (er_fld (er_ref rfl) hp T.Ways.cl T.wF (wf_a a b d)) (er_n v rfl) (by rw [iv_len, List.length_map]; omega) fun vv H1 e1 rv => ?_)
    have ev : vv = .int (v : Int) := rv
    subst ev
    have bx1 : ExB [a, b, d] H (upd H1 a (.lst (iv (W.map (·.1)) ++ [.int (v : Int)]))) := (ExB.of e1).trans (.upd (by simp))
    have hp1 : (upd H1 a (.lst (iv (W.map (·.1)) ++ [.int (v : Int)]))) p = some (.ins c.W dx (wf a b d)) := by rw [upd_ne pa]; exact e1 _ _ hp
    have hb1 : (upd H1 a (.lst (iv (W.map (·.1)) ++ [.int (v : Int)]))) b = some (.dK kT) := by rw [upd_ne ab.symm]; exact e1 _ _ hb
    have hd1 : (upd H1 a (.lst (iv (W.map (·.1)) ++ [.int (v : Int)]))) d = some (.dT kO) := by rw [upd_ne ad.symm]; exact e1 _ _ hd
    have ha1 : (upd H1 a (.lst (iv (W.map (·.1)) ++ [.int (v : Int)]))) a = some (.lst (iv ((W ++ [(v, y.2 ++ [x])]).map (·.1)))) := by rw [upd_same, List.map_append, iv_append]; rfl
    have hq1 : ∀ q w, q ≠ a → H q = some (.lst (iv w)) → (upd H1 a (.lst (iv (W.map (·.1)) ++ [.int (v : Int)]))) q = some (.lst (iv w)) := fun q w ne h => by rw [upd_ne ne]; exact e1 _ _ h
    generalize (upd H1 a (.lst (iv (W.map (·.1)) ++ [.int (v : Int)]))) = Ha at bx1 hp1 hb1 hd1 ha1 hq1
    dsimp only
    have ly := S.len y hy
    refine st_seq (st_dputK (R := NotAt a (y.2 ++ [x])) (u := v) (er_catNew (l := a) (er_at (p := qy) (er_getAt (er_fld (er_ref rfl) hp1 T.Ways.cl T.wT (wf_b a b d)) hb1 (er_n y.1 rfl) vy) (hq1 _ _ qa hq)) (er_oneN (er_n x rfl)) ha1 (by simp; omega))
      (er_fld (er_ref rfl) hp1 T.Ways.cl T.wT (wf_b a b d)) hb1 (er_n v rfl) (by omega) fun wv H2 e2 rw2 => ?_)
    obtain ⟨qn, rfl, qna, hqn⟩ := rw2
    have bx2 : ExB [a, b, d] H (upd H2 b (.dK (putK kT (Sum.inl (v : Int)) (.ref qn)))) := (bx1.more e2).trans (.upd (by simp))
    have hp2 : (upd H2 b (.dK (putK kT (Sum.inl (v : Int)) (.ref qn)))) p = some (.ins c.W dx (wf a b d)) := by rw [upd_ne pb]; exact e2 _ _ hp1
    have hb2 : (upd H2 b (.dK (putK kT (Sum.inl (v : Int)) (.ref qn)))) b = some (.dK (putK kT (Sum.inl (v : Int)) (.ref qn))) := upd_same
    have hd2 : (upd H2 b (.dK (putK kT (Sum.inl (v : Int)) (.ref qn)))) d = some (.dT kO) := by rw [upd_ne bd.symm]; exact e2 _ _ hd1
    have ha2 : (upd H2 b (.dK (putK kT (Sum.inl (v : Int)) (.ref qn)))) a = some (.lst (iv ((W ++ [(v, y.2 ++ [x])]).map (·.1)))) := by rw [upd_ne ab]; exact e2 _ _ ha1
    have hq2 : ∀ q w, H2 q = some (.lst (iv w)) → (upd H2 b (.dK (putK kT (Sum.inl (v : Int)) (.ref qn)))) q = some (.lst (iv w)) := fun q w h => by rw [upd_ne (ne_of h (e2 _ _ hb1) (fun z => nomatch z))]; exact h
    have hqn2 := hq2 _ _ hqn
    have hqo : ∀ q w, q ≠ a → H q = some (.lst (iv w)) → (upd H2 b (.dK (putK kT (Sum.inl (v : Int)) (.ref qn)))) q = some (.lst (iv w)) := fun q w ne h => hq2 _ _ (e2 _ _ (hq1 _ _ ne h))
    generalize (upd H2 b (.dK (putK kT (Sum.inl (v : Int)) (.ref qn)))) = Hb at bx2 hp2 hb2 hd2 ha2 hqn2 hqo
    dsimp only
    refine st_dput (v := .bl true) (u := (passedT y.1 x v).1) (f := (passedT y.1 x v).2) er_c (er_fld (er_ref rfl) hp2 T.Ways.cl T.wO (wf_c a b d)) hd2 (er_call (y.1, x, v) (ea_cons (er_n y.1 rfl) (ea2 (er_n x rfl) (er_n v rfl))) trivial) (by omega) fun H3 e3 => ?_
    have lb := length_putK kT (Sum.inl (v : Int)) (.ref qn)
    have ld := length_putK kO (nk (passedT y.1 x v).1 (passedT y.1 x v).2) (.bl true)
    have ll : (W ++ [(v, y.2 ++ [x])]).length = W.length + 1 := by rw [List.length_append]; rfl
    refine k _ ((bx2.more e3).trans (.upd (by simp))) ⟨⟨dx, by rw [upd_ne pd]; exact e3 _ _ hp2⟩, by rw [upd_ne ad]; exact e3 _ _ ha2, ⟨_, by rw [upd_ne bd]; exact e3 _ _ hb2, by omega, fun u hu => ?_, fun z hz => ?_⟩, ⟨_, upd_same, by omega, fun u f => ?_⟩, fun z hz => ?_⟩
    · rw [valK]
      have h1 : hasW W u = false ∧ v ≠ u := by
        unfold hasW at hu ⊢
        rw [List.any_append, Bool.or_eq_false_iff] at hu
        refine ⟨hu.1, fun e => ?_⟩
        have := hu.2
        simp [e] at this
      rw [if_neg fun e => h1.2 e.symm]
      exact noT u h1.1
    · rw [List.mem_append, List.mem_singleton] at hz
      rcases hz with hz | rfl
      · obtain ⟨q, g1, g2, g3⟩ := allT z hz
        refine ⟨q, ?_, g2, ?_⟩
        · rw [valK, if_neg fun e => ?_]
          · exact g1
          · have := hasW_of hz
            rw [e, nw] at this
            cases this
        · have g := hqo q _ g2 g3
          rw [upd_ne (ne_of (e3 _ _ g) (e3 _ _ hd2) (fun z => nomatch z))]
          exact e3 _ _ g
      · refine ⟨qn, by rw [valK]; exact if_pos rfl, qna, ?_⟩
        rw [upd_ne (ne_of (e3 _ _ hqn2) (e3 _ _ hd2) (fun z => nomatch z))]
        exact e3 _ _ hqn2
    · rw [onW_new ok hy ok' (by rw [nw]; exact Bool.false_ne_true), valV_nk]
      by_cases cc : u = (passedT y.1 x v).1 ∧ f = (passedT y.1 x v).2
      · rw [if_pos cc]
        exact ⟨fun _ => .inr (by rw [cc.1, cc.2]), fun _ => rfl⟩
      · rw [if_neg cc, onO]
        refine ⟨.inl, fun h => h.elim id fun e => absurd ⟨?_, ?_⟩ cc⟩
        · rw [e]
        · rw [e]
    · rw [ll]
      rw [List.mem_append, List.mem_singleton] at hz
      rcases hz with hz | rfl
      · have := S.len z hz; omega
      · rw [List.length_append]; simp; exact ly
end
end Fc
set_option maxRecDepth 100000
set_option maxHeartbeats 2000000
namespace Fc
open PySem PySem.Spec PyProof.Rows L2
theorem wok_knot {T : List Tri} {n : Nat} {W : Ways} (h : WOk (stepT T) n W) (no : NoClash T) : ∀ z ∈ W, Knot T z.1 := fun z hz => by
  rcases h.from_ z hz with e | ⟨y, _, x, _, hs, _⟩
  · rw [e]; exact .inl rfl
  · exact ((stepT_iff no).mp hs).knot
theorem wok_len {T : List Tri} {n : Nat} {W : Ways} {N : List Nat} (h : WOk (stepT T) n W) (no : NoClash T) (hN : KnotsOf T N) : W.length ≤ N.length := by
  have z := nodup_le h.nd (b := N) fun x hx => by
    obtain ⟨y, hy, rfl⟩ := List.mem_map.mp hx
    exact (hN.mem _).mpr (wok_knot h no y hy)
  rw [List.length_map] at z
  exact z
theorem knots_same {T : List Tri} {N N' : List Nat} (h : KnotsOf T N) (h' : KnotsOf T N') : N.length = N'.length :=
  Nat.le_antisymm (nodup_le h.nd fun x hx => (h'.mem x).mpr ((h.mem x).mp hx)) (nodup_le h'.nd fun x hx => (h.mem x).mpr ((h'.mem x).mp hx))
theorem knots_few {T : List Tri} {N : List Nat} (h : KnotsOf T N) : N.length ≤ 2 * T.length + 1 := by
  have z := nodup_le h.nd (b := 0 :: (T.map (·.1) ++ T.map (·.2.2))) fun x hx => by
    rcases (h.mem x).mp hx with e | ⟨f, v, m | m⟩
    · rw [e]; exact List.mem_cons_self
    · exact List.mem_cons_of_mem _ (List.mem_append_left _ (List.mem_map.mpr ⟨_, m, rfl⟩))
    · exact List.mem_cons_of_mem _ (List.mem_append_right _ (List.mem_map.mpr ⟨_, m, rfl⟩))
  rw [List.length_cons, List.length_append, List.length_map, List.length_map] at z
  omega
theorem filt_yes {p : Nat → Bool} {j : Nat} (h : p j = true) : (List.range (j + 1)).filter p = (List.range j).filter p ++ [j] := by
  rw [List.range_succ, List.filter_append, List.filter_cons_of_pos h, List.filter_nil]
theorem filt_no {p : Nat → Bool} {j : Nat} (h : p j = false) : (List.range (j + 1)).filter p = (List.range j).filter p := by
  rw [List.range_succ, List.filter_append, List.filter_cons_of_neg (by rw [h]; exact Bool.false_ne_true), List.filter_nil, List.append_nil]
/-- T is the folded graph of something -/
def Bth (T : List Tri) (n : Nat) : Prop := ∃ M P Q K, Both n M T P Q K
def WaysR (C : Addr) (T : List Tri) (n : Nat) : Rel := fun v H => ∃ p a b c N, v = .ref p ∧ KnotsOf T N ∧ WS C H p a b c (walkTo (stepT T) n N.length)
instance (C : Addr) (T : List Tri) (n : Nat) : Mono (WaysR C T n) := ⟨fun e ⟨p, a, b, c, N, h1, h2, h3⟩ => ⟨p, a, b, c, N, h1, h2, h3.mono e⟩⟩
theorem get_opt (o : Option Nat) : (o.map fun v : Nat => V.int (v : Int)).getD .non = optV o := by cases o <;> rfl
theorem walkTurn_none {stp : Nat → Nat → Option Nat} {z : Nat × List Nat} {acc : Ways} {x : Nat} (h : stp z.1 x = none) : walkTurn stp z acc x = acc := by
  unfold walkTurn
  rw [h]
theorem walkTurn_some {stp : Nat → Nat → Option Nat} {z : Nat × List Nat} {acc : Ways} {x v : Nat} (h : stp z.1 x = some v) : walkTurn stp z acc x = if hasW acc v = true then acc else acc ++ [(v, z.2 ++ [x])] := by
  unfold walkTurn
  rw [h]
theorem free_len {T : List Tri} {n : Nat} {O : Nat → Nat → Bool} : ∀ W : Ways, (W.flatMap fun z => freeAt T n O z.1).length ≤ W.length * n
  | [] => by simp
  | z :: W => by
    have h := free_len (T := T) (n := n) (O := O) W
    have k : (freeAt T n O z.1).length ≤ n := by
      unfold freeAt
      rw [List.length_map]
      refine Nat.le_trans (List.length_filter_le _ _) ?_
      rw [List.length_range]
      exact Nat.le_refl _
    rw [List.flatMap_cons, List.length_append, List.length_cons, Nat.succ_mul]
    omega
theorem free_nodup {T : List Tri} {n : Nat} {O : Nat → Nat → Bool} {W : Ways} (h : (W.map (·.1)).Nodup) : (freeT T n O W).Nodup := by
  have at_ : ∀ u, (freeAt T n O u).Nodup := fun u => by
    unfold freeAt List.Nodup
    rw [List.pairwise_map]
    refine List.Pairwise.imp ?_ ((List.nodup_range (n := n)).filter _)
    intro a b ne e
    injection e with _ e
    exact ne e
  unfold freeT List.Nodup
  rw [List.pairwise_flatMap]
  refine ⟨fun z _ => at_ z.1, ?_⟩
  unfold List.Nodup at h
  rw [List.pairwise_map] at h
  refine h.imp fun {a b} ne x hx y hy e => ?_
  unfold freeAt at hx hy
  obtain ⟨f, _, rfl⟩ := List.mem_map.mp hx
  obtain ⟨g, _, rfl⟩ := List.mem_map.mp hy
  injection e with e _
  exact ne e
theorem free_in {T : List Tri} {n : Nat} {O : Nat → Nat → Bool} {W : Ways} {z : Nat × Nat} (h : z ∈ freeT T n O W) : (∃ y ∈ W, y.1 = z.1) ∧ (stepT T z.1 (2 * z.2)).isSome = true := by
  unfold freeT at h
  obtain ⟨y, hy, hz⟩ := List.mem_flatMap.mp h
  unfold freeAt at hz
  obtain ⟨f, hf, rfl⟩ := List.mem_map.mp hz
  have q := (List.mem_filter.mp hf).2
  rw [Bool.and_eq_true] at q
  exact ⟨⟨y, hy, rfl⟩, q.1⟩
section
variable {K : PySem.W.Frag} {σ : L2.St} {H H' : Hp} {ta tb te tc tl ty tv t1 t2 t3 tp : TE} {t u : TT} {x y z v : V} {R Ra Rb : Rel} {D : Ends} {tu tw : TS} {w : List Nat}
theorem WS.has {C : Addr} {p a b c : Addr} {W : Ways} (S : WS C H p a b c W) : ∃ kT : List (Key × V), H b = some (.dK kT) ∧ ∀ u : Nat, (valV kT (k1 u)).isSome = hasW W u := by
  obtain ⟨kT, h1, _, h3, h4⟩ := S.tos
  refine ⟨kT, h1, fun u => ?_⟩
  cases e : hasW W u with
  | false => rw [h3 u e]; rfl
  | true =>
    obtain ⟨z, hz, rfl⟩ := hasW_ex e
    obtain ⟨q, g, _⟩ := h4 z hz
    rw [g]
    rfl
theorem st_find {C p a b d : Addr} {W : Ways} {stp : Nat → Nat → Option Nat} {n : Nat} {y : Nat × List Nat} {x v : Nat} {E : XK} (S : WS C H p a b d W) (ok : WOk stp n W) (ok' : WOk stp n (W ++ [(v, y.2 ++ [x])])) (hy : y ∈ W) (nw : hasW W v = false) (hl : W.length ≤ 400000)
    (hp : ER tp σ H (IsV (.ref p))) (h1 : ER t1 σ H (IsI (y.1 : Int))) (h2 : ER t2 σ H (IsI (x : Int))) (h3 : ER t3 σ H (IsI (v : Int))) (k : ∀ H', ExB [a, b, d] H H' → WS C H' p a b d (W ++ [(v, y.2 ++ [x])]) → D.nx σ H') :
    tDrop (tMeth C "find" (spWF C) [] E tp (tCons t1 (tCons t2 (tCons t3 tNil)))) D σ H := hp H Ex.rfl _ fun vp H1 e1 rp => by
  have ep : vp = .ref p := rp
  subst ep
  obtain ⟨dx, ho⟩ := S.obj
  refine ⟨p, dx, wf a b d, rfl, e1 _ _ ho, wf_f a b d, (ea_cons h1 (ea2 h2 h3)) H1 e1 _ fun vs H2 e2 r => ?_⟩
  have ev : vs = [.int (y.1 : Int), .int (x : Int), .int (v : Int)] := isL_all2 (xs := [.int (y.1 : Int), .int (x : Int), .int (v : Int)]) r
  subst ev
  exact ⟨p, a, b, d, W, stp, n, y, x, v, rfl, S.mono (e1.trans e2), ok, ok', hy, nw, hl, fun H' bx S' => k H' ((ExB.of (e1.trans e2)).trans bx) S'⟩
theorem st_rngX {g : TG} (h : ER te σ H R) (k : ∀ v H1, Ex H H1 → R v H1 → tFor (iRng1 (tCons (tC v) tNil)) g tu D σ H1) : tFor (iRng1 (tCons te tNil)) g tu D σ H := h H Ex.rfl _ fun v H1 e r => k v H1 e r
theorem er_lenK {T : List Tri} (h : ER te σ H (KnR T)) : ER (tCB (Evl.rLenS K) (tCons te tNil)) σ H (fun v _ => ∃ N, KnotsOf T N ∧ N.length ≤ 2 * T.length + 1 ∧ v = .int (N.length : Nat)) := fun H1 e Q q =>
  h H1 e _ fun v H2 e2 ⟨N, kN, lN, p, ep, hp⟩ => ⟨p, iv N, by rw [ep], .inl (.of hp), q _ H2 e2 ⟨N, kN, lN, by rw [iv_len]⟩⟩
end
section
variable {P : Program} {w : World} {K : PySem.W.Frag} {mg : Str → Option Value} {base : Heap} {c : Cl3}
abbrev s_ways_of : Stmt := (top 78)
abbrev N_ways_of : List Str := ["threads", "fingers", "leads", "ways", "place", "knot", "turn", "other"]
theorem sc_ways_of : FnScope ["threads", "fingers", "leads", "ways", "place", "knot", "turn", "other"] ["threads", "fingers"] (defScope s_ways_of) := ⟨rfl, rfl, rfl, by decide +kernel, rfl, by decide +kernel, by decide +kernel⟩
theorem b_ways_of : BindsP "ways_of" "ways_of" s_ways_of ["threads", "fingers"] := fun _ _ _ _ _ _ us hl => match us, hl with | [_, _], _ => rfl
theorem ok_ways_of (T : Txt K mg c) : Ok P w K mg base CX0 4 "ways_of" ["threads", "fingers"] (spF (fun p : List Tri × Nat => [LstOf TriR p.1, IsI (p.2 : Int)]) (fun p => Bth p.1 p.2 ∧ p.1.length ≤ 10000 ∧ p.2 ≤ 6) (fun p => WaysR c.W p.1 p.2)) := by
  refine T.ways_of.ok sc_ways_of b_ways_of (fun vs H Q E h => ?_) (fun f cdv A outer s H vs Q E hr h => ⟨_, (pss_cons (ps_set (i := 2) sc_ways_of.nd rfl (.inl rfl) (pcall (ok_leads_of T) (hr.mono (by decide)) rfl pass0 (pa_cons (pv 0) pa_nil)))
      (pss_cons (ps_set (i := 3) sc_ways_of.nd rfl (.inl rfl) (pmake0 (E := E) T.Ways (ok_ways_init T) (hr.mono (by decide)) rfl))
      (pss_cons (ps_for PassesOwn.never rfl (pi_range1 (by rfl) T.range (pa_cons (pe_callB (r := Evl.rLenS K) call_len_seq (by rfl) T.len PySem.boot_len (pa_cons (pcall (ok_knots_of T) (hr.mono (by decide)) rfl pass0 (pa_cons (pv 0) pa_nil)) pa_nil)) pa_nil)) (pg_name (i := 4) sc_ways_of.nd rfl (.inl rfl)) (pss_cons (ps_set (i := 5) sc_ways_of.nd rfl (.inl rfl) (pe_ix (r := rIxL K) ix_list (pe_fld (pv 3) rfl) (pv 4) (fun _ _ => rfl)))
      (pss_one (ps_for PassesOwn.never rfl (pi_range1 (by rfl) T.range (pa_cons (pe_op op_mul pe_int (pv 1)) pa_nil)) (pg_name (i := 6) sc_ways_of.nd rfl (.inl rfl)) (pss_cons (ps_set (i := 7) sc_ways_of.nd rfl (.inl rfl) (pe_dget1 (hu_of hr) (pv 2) (pe_tup (pa_cons (pv 5) (pa_cons (pv 6) pa_nil))) ⟨rfl, rfl, rfl, rfl⟩))
      (pss_one (ps_if (PW.pt (pw_and (pt_cmpR op_notN (pv 7) pe_non (nomark _)) (pw_and1 (pt_cmp (pc_dnotin (hu_of hr) (pv 7) (pe_fld (pv 3) rfl)))))) (pss_one (ps_expr (pmeth (pv 3) T.Ways.cl (ok_ways_find T) (hr.mono (by decide)) pass0 (pa_cons (pv 5) (pa_cons (pv 6) (pa_cons (pv 7) pa_nil)))))) pss_nil)))))))
      (pss_one (ps_ret (pv 3)))))), ?_⟩)
  · obtain ⟨n, _, r, _⟩ := h; exact all_len r
  · obtain ⟨⟨E0, n⟩, ⟨⟨M, p1, q1, K1, B⟩, hz, hn⟩, ra, q⟩ := h
    dsimp only at ra q hz hn B
    obtain ⟨v1, v2, rfl, r1, r2⟩ := all2 ra
    cases r2
    have no := B.no'
    refine st_seq (st_asg (er_call E0 (ea1 (er_var (R := LstOf TriR E0) r1 rfl)) ⟨no, by omega⟩) fun lv H1 e1 rl => ?_)
    dsimp only
    refine st_seq (show tAsg _ (gName 3) _ _ _ from fun p dx np ndx nep => ?_)
    refine ⟨p, dx, rfl, upd_same, fun H2 a b d kp na nb nd S0 => ⟨rfl, ?_⟩⟩
    have e2 : Ex H1 H2 := fun x o h => kp x o (by rw [upd_ne (ne_of_none h np), upd_ne (ne_of_none h ndx)]; exact h) (ne_of_none h np)
    have nn : ∀ x, (upd (upd H1 dx (.own p)) p (.ins c.W dx [])) x = none → H1 x = none := fun x h => by
      by_cases e1 : x = p
      · rw [e1, upd_same] at h; cases h
      · rw [upd_ne e1] at h
        by_cases e3 : x = dx
        · rw [e3, upd_same] at h; cases h
        · rw [upd_ne e3] at h; exact h
    have exb : ∀ H', ExB [a, b, d] H2 H' → Ex H1 H' := fun H' bx => ExB.ex e2 bx fun l m => by
      rcases List.mem_cons.mp m with rfl | m
      · exact nn _ na
      · rcases List.mem_cons.mp m with rfl | m
        · exact nn _ nb
        · rw [List.mem_singleton.mp m]; exact nn _ nd
    dsimp only
    refine st_seq (st_rngX (er_lenK (er_call E0 (ea1 (er_var (R := LstOf TriR E0) (rmono (LstOf TriR E0) (e1.trans e2) r1) rfl)) (show E0.length ≤ 400000 by omega))) fun kv H3 e3 ⟨N, kN, lN, ev⟩ => ?_)
    subst ev
    refine st_range1 (n := N.length) (ea1 er_c) (by omega) (fun i σ' H' => ∃ o4 o5 o6 o7, σ' = [some v1, some (.int (n : Int)), some lv, some (.ref p), o4, o5, o6, o7] ∧ ExB [a, b, d] H2 H' ∧ WS c.W H' p a b d (walkTo (stepT E0) n i))
      (fun H4 e4 => ⟨_, _, _, _, rfl, .of (e3.trans e4), S0.mono (e3.trans e4)⟩) (fun i σ' H' hi hP => ?_) fun σ' H' hP => ?_
    · obtain ⟨o4, o5, o6, o7, rfl, bx, S⟩ := hP
      have ht := B.there kN hi
      have wk := walk_ok (stepT E0) n i
      have hzi : (walkTo (stepT E0) n i)[i]? = some (walkTo (stepT E0) n i)[i] := List.getElem?_eq_getElem ht
      have wsuc : walkTo (stepT E0) n (i + 1) = walkKnot (stepT E0) n (walkTo (stepT E0) n i) i := walkTo_succ _ _ _
      unfold walkKnot at wsuc
      rw [hzi] at wsuc
      dsimp only at wsuc
      generalize (walkTo (stepT E0) n i)[i] = z at hzi wsuc
      have hzm := List.mem_of_getElem? hzi
      generalize walkTo (stepT E0) n i = W at S wk hzi hzm wsuc
      obtain ⟨dx2, hp2⟩ := S.obj
      refine st_seq (st_asg (er_ixN (n := z.1) (w := W.map (·.1)) (er_at (er_fld (er_ref rfl) hp2 T.Ways.cl T.wF (wf_a a b d)) S.found) (er_n i rfl) (by rw [List.getElem?_map, hzi]; rfl)) fun kv H4 e4 rk => ?_)
      have ek : kv = .int (z.1 : Int) := rk
      subst ek
      dsimp only
      refine st_range1 (n := 2 * n) (ea1 (er_twice (er_n n rfl))) (by omega) (fun j σ' H' => ∃ o6 o7, σ' = [some v1, some (.int (n : Int)), some lv, some (.ref p), some (.int (i : Int)), some (.int (z.1 : Int)), o6, o7] ∧ ExB [a, b, d] H2 H' ∧ WS c.W H' p a b d ((List.range j).foldl (walkTurn (stepT E0) z) W))
        (fun H5 e5 => ⟨_, _, rfl, bx.more (e4.trans e5), S.mono (e4.trans e5)⟩) (fun j σ' H' hj hP => ?_) fun σ' H' hP => ?_
      · obtain ⟨o6, o7, rfl, bx, S⟩ := hP
        have wk2 := turns_ok (l := List.range j) (fun x hx => Nat.lt_trans (List.mem_range.mp hx) hj) wk hzm
        obtain ⟨gr, egr⟩ := turns_grow (stepT E0) z (List.range j) W
        have hzm2 : z ∈ (List.range j).foldl (walkTurn (stepT E0) z) W := by rw [egr]; exact List.mem_append_left _ hzm
        have wk3 := wk2.turn hzm2 hj
        have st : (List.range (j + 1)).foldl (walkTurn (stepT E0) z) W = walkTurn (stepT E0) z ((List.range j).foldl (walkTurn (stepT E0) z) W) j := by rw [List.range_succ, List.foldl_append]; rfl
        clear egr
        generalize (List.range j).foldl (walkTurn (stepT E0) z) W = acc at S wk2 hzm2 wk3 st
        have la := wok_len wk2 no kN
        obtain ⟨dx3, hp3⟩ := S.obj
        have rl3 : LdR (stepT E0) lv H' := rmono (LdR (stepT E0)) (exb _ bx) rl
        refine st_seq (st_asg (er_get1D (er_var (R := LdR (stepT E0)) rl3 rfl) (er_key (m := z.1) (n := j) rfl rfl)) fun ov H6 e6 ro => ?_)
        have eo : ov = optV (stepT E0 z.1 j) := by rw [show ov = _ from ro, get_opt]
        subst eo
        dsimp only
        cases hs : stepT E0 z.1 j with
        | none =>
          rw [walkTurn_none hs] at st
          refine st_if (b := false) (et_is (Evl.et_and (b := true) (et_test (er_is (er_notN (er_v (v := .non) rfl)) rfl)) fun z => nomatch z) rfl) (fun hb => nomatch hb) fun _ H7 e7 => ⟨_, _, rfl, bx.more (e6.trans e7), ?_⟩
          rw [st]
          exact S.mono (e6.trans e7)
        | some v =>
          rw [walkTurn_some hs] at st wk3
          obtain ⟨kT, hb, hk⟩ := S.has
          have S6 := S.mono e6
          refine st_if (b := !hasW acc v) (et_is (Evl.et_and (et_test (er_is (er_notN (er_v (v := .int (v : Int)) rfl)) rfl)) fun _ => et_B (er_notinAt (er_n v rfl) (er_fld (er_ref rfl) (e6 _ _ hp3) T.Ways.cl T.wT (wf_b a b d)) (e6 _ _ hb))) ?_) (fun hb H7 e7 => ?_) fun hb H7 e7 => ?_
          · rw [hk]; simp
          · have hb : hasW acc v = false := by cases h : hasW acc v with | false => rfl | true => rw [h] at hb; cases hb
            rw [if_neg (by rw [hb]; exact Bool.false_ne_true)] at st wk3
            refine st_find (W := acc) (stp := stepT E0) (n := n) (y := z) (x := j) (v := v) (S6.mono e7) wk2 wk3 hzm2 hb (by omega) (er_ref rfl) (er_n z.1 rfl) (er_n j rfl) (er_n v rfl) fun H8 bx8 S8 => ⟨_, _, rfl, (bx.more (e6.trans e7)).trans bx8, ?_⟩
            rw [st]
            exact S8
          · have hb : hasW acc v = true := by cases h : hasW acc v with | true => rfl | false => rw [h] at hb; cases hb
            rw [if_pos hb] at st
            refine ⟨_, _, rfl, bx.more (e6.trans e7), ?_⟩
            rw [st]
            exact S6.mono e7
      · obtain ⟨o6, o7, rfl, bx, S⟩ := hP
        refine ⟨_, _, _, _, rfl, bx, ?_⟩
        rw [wsuc]
        exact S
    · obtain ⟨o4, o5, o6, o7, rfl, bx, S⟩ := hP
      exact st_ret (er_ref rfl) fun v H5 e5 r5 => q v H5 ((e1.trans (exb _ bx)).trans e5) ⟨p, a, b, d, N, r5, kN, S.mono e5⟩
/-- the free threads, told in a new list -/
def spFree : Sp := fun vs H Q _ => ∃ (T : List Tri) (n : Nat), Bth T n ∧ T.length ≤ 10000 ∧ n ≤ 6 ∧ All2 [LstOf TriR T, IsI (n : Int)] vs H ∧
  ∀ v H', Ex H H' → (∃ N O q xs, KnotsOf T N ∧ (∀ u f, O u f = true ↔ OnW (walkTo (stepT T) n N.length) u f) ∧ v = .ref q ∧ H q = none ∧ H' q = some (.lst xs) ∧ Paired (fun z x => PairR z x H') (freeT T n O (walkTo (stepT T) n N.length)) xs) → Q v H'
def FreeR (T : List Tri) (n : Nat) : Rel := fun v H => ∃ N O, KnotsOf T N ∧ (∀ u f, O u f = true ↔ OnW (walkTo (stepT T) n N.length) u f) ∧ LstOf PairR (freeT T n O (walkTo (stepT T) n N.length)) v H
instance (T : List Tri) (n : Nat) : Mono (FreeR T n) := ⟨fun {v H H'} e ⟨N, O, h1, h2, h3⟩ => ⟨N, O, h1, h2, rmono (LstOf PairR (freeT T n O (walkTo (stepT T) n N.length))) e h3⟩⟩
abbrev s_free_threads : Stmt := (top 79)
abbrev N_free_threads : List Str := ["threads", "fingers", "leads", "ways", "free", "knot", "finger"]
theorem sc_free_threads : FnScope ["threads", "fingers", "leads", "ways", "free", "knot", "finger"] ["threads", "fingers"] (defScope s_free_threads) := ⟨rfl, rfl, rfl, by decide +kernel, rfl, by decide +kernel, by decide +kernel⟩
theorem b_free_threads : BindsP "free_threads" "free_threads" s_free_threads ["threads", "fingers"] := fun _ _ _ _ _ _ us hl => match us, hl with | [_, _], _ => rfl
theorem ok_free_threadsF (T : Txt K mg c) : Ok P w K mg base CX0 5 "free_threads" ["threads", "fingers"] spFree := by
  refine T.free_threads.ok sc_free_threads b_free_threads (fun vs H Q E h => ?_) (fun f cdv A outer s H vs Q E hr h => ⟨_, (pss_cons (ps_set (i := 2) sc_free_threads.nd rfl (.inl rfl) (pcall (ok_leads_of T) (hr.mono (by decide)) rfl pass0 (pa_cons (pv 0) pa_nil)))
      (pss_cons (ps_set (i := 3) sc_free_threads.nd rfl (.inl rfl) (pcall (ok_ways_of T) (hr.mono (by decide)) rfl pass0 (pa_cons (pv 0) (pa_cons (pv 1) pa_nil))))
      (pss_cons (ps_set (i := 4) sc_free_threads.nd rfl (.inl rfl) (pe_lst pa_nil))
      (pss_cons (ps_for PassesOwn.never rfl (pi_list (pe_fld (pv 3) rfl)) (pg_name (i := 5) sc_free_threads.nd rfl (.inl rfl)) (pss_one (ps_for PassesOwn.never rfl (pi_range1 (by rfl) T.range (pa_cons (pv 1) pa_nil)) (pg_name (i := 6) sc_free_threads.nd rfl (.inl rfl)) (pss_one (ps_if (PW.pt (pw_and (pt_cmp (pc_din (hu_of hr) (pe_tup (pa_cons (pv 5) (pa_cons (pcall (ok_small_turn T) (hr.mono (by decide)) rfl pass0 (pa_cons (pv 6) pa_nil)) pa_nil))) (pv 2))) (pw_and1 (pt_cmp (pc_dnotin (hu_of hr) (pe_tup (pa_cons (pv 5) (pa_cons (pv 6) pa_nil))) (pe_fld (pv 3) rfl)))))) (pss_one (ps_expr (pe_bm PySem.F.plainAttrs_list PySem.F.slot_list_append PySem.F.type_list_append mt_append (pv 4) (pa_cons (pe_tup (pa_cons (pv 5) (pa_cons (pv 6) pa_nil))) pa_nil)))) pss_nil)))))
      (pss_one (ps_ret (pv 4))))))), ?_⟩)
  · obtain ⟨E0, n, _, _, _, r, _⟩ := h; exact all_len r
  · obtain ⟨E0, n, B, hz, hn, ra, q⟩ := h
    obtain ⟨v1, v2, rfl, r1, r2⟩ := all2 ra
    cases r2
    have no : NoClash E0 := by obtain ⟨_, _, _, _, B⟩ := B; exact B.no'
    refine st_seq (st_asg (er_call E0 (ea1 (er_var (R := LstOf TriR E0) r1 rfl)) ⟨no, by omega⟩) fun lv H1 e1 rl => ?_)
    dsimp only
    refine st_seq (st_asg (er_call (E0, n) (ea2 (er_var (R := LstOf TriR E0) (rmono (LstOf TriR E0) e1 r1) rfl) (er_n n rfl)) ⟨B, hz, hn⟩) fun wv H2 e2 rw2 => ?_)
    obtain ⟨p, a, b, d, N, rfl, kN, S⟩ := rw2
    have wk := walk_ok (stepT E0) n N.length
    have lw := wok_len wk no kN
    have lN : N.length ≤ 20001 := by
      have := knots_few kN
      dsimp only at this
      omega
    generalize hW : walkTo (stepT E0) n N.length = W at S wk lw
    dsimp only
    refine st_seq (st_new fun l H3 e3 nl hl => ?_)
    dsimp only
    obtain ⟨dx, hp⟩ := S.obj
    obtain ⟨kO, hd, _, onO⟩ := S.ons
    let O : Nat → Nat → Bool := fun u f => (valV kO (nk u f)).isSome
    have al : a ≠ l := ne_of_none S.found nl
    have dl : d ≠ l := ne_of_none hd nl
    have pl : p ≠ l := ne_of_none hp nl
    have nl0 : H l = none := Evl.fresh_back (e1.trans e2) nl
    have exb : ∀ H', ExB [l] H3 H' → Ex H2 H' := fun H' bx => ExB.ex e3 bx fun l' m => by rw [List.mem_singleton.mp m]; exact nl
    have g3 : ∀ H', ExB [l] H3 H' → H' p = some (.ins c.W dx (wf a b d)) := fun H' bx => exb H' bx _ _ hp
    refine st_seq (st_listA (p := a) (xs := iv (W.map (·.1))) (er_fld (er_ref rfl) (e3 _ _ hp) T.Ways.cl T.wF (wf_a a b d)) (e3 _ _ S.found) (fun i σ' H' => ∃ o5 o6 xs, σ' = [some v1, some (.int (n : Int)), some lv, some (.ref p), some (.ref l), o5, o6] ∧ ExB [l] H3 H' ∧ H' l = some (.lst xs) ∧ Paired (fun z x => PairR z x H') ((W.take i).flatMap fun z => freeAt E0 n O z.1) xs)
      (fun H4 e4 => ⟨_, _, [], rfl, .of e4, e4 _ _ hl, .nil⟩) (fun i σ' H' hP => ?_) (fun i x σ' H' hi hP => ?_) fun σ' H' hP => ?_)
    · obtain ⟨_, _, _, _, bx, _⟩ := hP
      exact exb _ bx _ _ S.found
    · obtain ⟨o5, o6, xs, rfl, bx, hl', pr⟩ := hP
      obtain ⟨u, hu, rfl⟩ := iv_get hi
      rw [List.getElem?_map] at hu
      obtain ⟨z, hz', rfl⟩ := Option.map_eq_some_iff.mp hu
      have fl := free_len (T := E0) (n := n) (O := O) (W.take i)
      have lt : (W.take i).length * n ≤ 20001 * 6 := Nat.mul_le_mul (by rw [List.length_take]; omega) hn
      have stp : ((W.take (i + 1)).flatMap fun z => freeAt E0 n O z.1) = ((W.take i).flatMap fun z => freeAt E0 n O z.1) ++ freeAt E0 n O z.1 := by
        rw [List.take_add_one, hz', List.flatMap_append]
        show _ ++ ([z].flatMap fun z => freeAt E0 n O z.1) = _
        rw [List.flatMap_cons, List.flatMap_nil, List.append_nil]
      generalize ((W.take i).flatMap fun z => freeAt E0 n O z.1) = Fi at pr fl stp
      refine st_range1 (n := n) (ea1 (er_n n rfl)) (by omega) (fun j σ' H' => ∃ o6 xs, σ' = [some v1, some (.int (n : Int)), some lv, some (.ref p), some (.ref l), some (.int (z.1 : Int)), o6] ∧ ExB [l] H3 H' ∧ H' l = some (.lst xs) ∧ Paired (fun z x => PairR z x H') (Fi ++ ((List.range j).filter fun f => (stepT E0 z.1 (2 * f)).isSome && !O z.1 f).map fun f => (z.1, f)) xs)
        (fun H4 e4 => ⟨_, xs, rfl, bx.more e4, e4 _ _ hl', by rw [List.range_zero, List.filter_nil, List.map_nil, List.append_nil]; exact paired_mono (R := PairR) e4 pr⟩) (fun j σ' H' hj hP => ?_) fun σ' H' hP => ?_
      · obtain ⟨o6, xs, rfl, bx, hl', pr⟩ := hP
        have lx := paired_len pr
        rw [List.length_append, List.length_map] at lx
        have lf := List.length_filter_le (fun f => (stepT E0 z.1 (2 * f)).isSome && !O z.1 f) (List.range j)
        rw [List.length_range] at lf
        refine st_if (b := (stepT E0 z.1 (2 * j)).isSome && !O z.1 j) (Evl.et_and (et_is (et_B (er_inD (er_pair (m := z.1) (n := 2 * j) (er_n z.1 rfl) (er_call j (ea1 (er_n j rfl)) trivial)) (er_var (R := LdR (stepT E0)) (rmono (LdR (stepT E0)) (e2.trans (exb _ bx)) rl) rfl))) (Option.isSome_map ..)) fun _ => et_B (er_notinD (f := fun u x => valV kO (nk u x)) (er_pair (m := z.1) (n := j) (er_n z.1 rfl) (er_n j rfl)) ((er_fld (er_ref rfl) (g3 _ bx) T.Ways.cl T.wO (wf_c a b d)).imp fun v H5 e5 r5 => ?_))) (fun hb H5 e5 => ?_) fun hb H5 e5 => ?_
        · rw [show v = _ from r5]
          exact dt_self (e5 _ _ (exb _ bx _ _ hd))
        · refine st_append (R := IsP z.1 j) (e5 _ _ hl') (er_ref rfl) (er_pair (er_n z.1 rfl) (er_n j rfl)) (by omega) fun v H6 e6 r6 => ⟨_, _, rfl, (bx.more (e5.trans e6)).trans (.upd (by simp)), upd_same, ?_⟩
          have hl6 := e6 _ _ (e5 _ _ hl')
          rw [filt_yes (p := fun f => (stepT E0 z.1 (2 * f)).isSome && !O z.1 f) hb, List.map_append, ← List.append_assoc]
          exact paired_snoc (paired_stay (paired_mono (R := PairR) (e5.trans e6) pr) fun b x r => (flatT _).stay hl6 r) ((flatT _).stay hl6 r6)
        · refine ⟨_, xs, rfl, bx.more e5, e5 _ _ hl', ?_⟩
          rw [filt_no (p := fun f => (stepT E0 z.1 (2 * f)).isSome && !O z.1 f) hb]
          exact paired_mono (R := PairR) e5 pr
      · obtain ⟨o6, xs, rfl, bx, hl', pr⟩ := hP
        refine ⟨_, _, xs, rfl, bx, hl', ?_⟩
        rw [stp]
        exact pr
    · obtain ⟨o5, o6, xs, rfl, bx, hl', pr⟩ := hP
      rw [show W.take (iv (W.map (·.1))).length = W by rw [iv_len, List.length_map]; exact List.take_length] at pr
      refine st_ret (er_ref rfl) fun v H5 e5 r5 => q v H5 (((e1.trans e2).trans (exb _ bx)).trans e5) ⟨N, O, l, xs, kN, fun u f => ?_, r5, nl0, e5 _ _ hl', ?_⟩
      · rw [hW]; exact onO u f
      · rw [hW]; exact paired_mono (R := PairR) e5 pr
theorem ok_free_threads (T : Txt K mg c) : Ok P w K mg base CX0 5 "free_threads" ["threads", "fingers"] (spF (fun p : List Tri × Nat => [LstOf TriR p.1, IsI (p.2 : Int)]) (fun p => Bth p.1 p.2 ∧ p.1.length ≤ 10000 ∧ p.2 ≤ 6) (fun p => FreeR p.1 p.2)) := by
  obtain ⟨f, fd, F, e⟩ := (ok_free_threadsF (P := P) (w := w) (base := base) T).ex
  exact ⟨f, fd, F.imp fun vs H Q E ⟨p, hk, ra, q⟩ => ⟨p.1, p.2, hk.1, hk.2.1, hk.2.2, ra, fun v H' e ⟨N, O, q', xs, h1, h2, h3, _, h4, h5⟩ => q v H' e ⟨N, O, h1, h2, q', xs, h3, h4, h5⟩⟩, e⟩
end
end Fc
set_option maxRecDepth 100000
set_option maxHeartbeats 2000000
namespace Fc
open PySem PySem.Spec PyProof.Rows L2
/-- the ways by their knots -/
def WtR (T : List Tri) (n : Nat) : Rel := fun v H => ∃ N b kT, v = .ref b ∧ KnotsOf T N ∧ H b = some (.dK kT) ∧ ∀ z ∈ walkTo (stepT T) n N.length, z.2.length ≤ (walkTo (stepT T) n N.length).length ∧ ∃ q, valV kT (k1 z.1) = some (.ref q) ∧ H q = some (.lst (iv z.2))
instance (T : List Tri) (n : Nat) : Mono (WtR T n) := ⟨fun e ⟨N, b, kT, h1, h2, h3, h4⟩ => ⟨N, b, kT, h1, h2, e _ _ h3, fun z hz => let ⟨g1, q, g2, g3⟩ := h4 z hz; ⟨g1, q, g2, e _ _ g3⟩⟩⟩
def BasR (T : List Tri) (n : Nat) : Rel := fun v H => ∃ N O, KnotsOf T N ∧ (∀ u f, O u f = true ↔ OnW (walkTo (stepT T) n N.length) u f) ∧ Cords (basisT T (walkTo (stepT T) n N.length) (freeT T n O (walkTo (stepT T) n N.length))) v H
instance (T : List Tri) (n : Nat) : Mono (BasR T n) := ⟨fun {v H H'} e ⟨N, O, h1, h2, h3⟩ => ⟨N, O, h1, h2, rmono (Cords (basisT T (walkTo (stepT T) n N.length) (freeT T n O (walkTo (stepT T) n N.length)))) e h3⟩⟩
def ToldR (T : List Tri) (n : Nat) (w : List Nat) : Rel := fun v H => ∃ N O, KnotsOf T N ∧ (∀ u f, O u f = true ↔ OnW (walkTo (stepT T) n N.length) u f) ∧ IsL ((tellT T (freeT T n O (walkTo (stepT T) n N.length)) 0 (Vbcjai.taut w)).map V.int) v H
instance (T : List Tri) (n : Nat) (w : List Nat) : Mono (ToldR T n w) := ⟨fun {v H H'} e ⟨N, O, h1, h2, h3⟩ => ⟨N, O, h1, h2, rmono (IsL ((tellT T (freeT T n O (walkTo (stepT T) n N.length)) 0 (Vbcjai.taut w)).map V.int)) e h3⟩⟩
section
variable {K : PySem.W.Frag} {σ : L2.St} {H H' : Hp} {ta tb te tc tl ty tv t1 t2 t3 tp : TE} {t u : TT} {x y z v : V} {R Ra Rb : Rel} {D : Ends} {tu tw : TS} {w : List Nat}
theorem er_wayTo {C : Addr} {T : List Tri} {n : Nat} (h : ER ta σ H (WaysR C T n)) (cl : Cls K C) (na : NoAttr K C "way_to") : ER (tFld K ta "way_to") σ H (WtR T n) := fun H1 e Q q => h H1 e _ fun a H2 e2 ⟨p, a', b, d, N, ea, kN, S⟩ => by
  obtain ⟨dx, ho⟩ := S.obj
  obtain ⟨kT, hb, _, _, hz⟩ := S.tos
  exact ⟨p, C, dx, _, _, ea, ho, cl, na, wf_b a' b d, q _ H2 e2 ⟨N, b, kT, rfl, kN, hb, fun z h => let ⟨q, g1, _, g3⟩ := hz z h; ⟨S.len z h, q, g1, g3⟩⟩⟩
theorem st_forFree {T : List Tri} {n : Nat} {ta : TA} {E : XK} {g : TG} (h : EA ta σ H [LstOf TriR T, IsI (n : Int)]) (B : Bth T n) (hz : T.length ≤ 10000) (hn : n ≤ 6)
    (k : ∀ H' N O q xs, Ex H H' → KnotsOf T N → (∀ u f, O u f = true ↔ OnW (walkTo (stepT T) n N.length) u f) → H q = none → H' q = some (.lst xs) → Paired (fun z x => PairR z x H') (freeT T n O (walkTo (stepT T) n N.length)) xs → tFor (iList K (tC (.ref q))) g tu D σ H') :
    tFor (iList K (tCall spFree [] E ta)) g tu D σ H := h H Ex.rfl _ fun vs H1 e1 r => ⟨T, n, B, hz, hn, by rw [List.append_nil]; exact r, fun v H' e' hv => by
  obtain ⟨N, O, q, xs, h1, h2, rfl, h3, h4, h5⟩ := hv
  exact k H' N O q xs (e1.trans e') h1 h2 (Evl.fresh_back e1 h3) h4 h5⟩
theorem st_appendTaut {l : Addr} {xs : List V} {E : XK} (hl : H l = some (.lst xs)) (ha : ER ta σ H (IsV (.ref l))) (h : ER te σ H (IsN w)) (hw : w.length ≤ 1000000) (hz : xs.length ≤ 16000000) (k : ∀ q H1, Ex H H1 → H q = none → H1 q = some (.lst (iv (Vbcjai.taut w))) → D.nx σ (upd H1 l (.lst (xs ++ [.ref q])))) :
    tDrop (tBM K "list" rAppend ta (tCons (tCall spTaut [] E (tCons te tNil)) tNil)) D σ H := ha H Ex.rfl _ fun a H1 e1 ra => by
  have ea : a = .ref l := ra
  subst ea
  refine ⟨.inl ⟨rfl, xs, .of (e1 l _ hl)⟩, h H1 e1 _ fun v H2 e2 r => ⟨w, hw, ⟨r, trivial⟩, ?_⟩⟩
  rintro v' H3 e3 ⟨q, rfl, nq, hq⟩
  exact ⟨l, xs, _, rfl, rfl, e3 _ _ (e2 l _ (e1 l _ hl)), Nat.lt_of_le_of_lt hz (by decide), k q H3 ((e1.trans e2).trans e3) (Evl.fresh_back (e1.trans e2) nq) hq⟩
end
theorem paired_len2 {β γ : Type} {F : β → γ → Prop} : ∀ {bs : List β} {xs : List γ}, Paired F bs xs → bs.length = xs.length
  | _, _, .nil => rfl
  | _, _, .cons _ t => congrArg (· + 1) (paired_len2 t)
theorem idx_snoc {α : Type} [BEq α] [LawfulBEq α] [DecidableEq α] (x a : α) : ∀ l : List α, (l ++ [x]).idxOf? a = match l.idxOf? a with
    | some k => some k
    | none => if x = a then some l.length else none
  | [] => by
    rw [List.nil_append, List.idxOf?_cons]
    by_cases h : x = a
    · rw [if_pos (by simpa using h)]
      show some 0 = if x = a then some 0 else none
      rw [if_pos h]
    · rw [if_neg (by simpa using h)]
      show none = if x = a then some 0 else none
      rw [if_neg h]
  | b :: l => by
    rw [List.cons_append, List.idxOf?_cons, List.idxOf?_cons, idx_snoc x a l]
    by_cases h : (b == a) = true
    · rw [if_pos h, if_pos h]
    · rw [if_neg h, if_neg h]
      cases l.idxOf? a with
      | some k => rfl
      | none =>
        by_cases g : x = a
        · simp [g]
        · simp [g]
/-- the free threads' numbers, as a dict -/
def numD (F : List (Nat × Nat)) (i : Nat) : List (List Key × V) := mergeT [] ((List.range i).map fun k => (nk (F.getD k (0, 0)).1 (F.getD k (0, 0)).2, V.int ((k + 1 : Nat) : Int)))
theorem numD_is {F : List (Nat × Nat)} (nd : F.Nodup) (u f : Nat) : ∀ i, i ≤ F.length → valV (numD F i) (nk u f) = ((F.take i).idxOf? (u, f)).map fun k => V.int ((k + 1 : Nat) : Int)
  | 0, _ => by
    rw [List.take_zero]
    rfl
  | i + 1, h => by
    have ih := numD_is nd u f i (by omega)
    have e : numD F (i + 1) = putK (numD F i) (nk (F.getD i (0, 0)).1 (F.getD i (0, 0)).2) (V.int ((i + 1 : Nat) : Int)) := by
      unfold numD mergeT
      rw [List.range_succ, List.map_append, List.foldl_append]
      rfl
    have hi : F[i]? = some (F.getD i (0, 0)) := by rw [List.getD_eq_getElem?_getD, List.getElem?_eq_getElem (by omega)]; rfl
    have tk : F.take (i + 1) = F.take i ++ [F.getD i (0, 0)] := by rw [List.take_add_one, hi]; rfl
    have ni : F.getD i (0, 0) ∉ F.take i := fun m => by
      have z : (F.take (i + 1)).Nodup := nd.sublist (List.take_sublist _ _)
      rw [tk, List.nodup_append] at z
      exact z.2.2 _ m _ (List.mem_singleton.mpr rfl) rfl
    rw [e, valV_nk, ih, tk, idx_snoc]
    generalize F.getD i (0, 0) = g at ni
    obtain ⟨g1, g2⟩ := g
    by_cases c : u = g1 ∧ f = g2
    · obtain ⟨rfl, rfl⟩ := c
      rw [if_pos ⟨rfl, rfl⟩]
      have z : (F.take i).idxOf? (u, f) = none := List.idxOf?_eq_none_iff.mpr ni
      rw [z]
      show _ = Option.map _ (if (u, f) = (u, f) then some _ else none)
      rw [if_pos rfl, List.length_take, Nat.min_eq_left (by omega)]
      rfl
    · rw [if_neg c]
      cases (F.take i).idxOf? (u, f) with
      | some k => rfl
      | none =>
        show _ = Option.map _ (if (g1, g2) = (u, f) then some _ else none)
        rw [if_neg fun e => c ⟨by injection e with a b; exact a.symm, by injection e with a b; exact b.symm⟩]
theorem numD_all {F : List (Nat × Nat)} (nd : F.Nodup) (u f : Nat) : valV (numD F F.length) (nk u f) = (F.idxOf? (u, f)).map fun k => V.int ((k + 1 : Nat) : Int) := by
  have z := numD_is nd u f F.length (Nat.le_refl _)
  rw [List.take_length] at z
  exact z
section
variable {P : Program} {w : World} {K : PySem.W.Frag} {mg : Str → Option Value} {base : Heap} {c : Cl3}
abbrev s_basis_of : Stmt := (top 80)
abbrev N_basis_of : List Str := ["threads", "fingers", "leads", "way_to", "basis", "knot", "finger", "turn"]
theorem sc_basis_of : FnScope ["threads", "fingers", "leads", "way_to", "basis", "knot", "finger", "turn"] ["threads", "fingers"] (defScope s_basis_of) := ⟨rfl, rfl, rfl, by decide +kernel, rfl, by decide +kernel, by decide +kernel⟩
theorem b_basis_of : BindsP "basis_of" "basis_of" s_basis_of ["threads", "fingers"] := fun _ _ _ _ _ _ us hl => match us, hl with | [_, _], _ => rfl
theorem ok_basis_of (T : Txt K mg c) : Ok P w K mg base CX0 6 "basis_of" ["threads", "fingers"] (spF (fun p : List Tri × Nat => [LstOf TriR p.1, IsI (p.2 : Int)]) (fun p => Bth p.1 p.2 ∧ p.1.length ≤ 10000 ∧ p.2 ≤ 6) (fun p => BasR p.1 p.2)) := by
  refine T.basis_of.ok sc_basis_of b_basis_of (fun vs H Q E h => ?_) (fun f cdv A outer s H vs Q E hr h => ⟨_, (pss_cons (ps_set (i := 2) sc_basis_of.nd rfl (.inl rfl) (pcall (ok_leads_of T) (hr.mono (by decide)) rfl pass0 (pa_cons (pv 0) pa_nil)))
      (pss_cons (ps_set (i := 3) sc_basis_of.nd rfl (.inl rfl) (pe_fld (pcall (ok_ways_of T) (hr.mono (by decide)) rfl pass0 (pa_cons (pv 0) (pa_cons (pv 1) pa_nil))) rfl))
      (pss_cons (ps_set (i := 4) sc_basis_of.nd rfl (.inl rfl) (pe_lst pa_nil))
      (pss_cons (ps_for PassesOwn.never rfl (pi_list (pcall (ok_free_threadsF T) (hr.mono (by decide)) rfl pass0 (pa_cons (pv 0) (pa_cons (pv 1) pa_nil)))) (pg_tupK (K := K) (n := 2) rfl rfl (pgs_cons (pg_name (i := 5) sc_basis_of.nd rfl (.inl rfl)) (pgs_cons (pg_name (i := 6) sc_basis_of.nd rfl (.inl rfl)) pgs_nil))) (pss_cons (ps_set (i := 7) sc_basis_of.nd rfl (.inl rfl) (pcall (ok_small_turn T) (hr.mono (by decide)) rfl pass0 (pa_cons (pv 6) pa_nil)))
      (pss_one (ps_expr (pe_bm PySem.F.plainAttrs_list PySem.F.slot_list_append PySem.F.type_list_append mt_append (pv 4) (pa_cons (pcall (ok_pulled_tautF T) (hr.mono (by decide)) rfl pass0 (pa_cons (pe_op op_cat (pe_op op_cat (pe_dget (hu_of hr) (pv 3) (pv 5) (fun _ _ => rfl)) (pe_lst (pa_cons (pv 7) pa_nil))) (pcall (ok_turned_back T) (hr.mono (by decide)) rfl pass0 (pa_cons (pe_dget (hu_of hr) (pv 3) (pe_dget (hu_of hr) (pv 2) (pe_tup (pa_cons (pv 5) (pa_cons (pv 7) pa_nil))) (fun _ _ => rfl)) (fun _ _ => rfl)) pa_nil))) pa_nil)) pa_nil))))))
      (pss_one (ps_ret (pv 4))))))), ?_⟩)
  · obtain ⟨n, _, r, _⟩ := h; exact all_len r
  · obtain ⟨⟨E0, n⟩, ⟨B, hz, hn⟩, ra, q⟩ := h
    dsimp only at ra q hz hn B
    obtain ⟨v1, v2, rfl, r1, r2⟩ := all2 ra
    cases r2
    have no : NoClash E0 := by obtain ⟨_, _, _, _, B⟩ := B; exact B.no'
    refine st_seq (st_asg (er_call E0 (ea1 (er_var (R := LstOf TriR E0) r1 rfl)) ⟨no, by omega⟩) fun lv H1 e1 rl => ?_)
    dsimp only
    refine st_seq (st_asg (er_wayTo (er_call (E0, n) (ea2 (er_var (R := LstOf TriR E0) (rmono (LstOf TriR E0) e1 r1) rfl) (er_n n rfl)) ⟨B, hz, hn⟩) T.Ways.cl T.wT) fun wv H2 e2 rw2 => ?_)
    obtain ⟨N, wb, kT, rfl, kN, hb, hT⟩ := rw2
    dsimp only at kN hT
    dsimp only
    refine st_seq (st_new fun l H3 e3 nl hl => ?_)
    dsimp only
    have nl0 : H l = none := Evl.fresh_back (e1.trans e2) nl
    -- the free threads
    refine st_seq (st_forFree (ea2 (er_var (R := LstOf TriR E0) (rmono (LstOf TriR E0) ((e1.trans e2).trans e3) r1) rfl) (er_n n rfl)) B hz hn fun H5 N2 O pF xs e45 kN2 hO nF hF pr => ?_)
    have nn : N2.length = N.length := knots_same kN2 kN
    rw [nn] at hO pr
    have wk := walk_ok (stepT E0) n N.length
    have lw := wok_len wk no kN
    have lN := knots_few kN
    have has : ∀ v, Knot E0 v → ∃ z ∈ walkTo (stepT E0) n N.length, z.1 = v := fun v k => by
      obtain ⟨M, P1, Q1, K1, B⟩ := B
      exact hasW_ex ((B.all kN).2 v ((kN.mem v).mpr k))
    have fin := fun z => free_in (T := E0) (n := n) (O := O) (W := walkTo (stepT E0) n N.length) (z := z)
    have fl := free_len (T := E0) (n := n) (O := O) (walkTo (stepT E0) n N.length)
    have fl2 : (walkTo (stepT E0) n N.length).length * n ≤ 20001 * 6 := Nat.mul_le_mul (by omega) hn
    have way : ∀ z ∈ walkTo (stepT E0) n N.length, wayT (walkTo (stepT E0) n N.length) z.1 = z.2 := fun z hz => wayT_of wk hz
    change (freeT E0 n O (walkTo (stepT E0) n N.length)).length ≤ _ at fl
    generalize hW : walkTo (stepT E0) n N.length = W at *
    generalize hFe : freeT E0 n O W = F at *
    have hl5 := e45 _ _ hl
    have Fl : pF ≠ l := fun e => by
      rw [e] at nF
      rw [hl] at nF
      cases nF
    have exb : ∀ H', ExB [l] H5 H' → Ex H2 H' := fun H' bx => ExB.ex (e3.trans e45) bx fun l' m => by rw [List.mem_singleton.mp m]; exact nl
    let bs : Nat × Nat → List Nat := fun z => Vbcjai.taut (wayT W z.1 ++ [2 * z.2] ++ Vbcjai.back (wayT W ((stepT E0 z.1 (2 * z.2)).getD 0)))
    have lF := paired_len pr
    dsimp only
    refine ⟨pF, rfl, ⟨xs, .of hF⟩, ?_⟩
    refine for_list (xs := xs) (fun i σ' H' => ∃ o5 o6 o7 ps, σ' = [some v1, some (.int (n : Int)), some lv, some (.ref wb), some (.ref l), o5, o6, o7] ∧ ExB [l] H5 H' ∧ H' l = some (.lst (ps.map V.ref)) ∧ l ∉ ps ∧ Paired (fun w a => H' a = some (.lst (iv w))) ((F.take i).map bs) ps)
      ⟨_, _, _, [], rfl, .rfl, hl5, by simp, .nil⟩ (fun i σ' H' _ hP => ?_) (fun i x σ' H' hx hP => ?_) fun σ' H' hP => ?_
    · obtain ⟨_, _, _, _, _, bx, _⟩ := hP
      exact .of (bx pF _ (by simp [Fl]) hF)
    · obtain ⟨o5, o6, o7, ps, rfl, bx, hl', nps, pp⟩ := hP
      have hi : i < F.length := by
        have := (List.getElem?_eq_some_iff.mp hx).1
        omega
      have hb' : F[i]? = some F[i] := List.getElem?_eq_getElem hi
      obtain ⟨x', hx', rS⟩ := paired_get pr hb'
      rw [hx] at hx'
      cases hx'
      generalize F[i] = z at hb' rS
      obtain ⟨⟨y, hy, ey⟩, hs⟩ := fin z (List.mem_of_getElem? hb')
      obtain ⟨t, ht⟩ := Option.isSome_iff_exists.mp hs
      have kt : Knot E0 t := ((stepT_iff no).mp ht).knot
      obtain ⟨y2, hy2, ey2⟩ := has t kt
      obtain ⟨ly, qy, gy, cy⟩ := hT y hy
      obtain ⟨ly2, qy2, gy2, cy2⟩ := hT y2 hy2
      have tk : (F.take (i + 1)).map bs = (F.take i).map bs ++ [Vbcjai.taut (y.2 ++ [2 * z.2] ++ Vbcjai.back y2.2)] := by
        rw [List.take_add_one, hb', List.map_append]
        congr 1
        show [bs z] = _
        have w1 : wayT W z.1 = y.2 := by rw [← ey]; exact way y hy
        have w2 : wayT W ((stepT E0 z.1 (2 * z.2)).getD 0) = y2.2 := by rw [ht]; show wayT W t = _; rw [← ey2]; exact way y2 hy2
        show [Vbcjai.taut _] = _
        rw [w1, w2]
      have rS' : IsP z.1 z.2 x H' := by
        obtain ⟨t', e', ht'⟩ := rS
        exact ⟨t', e', bx _ _ (by simp; exact ne_of ht' hl5 (fun z => nomatch z)) ht'⟩
      refine g_pair rS' ?_
      refine st_seq (st_asg (er_call z.2 (ea1 (er_n z.2 rfl)) trivial) fun tv H6 e6 rt => ?_)
      have et : tv = .int ((2 * z.2 : Nat) : Int) := rt
      subst et
      dsimp only
      have ex6 : Ex H2 H6 := (exb _ bx).trans e6
      have back_len : (Vbcjai.back y2.2).length = y2.2.length := by unfold Vbcjai.back; rw [List.length_map, List.length_reverse]
      have ek1 : k1 y.1 = k1 z.1 := by rw [ey]
      have ek2 : k1 y2.1 = k1 t := by rw [ey2]
      rw [ek1] at gy
      rw [ek2] at gy2
      refine st_appendTaut (w := y.2 ++ [2 * z.2] ++ Vbcjai.back y2.2) (e6 _ _ hl') (er_ref rfl) (er_catN (er_catN (er_at (p := qy) (er_getAt (er_ref rfl) (ex6 _ _ hb) (er_n z.1 rfl) gy) (ex6 _ _ cy)) (er_oneN (er_n (2 * z.2) rfl)) (by simp; omega))
        (er_call y2.2 (ea1 (er_at (p := qy2) (er_getAt (m := t) (er_ref rfl) (ex6 _ _ hb) (er_getT (v := .int (t : Int)) (er_var (R := LdR (stepT E0)) (rmono (LdR (stepT E0)) (e2.trans ex6) rl) rfl) (er_key (m := z.1) (n := 2 * z.2) rfl rfl) (by rw [ht]; rfl)) gy2) (ex6 _ _ cy2))) (by omega)) (by rw [back_len]; simp; omega)) (by rw [List.length_append, back_len]; simp; omega) (by rw [List.length_map, ← paired_len2 pp]; simp; omega) fun q' H7 e7 nq hq' => ?_
      have lq : q' ≠ l := fun e => by rw [e, e6 _ _ hl'] at nq; cases nq
      refine ⟨_, _, _, ps ++ [q'], rfl, (bx.more (e6.trans e7)).trans (.upd (by simp)), by rw [upd_same, List.map_append]; rfl, ?_, ?_⟩
      · rw [List.mem_append, List.mem_singleton]
        rintro (m | m)
        · exact nps m
        · exact lq m.symm
      · rw [tk]
        refine paired_snoc2 (paired_upd (paired_ex (e6.trans e7) pp) nps) ?_
        rw [upd_ne lq]
        exact hq'
    · obtain ⟨o5, o6, o7, ps, rfl, bx, hl', nps, pp⟩ := hP
      rw [← lF, List.take_length] at pp
      refine st_ret (er_ref rfl) fun v H6 e6 r6 => q v H6 ((e1.trans (e2.trans (exb _ bx))).trans e6) ⟨N2, O, kN2, by rw [nn, hW]; exact hO, ?_⟩
      rw [nn, hW, hFe]
      rw [show v = _ from r6]
      exact ⟨l, _, rfl, e6 _ _ hl', paired_cords (paired_ex e6 pp)⟩
abbrev s_told_by_basis : Stmt := (top 81)
abbrev N_told_by_basis : List Str := ["threads", "fingers", "cord", "leads", "taut", "free", "numbers", "k", "knot", "told", "turn", "other", "number"]
theorem sc_told_by_basis : FnScope ["threads", "fingers", "cord", "leads", "taut", "free", "numbers", "k", "knot", "told", "turn", "other", "number"] ["threads", "fingers", "cord"] (defScope s_told_by_basis) := ⟨rfl, rfl, rfl, by decide +kernel, rfl, by decide +kernel, by decide +kernel⟩
theorem b_told_by_basis : BindsP "told_by_basis" "told_by_basis" s_told_by_basis ["threads", "fingers", "cord"] := fun _ _ _ _ _ _ us hl => match us, hl with | [_, _, _], _ => rfl
theorem ok_told_by_basis (T : Txt K mg c) : Ok P w K mg base (L2.CX P w) 6 "told_by_basis" ["threads", "fingers", "cord"] (spX c.R (fun p : List Tri × Nat × List Nat => [LstOf TriR p.1, IsI (p.2.1 : Int), IsN p.2.2]) (fun p => Bth p.1 p.2.1 ∧ p.1.length ≤ 10000 ∧ p.2.1 ≤ 6 ∧ p.2.2.length ≤ 1000000)
    (fun p => if pathT (stepT p.1) 0 (Vbcjai.taut p.2.2) = some 0 then none else some (-5)) (fun p => ToldR p.1 p.2.1 p.2.2)) := by
  refine T.told_by_basis.okX sc_told_by_basis b_told_by_basis (fun vs H Q E h => ?_) (fun f cdv A outer s H vs Q E hr h => (have hu64 := hu64_of hr; ⟨_, (pss_cons (ps_set (i := 3) sc_told_by_basis.nd rfl (.inl rfl) (pcall (ok_leads_of T) (hr.mono (by decide)) rfl pass0 (pa_cons (pv 0) pa_nil)))
      (pss_cons (ps_set (i := 4) sc_told_by_basis.nd rfl (.inl rfl) (pcall (ok_pulled_taut T) (hr.mono (by decide)) rfl pass0 (pa_cons (pv 2) pa_nil)))
      (pss_cons (ps_if (pt_cmpR op_ne (pcall (ok_end_of T) (hr.mono (by decide)) rfl pass0 (pa_cons (pv 3) (pa_cons (pv 4) pa_nil))) pe_int (nomark _)) (pss_one (praise T hr (takes_of rfl rfl rfl rfl) (pa_cons (pconst T.NOT_MADE rfl) pa_nil))) pss_nil)
      (pss_cons (ps_set (i := 5) sc_told_by_basis.nd rfl (.inr rfl) (pcall (ok_free_threads T) (hr.mono (by decide)) rfl pass0 (pa_cons (pv 0) (pa_cons (pv 1) pa_nil))))
      (pss_cons (ps_set (i := 6) sc_told_by_basis.nd rfl (.inl rfl) (pe_callTy (cr_dictT rfl hu64) (by rfl) T.dict Pv.boot_dict (pa_cons (pe_lc (own := [("k", 7)]) rfl sc_told_by_basis.nd (pi_range1 (by rfl) T.range (pa_cons (pe_callB (r := Evl.rLenS K) call_len_seq (by rfl) T.len PySem.boot_len (pa_cons (pv 5) pa_nil)) pa_nil)) (blkOk_by (own := [("k", 7)]) (N := N_told_by_basis) (sc := defScope s_told_by_basis) (by decide +kernel)) (fun _ _ _ _ _ => (pg_name (i := 7) sc_told_by_basis.nd rfl (.inl rfl))) (fun _ _ _ _ _ => pts_nil) (fun _ _ _ _ _ => (pe_tup (pa_cons (pe_ix (r := rIxL K) ix_list (pv 5) (pv 7) (fun _ _ => rfl)) (pa_cons (pe_op op_add (pv 7) pe_int) pa_nil))))) pa_nil)))
      (pss_cons (ps_par (i := 8) (j := 9) rfl sc_told_by_basis.nd rfl rfl (by decide) rfl rfl (pa_cons pe_int (pa_cons (pe_lst pa_nil) pa_nil)) (by rfl))
      (pss_cons (ps_for (passes_of rfl) rfl (pi_list (pv 4)) (pg_name (i := 10) sc_told_by_basis.nd rfl (.inl rfl)) (pss_cons (ps_set (i := 11) sc_told_by_basis.nd rfl (.inl rfl) (pe_dget (hu_of hr) (pv 3) (pe_tup (pa_cons (pv 8) (pa_cons (pv 10) pa_nil))) (fun _ _ => rfl)))
      (pss_cons (ps_set (i := 12) sc_told_by_basis.nd rfl (.inl rfl) (pe_dget2 (hu_of hr) (pv 6) (pcall (ok_passed T) (hr.mono (by decide)) rfl pass0 (pa_cons (pv 8) (pa_cons (pv 10) (pa_cons (pv 11) pa_nil)))) pe_int ⟨rfl, rfl, rfl, rfl⟩))
      (pss_cons (ps_if (pt_cmpR op_gt (pv 12) pe_int (nomark _)) (pss_one (ps_expr (pe_bm PySem.F.plainAttrs_list PySem.F.slot_list_append PySem.F.type_list_append mt_append (pv 9) (pa_cons (pe_ifExp (pt_cmpR op_eq (pe_op op_mod (pv 10) pe_int) pe_int (nomark _)) (pv 12) (pe_op op_sub pe_int (pv 12))) pa_nil)))) pss_nil)
      (pss_one (ps_set (i := 8) sc_told_by_basis.nd rfl (.inl rfl) (pv 11)))))))
      (pss_one (ps_ret (pv 9)))))))))), ?_⟩))
  · obtain ⟨n, _, r, _⟩ := h; exact all_len r
  · obtain ⟨⟨E0, n, ws⟩, ⟨B, hz, hn, hw⟩, ra, q, x⟩ := h
    dsimp only at ra q x hz hn hw B
    obtain ⟨v1, v2, v3, rfl, r1, r2, r3⟩ := all3 ra
    cases r2
    have no : NoClash E0 := by obtain ⟨_, _, _, _, B⟩ := B; exact B.no'
    have tl := taut_length ws
    refine st_seq (st_asg (er_call E0 (ea1 (er_var (R := LstOf TriR E0) r1 rfl)) ⟨no, by omega⟩) fun lv H1 e1 rl => ?_)
    dsimp only
    refine st_seq (st_asg (er_call ws (ea1 (er_vN (rmono (IsN ws) e1 r3) rfl)) hw) fun tv H2 e2 rt => ?_)
    dsimp only
    unfold ToldR at q
    have rt : IsN (Vbcjai.taut ws) tv H2 := rt
    generalize Vbcjai.taut ws = ts at rt q x tl
    have rl2 := rmono (LdR (stepT E0)) e2 rl
    refine st_seq (st_if (b := !decide (pathT (stepT E0) 0 ts = some 0)) (et_is (et_test (er_ne (er_call (stepT E0, ts) (ea2 (er_var (R := LdR (stepT E0)) rl2 rfl) (er_vN rt rfl)) trivial) (er_c (v := .int 0)) ?_)) ?_) (fun hb H3 e3 => ?_) fun hb H3 e3 => ?_)
    · show scal (optV _) (.int 0) = true
      cases pathT (stepT E0) 0 ts <;> rfl
    · congr 1
      cases pathT (stepT E0) 0 ts with
      | none => rfl
      | some k =>
        have z := @int_eq k 0
        show decide (V.int (k : Int) = V.int ((0 : Nat) : Int)) = _
        rw [z]
        by_cases c0 : k = 0
        · rw [c0]; rfl
        · rw [decide_eq_false c0, decide_eq_false (by simpa using c0)]
    · have ne : ¬ pathT (stepT E0) 0 ts = some 0 := fun z => by rw [decide_eq_true z] at hb; cases hb
      exact st_raise er_c ((x (-5) (if_neg ne)).mono ((e1.trans e2).trans e3))
    · have ye : pathT (stepT E0) 0 ts = some 0 := by
        by_cases z : pathT (stepT E0) 0 ts = some 0
        · exact z
        · rw [decide_eq_false z] at hb; cases hb
      rw [if_pos ye] at q
      have q := q rfl
      unfold tNext
      dsimp only
      have rE : LstOf TriR E0 v1 H3 := rmono (LstOf TriR E0) ((e1.trans e2).trans e3) r1
      refine st_seq (st_asg (er_call (E0, n) (ea2 (er_var (R := LstOf TriR E0) rE rfl) (er_n n rfl)) ⟨B, hz, hn⟩) fun fv H4 e4 r4 => ?_)
      obtain ⟨N, O, kN, hO, rF⟩ := r4
      dsimp only at kN hO rF
      have wk := walk_ok (stepT E0) n N.length
      have lw := wok_len wk no kN
      have lN := knots_few kN
      have fl := free_len (T := E0) (n := n) (O := O) (walkTo (stepT E0) n N.length)
      have fl2 : (walkTo (stepT E0) n N.length).length * n ≤ 20001 * 6 := Nat.mul_le_mul (by omega) hn
      have nd := free_nodup (T := E0) (n := n) (O := O) wk.nd
      change (freeT E0 n O (walkTo (stepT E0) n N.length)).length ≤ _ at fl
      have q := fun v H' e r => q v H' e ⟨N, O, kN, hO, r⟩
      generalize freeT E0 n O (walkTo (stepT E0) n N.length) = F at q nd fl rF
      dsimp only
      have mk := er_dictL (σ := [some v1, some (.int (n : Int)), some v3, some lv, some tv, some fv, none, none, none, none, none, none, none]) (H := H4) (S := fun p : (Nat × Nat) × Nat => TupOf [PairR p.1, IsI (p.2 : Int)]) (key := fun p => nk p.1.1 p.1.2) (val := fun p => V.int (p.2 : Int)) (bs := (List.range F.length).map fun k => (F.getD k (0, 0), k + 1))
        (fun b x H hS => by
          obtain ⟨p, xs, e, hp, rr⟩ := hS
          obtain ⟨y1, y2, rfl, s1, s2⟩ := all2 rr
          obtain ⟨a, e1, ha⟩ := s1
          subst e1
          have e2 : y2 = _ := s2
          subst e2
          exact ⟨p, a, e, hp, ha⟩)
        (er_lcRAn (j := 7) (vs := [7]) (te := tTup (tCons (tOp (rIxL K) (tVar 5) (tVar 7)) (tCons (tOp (rI0 fun i j => .int (i + j)) (tVar 7) (tC (.int 1))) tNil))) (ta := tCons (tCB (Evl.rLenS K) (tCons (tVar 5) tNil)) tNil) (R := fun p : (Nat × Nat) × Nat => TupOf [PairR p.1, IsI (p.2 : Int)]) (n := F.length) (ea1 (er_lenR (er_var (R := LstOf PairR F) rF rfl))) (by omega) (fun k => (F.getD k (0, 0), k + 1)) fun i hi H5 e5 =>
          er_tup (ea2 (er_ixR (F := PairR) (bs := F) (k := i) (er_var (R := LstOf PairR F) (rmono (LstOf PairR F) e5 rF) rfl) (er_n i rfl) (by rw [List.getD_eq_getElem?_getD, List.getElem?_eq_getElem hi]; rfl)) (er_add (er_n i rfl) er_c)) (show 2 ≤ 1000 by decide))
      rw [List.map_map] at mk
      refine st_seq (st_asg mk fun nv H5 e5 r5 => ?_)
      dsimp only
      have rD : DT (fun u f => (F.idxOf? (u, f)).map fun k => V.int ((k + 1 : Nat) : Int)) nv H5 := by
        obtain ⟨p, ep, hp⟩ := r5
        exact ⟨p, _, ep, hp, fun u f => numD_all nd u f⟩
      refine st_seq (show tPar 8 9 _ _ _ _ from ⟨Nat.zero_le _, fun l hn => ⟨_, _, rfl, ?_⟩⟩)
      have e6 : Ex H5 (upd H5 l (.lst [])) := Evl.Ex.new hn
      have hl : (upd H5 l (.lst [])) l = some (.lst []) := upd_same
      dsimp only
      generalize (upd H5 l (.lst [])) = H6 at e6 hl
      have exb : ∀ H', ExB [l] H6 H' → Ex H5 H' := fun H' bx => ExB.ex e6 bx fun l' m => by rw [List.mem_singleton.mp m]; exact hn
      have rt5 := rmono (IsN ts) ((e3.trans e4).trans e5) rt
      obtain ⟨pt, rfl, hpt⟩ := id rt5
      have rl5 := rmono (LdR (stepT E0)) ((e3.trans e4).trans e5) rl2
      refine st_seq (st_listA (p := pt) (xs := iv ts) (er_ref rfl) (e6 _ _ hpt) (fun i σ' H' => ∃ (o7 : Option V) (k : Nat) (o10 o11 o12 : Option V) (xs : List Int), σ' = [some v1, some (.int (n : Int)), some v3, some lv, some (.ref pt), some fv, some nv, o7, some (.int (k : Int)), some (.ref l), o10, o11, o12] ∧ ExB [l] H6 H' ∧ H' l = some (.lst (xs.map V.int)) ∧
          pathT (stepT E0) 0 (ts.take i) = some k ∧ tellT E0 F 0 ts = xs ++ tellT E0 F k (ts.drop i) ∧ xs.length ≤ i)
        (fun H7 e7 => ⟨_, 0, _, _, _, [], rfl, .of e7, e7 _ _ hl, rfl, rfl, Nat.le_refl _⟩) (fun i σ' H' hP => ?_) (fun i x σ' H' hi hP => ?_) fun σ' H' hP => ?_)
      · obtain ⟨_, _, _, _, _, _, _, bx, _⟩ := hP
        exact exb _ bx _ _ hpt
      · obtain ⟨o7, k, o10, o11, o12, xs, rfl, bx, hl', hk, ht, lx⟩ := hP
        obtain ⟨m, hm, rfl⟩ := iv_get hi
        have sp := spl hm
        have li : i < ts.length := (List.getElem?_eq_some_iff.mp hm).1
        obtain ⟨y, hy⟩ : ∃ y, stepT E0 k m = some y := by
          have z := ye
          rw [sp, pathT_append, hk] at z
          cases e : stepT E0 k m with
          | none =>
            change (stepT E0 k m).bind _ = _ at z
            rw [e] at z
            cases z
          | some y => exact ⟨y, rfl⟩
        have hk2 : pathT (stepT E0) 0 (ts.take (i + 1)) = some y := by
          rw [List.take_add_one, hm, pathT_append, hk]
          show (stepT E0 k m).bind _ = some y
          rw [hy]
          rfl
        have dr : ts.drop i = m :: ts.drop (i + 1) := by
          have e : ts[i] = m := (List.getElem?_eq_some_iff.mp hm).2
          rw [← e]
          exact List.drop_eq_getElem_cons li
        rw [dr, tellT, hy] at ht
        dsimp only at ht
        have rl' := rmono (LdR (stepT E0)) (exb _ bx) rl5
        refine st_seq (st_asg (er_getT (v := .int (y : Int)) (er_var (R := LdR (stepT E0)) rl' rfl) (er_key (m := k) (n := m) rfl rfl) (by rw [hy]; rfl)) fun ov H7 e7 ro => ?_)
        have eo : ov = .int (y : Int) := ro
        subst eo
        dsimp only
        refine st_seq (st_asg (er_get2D (f := fun u f => (F.idxOf? (u, f)).map fun k => V.int ((k + 1 : Nat) : Int)) (z := .int 0) (er_var (R := DT fun u f => (F.idxOf? (u, f)).map fun k => V.int ((k + 1 : Nat) : Int)) (rmono (DT fun u f => (F.idxOf? (u, f)).map fun k => V.int ((k + 1 : Nat) : Int)) ((exb _ bx).trans e7) rD) rfl) (er_call (k, m, y) (ea_cons (er_n k rfl) (ea2 (er_n m rfl) (er_n y rfl))) trivial) er_c) fun nv2 H8 e8 rn => ?_)
        dsimp only at rn
        dsimp only
        cases hx : F.idxOf? (passedT k m y) with
        | none =>
          have en : nv2 = .int ((0 : Nat) : Int) := by rw [show nv2 = _ from rn, hx]; rfl
          subst en
          rw [hx] at ht
          refine st_seq (st_if (et_pos (er_n 0 rfl)) (fun hb => nomatch hb) fun hb H9 e9 => ?_)
          dsimp only
          refine st_asg (er_n y rfl) fun kv H10 e10 r10 => ⟨o7, y, some (.int (m : Int)), some (.int (y : Int)), some (.int ((0 : Nat) : Int)), xs, ?_, ((bx.more (e7.trans e8)).more e9).more e10, (e10 _ _ (e9 _ _ (e8 _ _ (e7 _ _ hl')))), hk2, ht, by omega⟩
          rw [show kv = _ from r10]
          rfl
        | some j =>
          have en : nv2 = .int ((j + 1 : Nat) : Int) := by rw [show nv2 = _ from rn, hx]; rfl
          subst en
          rw [hx] at ht
          dsimp only at ht
          refine st_seq (st_if (et_pos (er_n (j + 1) rfl)) (fun hb H9 e9 => ?_) fun hb => ?_)
          · dsimp only
            refine st_append (R := IsI (if m % 2 = 0 then ((j + 1 : Nat) : Int) else -((j + 1 : Nat) : Int))) (e9 _ _ (e8 _ _ (e7 _ _ hl'))) (er_ref rfl) (er_if (et_even (er_n m rfl)) (fun hb => ?_) fun hb => ?_) (by rw [List.length_map]; omega) fun v H10 e10 r10 => ?_
            · rw [if_pos (of_decide_eq_true hb)]
              exact er_n (j + 1) rfl
            · rw [if_neg (of_decide_eq_false hb)]
              exact er_is (er_I0 (er_c (v := .int 0)) (er_n (j + 1) rfl)) (by rw [Int.zero_sub])
            · dsimp only
              refine st_asg (er_n y rfl) fun kv H11 e11 r11 => ⟨o7, y, some (.int (m : Int)), some (.int (y : Int)), some (.int ((j + 1 : Nat) : Int)), xs ++ [if m % 2 = 0 then ((j + 1 : Nat) : Int) else -((j + 1 : Nat) : Int)], ?_, (((bx.more (e7.trans e8)).more (e9.trans e10)).trans (.upd (by simp))).more e11, ?_, hk2, ?_, by rw [List.length_append]; simp; omega⟩
              · rw [show kv = _ from r11]
                rfl
              · rw [e11 _ _ upd_same, List.map_append, show v = _ from r10]
                rfl
              · rw [ht, List.append_assoc]
          · rw [decide_eq_true (by omega : 0 < j + 1)] at hb
            cases hb
      · obtain ⟨o7, k, o10, o11, o12, xs, rfl, bx, hl', hk, ht, lx⟩ := hP
        rw [show ts.drop (iv ts).length = [] by rw [iv_len]; exact List.drop_length, tellT, List.append_nil] at ht
        refine st_ret (er_ref rfl) fun v H7 e7 r7 => q v H7 ((((((e1.trans e2).trans e3).trans e4).trans e5).trans (exb _ bx)).trans e7) ?_
        rw [ht]
        exact ⟨l, r7, e7 _ _ hl'⟩
end
end Fc
set_option maxRecDepth 100000
set_option maxHeartbeats 2000000
namespace Fc
open PySem PySem.Spec PyProof.Rows L2
def hf (n : Nat) (a b : Addr) : List (Str × V) := [(("fingers" : Str), V.int (n : Int)), (("moves" : Str), V.ref a), (("exchange" : Str), V.ref b)]
theorem hf_new (n : Nat) (a b : Addr) : putF "exchange" (V.ref b) (putF "moves" (V.ref a) (putF "fingers" (V.int (n : Int)) [])) = hf n a b := by rfl
theorem hf_n (m n : Nat) (a b : Addr) : putF "fingers" (V.int (n : Int)) (hf m a b) = hf n a b := by rfl
theorem hf_m (n : Nat) (a a' b : Addr) : putF "moves" (V.ref a') (hf n a b) = hf n a' b := by rfl
theorem hf_e (n : Nat) (a b b' : Addr) : putF "exchange" (V.ref b') (hf n a b) = hf n a b' := by rfl
theorem hf_gn (n : Nat) (a b : Addr) : (hf n a b).lookup ("fingers" : Str) = some (.int (n : Int)) := by rfl
theorem hf_gm (n : Nat) (a b : Addr) : (hf n a b).lookup ("moves" : Str) = some (.ref a) := by rfl
theorem hf_ge (n : Nat) (a b : Addr) : (hf n a b).lookup ("exchange" : Str) = some (.ref b) := by rfl
theorem hf_b (n : Nat) (a b : Addr) : (hf n a b).lookup ("begin" : Str) = none := by rfl
/-- the hand at p: the state S -/
def HandAt (C : Addr) (H : Hp) (p : Addr) (S : Vbcjai.State) : Prop := ∃ dx a b, H p = some (.ins C dx (hf S.n a b)) ∧ Cords S.moves (.ref a) H ∧ Cords S.swap (.ref b) H
theorem HandAt.mono {C : Addr} {H H' : Hp} {p : Addr} {S : Vbcjai.State} (h : HandAt C H p S) (e : Ex H H') : HandAt C H' p S :=
  let ⟨dx, a, b, h1, h2, h3⟩ := h; ⟨dx, a, b, e _ _ h1, rmono (Cords S.moves) e h2, rmono (Cords S.swap) e h3⟩
/-- what holds of each state -/
structure SOk (S : Vbcjai.State) : Prop where
  n1 : 1 ≤ S.n
  n6 : S.n ≤ 6
  ml : S.moves.length ≤ 6
  mt : total S.moves ≤ 100
  mi : ∀ w ∈ S.moves, ∀ x ∈ w, x < 2 * S.n
  sl : S.swap.length = S.n
  st : total S.swap ≤ 100
  si : ∀ w ∈ S.swap, ∀ x ∈ w, x < 2 * S.n
theorem ofCord_is (S : Vbcjai.State) (t : List Nat) (f : Vbcjai.Cord → Vbcjai.State × Vbcjai.Ans) : Vbcjai.ofCord S t f = match readNo S.n [] t with
    | some m => (S, [m])
    | none => f (t.map (turnAt S.n)) := by
  unfold Vbcjai.ofCord readNo
  by_cases h : 2000 < t.length
  · rw [if_pos (show Vbcjai.CORD < t.length from h), if_pos h]
  · rw [if_neg (show ¬ Vbcjai.CORD < t.length from h), if_neg h, readCord_is]
    cases faultAt S.n [] t with
    | none => rfl
    | some k => rfl
abbrev RowR (r : List Int) : Rel := IsL (r.map V.int)
theorem row_nat (t : List Nat) : RowR (t.map fun n : Nat => (n : Int)) = IsN t := by
  show IsL _ = IsL _
  rw [List.map_map]
  rfl
theorem ints_iv (w : List Nat) : (Vbcjai.ints w).map V.int = iv w := by
  unfold Vbcjai.ints iv
  rw [List.map_map]
  rfl
theorem cord_lt {n : Nat} {t : List Nat} (h : readNo n [] t = none) : t.length ≤ 2000 ∧ ∀ x ∈ t.map (turnAt n), x < 2 * n := by
  unfold readNo at h
  by_cases c : 2000 < t.length
  · rw [if_pos c] at h; cases h
  · rw [if_neg c] at h
    refine ⟨by omega, fun x hx => ?_⟩
    obtain ⟨b, hb, rfl⟩ := List.mem_map.mp hx
    cases e : faultAt n [] t with
    | none => exact turnAt_lt e hb rfl
    | some k => rw [e] at h; cases h
section
variable {K : PySem.W.Frag} {σ : L2.St} {H H' : Hp} {ta tb te tc tl ty tv t1 t2 t3 tp : TE} {tr : TA} {t u : TT} {x y z v : V} {R Ra Rb : Rel} {D : Ends} {tu tw : TS} {w : List Nat}
theorem cords_exB {ws : List (List Nat)} {p C dx : Addr} {fs : List (Str × V)} (hp : H p = some (.ins C dx fs)) (e : ExB [p] H H') (r : Cords ws v H) : Cords ws v H' := by
  obtain ⟨q, xs, ev, hq, pr⟩ := r
  have st : ∀ a ys, H a = some (.lst ys) → H' a = some (.lst ys) := fun a ys h => e _ _ (by simp; exact ne_of h hp (fun z => nomatch z)) h
  exact ⟨q, xs, ev, st _ _ hq, paired_stay pr fun b x ⟨q', e', h'⟩ => ⟨q', e', st _ _ h'⟩⟩
theorem st_fld {p C dx : Addr} {fs : List (Str × V)} {f : Str} (hv : ER tv σ H (IsV y)) (ha : ER ta σ H (IsV (.ref p))) (hp : H p = some (.ins C dx fs)) (cl : Cls K C) (na : NoAttr K C f) (hl : fs.length < 1000) (k : ∀ H1, Ex H H1 → D.nx σ (upd H1 p (.ins C dx (putF f y fs)))) :
    sFld K ta tv f D σ H := hv H Ex.rfl _ fun v H1 e1 rv => ha H1 e1 _ fun a H2 e2 ra => by
  have ev : v = y := rv
  have ea : a = .ref p := ra
  subst ev
  subst ea
  exact ⟨p, C, dx, fs, rfl, e2 _ _ (e1 _ _ hp), cl, na, hl, k H2 (e1.trans e2)⟩
theorem st_fldR {p C dx : Addr} {fs : List (Str × V)} {f : Str} (hv : ER tv σ H R) [m : Mono R] (ha : ER ta σ H (IsV (.ref p))) (hp : H p = some (.ins C dx fs)) (cl : Cls K C) (na : NoAttr K C f) (hl : fs.length < 1000) (k : ∀ y H1, Ex H H1 → R y H1 → D.nx σ (upd H1 p (.ins C dx (putF f y fs)))) :
    sFld K ta tv f D σ H := hv H Ex.rfl _ fun v H1 e1 rv => ha H1 e1 _ fun a H2 e2 ra => by
  have ea : a = .ref p := ra
  subst ea
  exact ⟨p, C, dx, fs, rfl, e2 _ _ (e1 _ _ hp), cl, na, hl, k v H2 (e1.trans e2) (m.mono e2 rv)⟩
/-- a part that never comes to an end -/
theorem er_abs1 {sp : Sp} {E : XK} (h : ER te σ H (fun _ _ => False)) : ER (tCall sp [] E (tCons te tr)) σ H R := fun H1 e Q q => h H1 e _ fun _ _ _ r => r.elim
theorem er_abs2 {sp : Sp} {E : XK} {Ra : Rel} (h1 : ER ta σ H Ra) (h : ER te σ H (fun _ _ => False)) : ER (tCall sp [] E (tCons ta (tCons te tr))) σ H R := fun H1 e Q q => h1 H1 e _ fun _ H2 e2 _ => h H2 (e.trans e2) _ fun _ _ _ r => r.elim
theorem er_absB {r : List V → Hp → VK → Prop} (h : ER te σ H (fun _ _ => False)) : ER (tCB r (tCons te tr)) σ H R := fun H1 e Q q => h H1 e _ fun _ _ _ r => r.elim
theorem er_absL (h : ER te σ H (fun _ _ => False)) : ER (tLst (tCons te tr)) σ H R := fun H1 e Q q => h H1 e _ fun _ _ _ r => r.elim
theorem st_pair {i j : Nat} (h : ER te σ H (TupOf [Ra, Rb])) (k : ∀ y z H1, Ex H H1 → Ra y H1 → Rb z H1 → D.nx ((σ.set i (some y)).set j (some z)) H1) : tAsg te (gTup K 2 (gCons (gName i) (gCons (gName j) gNil))) D σ H := h H Ex.rfl _ fun v H1 e1 ⟨p, xs, e, hp, rr⟩ => by
  obtain ⟨y1, y2, rfl, s1, s2⟩ := all2 rr
  exact ⟨p, _, e, .of hp, rfl, _, _, rfl, _, _, rfl, rfl, k _ _ _ e1 s1 s2⟩
theorem er_fing {C p : Addr} {S : Vbcjai.State} (hA : HandAt C H p S) (h : ER ta σ H (IsV (.ref p))) (cl : Cls K C) (na : NoAttr K C "fingers") : ER (tFld K ta "fingers") σ H (IsI (S.n : Int)) := by
  obtain ⟨dx, a, b, hp, _⟩ := hA
  exact er_fld h hp cl na (hf_gn _ _ _)
theorem er_moves {C p : Addr} {S : Vbcjai.State} (hA : HandAt C H p S) (h : ER ta σ H (IsV (.ref p))) (cl : Cls K C) (na : NoAttr K C "moves") : ER (tFld K ta "moves") σ H (Cords S.moves) := by
  obtain ⟨dx, a, b, hp, hm, _⟩ := hA
  exact (er_fld h hp cl na (hf_gm _ _ _)).imp fun v H1 e r => by rw [show v = _ from r]; exact rmono (Cords S.moves) e hm
theorem er_exch {C p : Addr} {S : Vbcjai.State} (hA : HandAt C H p S) (h : ER ta σ H (IsV (.ref p))) (cl : Cls K C) (na : NoAttr K C "exchange") : ER (tFld K ta "exchange") σ H (Cords S.swap) := by
  obtain ⟨dx, a, b, hp, _, hm⟩ := hA
  exact (er_fld h hp cl na (hf_ge _ _ _)).imp fun v H1 e r => by rw [show v = _ from r]; exact rmono (Cords S.swap) e hm
end
abbrev HandR (C p : Addr) (S : Vbcjai.State) : Rel := fun v H => v = .ref p ∧ HandAt C H p S
instance (C p : Addr) (S : Vbcjai.State) : Mono (HandR C p S) := ⟨fun e ⟨a, b⟩ => ⟨a, b.mono e⟩⟩
/-- __init__, begin -/
def spHI (C : Addr) : Sp := fun vs H Q _ => ∃ (p dx : Addr), vs = [.ref p] ∧ H p = some (.ins C dx []) ∧ ∀ H', (∀ x o, H x = some o → x ≠ p → H' x = some o) → HandAt C H' p Vbcjai.start → Q .non H'
def spHB (C : Addr) : Sp := fun vs H Q _ => ∃ (p : Addr) (S : Vbcjai.State) (n : Nat), vs = [.ref p, .int (n : Int)] ∧ HandAt C H p S ∧ n ≤ 1000 ∧ ∀ H', ExB [p] H H' → HandAt C H' p ⟨n, [], Vbcjai.own n⟩ → Q .non H'
section
variable {P : Program} {w : World} {K : PySem.W.Frag} {mg : Str → Option Value} {base : Heap} {c : Cl3}
abbrev s_hand_init : Stmt := (inClass (top 109) 0)
abbrev N_hand_init : List Str := ["self"]
theorem sc_hand_init : FnScope ["self"] ["self"] (defScope s_hand_init) := ⟨rfl, rfl, rfl, by decide +kernel, rfl, by decide +kernel, by decide +kernel⟩
theorem b_hand_init : BindsP "__init__" "Hand.__init__" s_hand_init ["self"] := fun _ _ _ _ _ _ us hl => match us, hl with | [_], _ => rfl
theorem ok_hand_init (T : Txt K mg c) : OkM P w K mg base CX0 3 c.H "__init__" ["self"] (spHI c.H) := by
  refine T.hand_init.ok sc_hand_init b_hand_init (fun vs H Q E h => ?_) (fun f cdv A outer s H vs Q E hr h => ⟨_, (pss_cons (ps_fld (pv 0) (pconst T.AT_FIRST rfl) rfl)
      (pss_cons (ps_fld (pv 0) (pe_lst pa_nil) rfl)
      (pss_one (ps_fld (pv 0) (pcall (ok_own_letters T) (hr.mono (by decide)) rfl pass0 (pa_cons (pconst T.AT_FIRST rfl) pa_nil)) rfl)))), ?_⟩)
  · obtain ⟨p, dx, rfl, _⟩ := h; rfl
  · obtain ⟨p, dx, rfl, hp, k⟩ := h
    refine st_seq (st_fld (er_c (v := .int 3)) (er_ref rfl) hp T.Hand.cl T.hF (show 0 < 1000 by decide) fun H1 e1 => ?_)
    have f1 : ∀ x o, H x = some o → x ≠ p → (upd H1 p (.ins c.H dx (putF "fingers" (.int 3) []))) x = some o := fun x o h hx => by rw [upd_ne hx]; exact e1 _ _ h
    have g1 : (upd H1 p (.ins c.H dx (putF "fingers" (.int 3) []))) p = some (.ins c.H dx (putF "fingers" (.int 3) [])) := upd_same
    dsimp only
    generalize (upd H1 p (.ins c.H dx (putF "fingers" (.int 3) []))) = H2 at f1 g1
    refine st_seq (st_fldR (R := IsL []) (er_lst (xs := []) ea_nil (show 0 ≤ 1000 by decide)) (er_ref rfl) g1 T.Hand.cl T.hM (show 1 < 1000 by decide) fun y H3 e3 ⟨a, ey, ha⟩ => ?_)
    subst ey
    have pa : a ≠ p := ne_of ha (e3 _ _ g1) (fun z => nomatch z)
    have f2 : ∀ x o, H2 x = some o → x ≠ p → (upd H3 p (.ins c.H dx (putF "moves" (.ref a) (putF "fingers" (.int 3) [])))) x = some o := fun x o h hx => by rw [upd_ne hx]; exact e3 _ _ h
    have g2 : (upd H3 p (.ins c.H dx (putF "moves" (.ref a) (putF "fingers" (.int 3) [])))) p = some (.ins c.H dx (putF "moves" (.ref a) (putF "fingers" (.int 3) []))) := upd_same
    have g3 : (upd H3 p (.ins c.H dx (putF "moves" (.ref a) (putF "fingers" (.int 3) [])))) a = some (.lst []) := by rw [upd_ne pa]; exact ha
    dsimp only
    generalize (upd H3 p (.ins c.H dx (putF "moves" (.ref a) (putF "fingers" (.int 3) [])))) = H4 at f2 g2 g3
    refine st_fldR (R := Cords (Vbcjai.own 3)) (er_call 3 (ea1 er_c) (by decide)) (er_ref rfl) g2 T.Hand.cl T.hE (show 2 < 1000 by decide) fun y H5 e5 ry => ?_
    obtain ⟨b, xs, rfl, hb, pr⟩ := ry
    have pb : b ≠ p := ne_of hb (e5 _ _ g2) (fun z => nomatch z)
    have f3 : ∀ x o, H5 x = some o → x ≠ p → (upd H5 p (.ins c.H dx (hf 3 a b))) x = some o := fun x o h hx => by rw [upd_ne hx]; exact h
    refine k _ (fun x o h hx => f3 _ _ (e5 _ _ (f2 _ _ (f1 _ _ h hx) hx)) hx) ⟨dx, a, b, upd_same, ⟨a, [], rfl, f3 _ _ (e5 _ _ g3) pa, .nil⟩, ⟨b, xs, rfl, f3 _ _ hb pb, ?_⟩⟩
    exact paired_stay pr fun w x ⟨q, e, h⟩ => ⟨q, e, f3 _ _ h (ne_of h (e5 _ _ g2) (fun z => nomatch z))⟩
abbrev s_hand_begin : Stmt := (inClass (top 109) 1)
abbrev N_hand_begin : List Str := ["self", "fingers"]
theorem sc_hand_begin : FnScope ["self", "fingers"] ["self", "fingers"] (defScope s_hand_begin) := ⟨rfl, rfl, rfl, by decide +kernel, rfl, by decide +kernel, by decide +kernel⟩
theorem b_hand_begin : BindsP "begin" "Hand.begin" s_hand_begin ["self", "fingers"] := fun _ _ _ _ _ _ us hl => match us, hl with | [_, _], _ => rfl
theorem ok_hand_begin (T : Txt K mg c) : OkM P w K mg base CX0 3 c.H "begin" ["self", "fingers"] (spHB c.H) := by
  refine T.hand_begin.ok sc_hand_begin b_hand_begin (fun vs H Q E h => ?_) (fun f cdv A outer s H vs Q E hr h => ⟨_, (pss_cons (ps_fld (pv 0) (pv 1) rfl)
      (pss_cons (ps_fld (pv 0) (pe_lst pa_nil) rfl)
      (pss_one (ps_fld (pv 0) (pcall (ok_own_letters T) (hr.mono (by decide)) rfl pass0 (pa_cons (pv 1) pa_nil)) rfl)))), ?_⟩)
  · obtain ⟨p, S, n, rfl, _⟩ := h; rfl
  · obtain ⟨p, S, n, rfl, ⟨dx, a0, b0, hp, _⟩, hn, k⟩ := h
    refine st_seq (st_fld (er_n n rfl) (er_ref rfl) hp T.Hand.cl T.hF (show 3 < 1000 by decide) fun H1 e1 => ?_)
    have f1 : ∀ x o, H x = some o → x ≠ p → (upd H1 p (.ins c.H dx (hf n a0 b0))) x = some o := fun x o h hx => by rw [upd_ne hx]; exact e1 _ _ h
    have g1 : (upd H1 p (.ins c.H dx (hf n a0 b0))) p = some (.ins c.H dx (hf n a0 b0)) := upd_same
    rw [hf_n]
    dsimp only
    generalize (upd H1 p (.ins c.H dx (hf n a0 b0))) = H2 at f1 g1
    refine st_seq (st_fldR (R := IsL []) (er_lst (xs := []) ea_nil (show 0 ≤ 1000 by decide)) (er_ref rfl) g1 T.Hand.cl T.hM (show 3 < 1000 by decide) fun y H3 e3 ⟨a, ey, ha⟩ => ?_)
    subst ey
    have pa : a ≠ p := ne_of ha (e3 _ _ g1) (fun z => nomatch z)
    have f2 : ∀ x o, H2 x = some o → x ≠ p → (upd H3 p (.ins c.H dx (hf n a b0))) x = some o := fun x o h hx => by rw [upd_ne hx]; exact e3 _ _ h
    have g2 : (upd H3 p (.ins c.H dx (hf n a b0))) p = some (.ins c.H dx (hf n a b0)) := upd_same
    have g3 : (upd H3 p (.ins c.H dx (hf n a b0))) a = some (.lst []) := by rw [upd_ne pa]; exact ha
    rw [hf_m]
    dsimp only
    generalize (upd H3 p (.ins c.H dx (hf n a b0))) = H4 at f2 g2 g3
    refine st_fldR (R := Cords (Vbcjai.own n)) (er_call n (ea1 (er_n n rfl)) hn) (er_ref rfl) g2 T.Hand.cl T.hE (show 3 < 1000 by decide) fun y H5 e5 ry => ?_
    obtain ⟨b, xs, rfl, hb, pr⟩ := ry
    have pb : b ≠ p := ne_of hb (e5 _ _ g2) (fun z => nomatch z)
    rw [hf_e]
    have f3 : ∀ x o, H5 x = some o → x ≠ p → (upd H5 p (.ins c.H dx (hf n a b))) x = some o := fun x o h hx => by rw [upd_ne hx]; exact h
    refine k _ (fun x o hx h => ?_) ⟨dx, a, b, upd_same, ⟨a, [], rfl, f3 _ _ (e5 _ _ g3) pa, .nil⟩, ⟨b, xs, rfl, f3 _ _ hb pb, ?_⟩⟩
    · have hx : x ≠ p := by simpa using hx
      exact f3 _ _ (e5 _ _ (f2 _ _ (f1 _ _ h hx) hx)) hx
    · exact paired_stay pr fun w x ⟨q, e, h⟩ => ⟨q, e, f3 _ _ h (ne_of h (e5 _ _ g2) (fun z => nomatch z))⟩
/-- one cord's refusals, then the other one's -/
def readNo2 (n : Nat) (t u : List Nat) : Option Int := match readNo n [] t with
  | some m => some m
  | none => readNo n [] u
abbrev s_two_read : Stmt := (top 87)
abbrev N_two_read : List Str := ["hand", "rows", "one", "other"]
theorem sc_two_read : FnScope ["hand", "rows", "one", "other"] ["hand", "rows"] (defScope s_two_read) := ⟨rfl, rfl, rfl, by decide +kernel, rfl, by decide +kernel, by decide +kernel⟩
theorem b_two_read : BindsP "two_read" "two_read" s_two_read ["hand", "rows"] := fun _ _ _ _ _ _ us hl => match us, hl with | [_, _], _ => rfl
theorem ok_two_read (T : Txt K mg c) : Ok P w K mg base (L2.CX P w) 5 "two_read" ["hand", "rows"] (spX c.R (fun p : Addr × Vbcjai.State × List Nat × List Nat => [HandR c.H p.1 p.2.1, Cords [p.2.2.1, p.2.2.2]]) (fun p => p.2.2.1.length ≤ 1000000 ∧ p.2.2.2.length ≤ 1000000) (fun p => readNo2 p.2.1.n p.2.2.1 p.2.2.2) (fun p => TupOf [IsN (p.2.2.1.map (turnAt p.2.1.n)), IsN (p.2.2.2.map (turnAt p.2.1.n))])) := by
  refine T.two_read.okX sc_two_read b_two_read (fun vs H Q E h => ?_) (fun f cdv A outer s H vs Q E hr h => ⟨_, (pss_cons (ps_set (i := 2) sc_two_read.nd rfl (.inl rfl) (pcall (ok_cord_read T) (hr.mono (by decide)) rfl (passes_call (takes_of rfl rfl rfl rfl) (fun _ _ _ _ z => z)) (pa_cons (pe_ix (r := rIxL K) ix_list (pv 1) pe_int (fun _ _ => rfl)) (pa_cons (pe_fld (pv 0) rfl) pa_nil))))
      (pss_cons (ps_set (i := 3) sc_two_read.nd rfl (.inl rfl) (pcall (ok_cord_read T) (hr.mono (by decide)) rfl (passes_call (takes_of rfl rfl rfl rfl) (fun _ _ _ _ z => z)) (pa_cons (pe_ix (r := rIxL K) ix_list (pv 1) pe_int (fun _ _ => rfl)) (pa_cons (pe_fld (pv 0) rfl) pa_nil))))
      (pss_one (ps_ret (pe_tup (pa_cons (pv 2) (pa_cons (pv 3) pa_nil))))))), ?_⟩)
  · obtain ⟨n, _, r, _⟩ := h; exact all_len r
  · obtain ⟨⟨p, S, ts, us⟩, ⟨h1, h2⟩, ra, q, x⟩ := h
    dsimp only at ra q x h1 h2
    obtain ⟨v1, v2, rfl, ⟨rfl, hA⟩, r2⟩ := all2 ra
    unfold readNo2 at q x
    refine st_seq (st_asg (er_callX (ts, S.n) (ea2 (er_ixR (F := fun w : List Nat => IsN w) (k := 0) (er_var (R := Cords [ts, us]) r2 rfl) er_c rfl) (er_fing hA (er_ref rfl) T.Hand.cl T.hF)) h1 fun m hm => x m (by dsimp only at hm; rw [hm])) fun ov H1 e1 ⟨n1, ro⟩ => ?_)
    have n1 : readNo S.n [] ts = none := n1
    rw [n1] at q x
    dsimp only at q x ro
    dsimp only
    have hA1 := hA.mono e1
    have r21 := rmono (Cords [ts, us]) e1 r2
    refine st_seq (st_asg (er_callX (us, S.n) (ea2 (er_ixR (F := fun w : List Nat => IsN w) (k := 1) (er_var (R := Cords [ts, us]) r21 rfl) er_c rfl) (er_fing hA1 (er_ref rfl) T.Hand.cl T.hF)) h2 fun m hm => (x m hm).mono e1) fun uv H2 e2 ⟨n2, ru⟩ => ?_)
    dsimp only at ru n2
    dsimp only
    exact st_ret (er_tup (Rs := [IsN (ts.map (turnAt S.n)), IsN (us.map (turnAt S.n))]) (ea2 (er_vN (rmono (IsN (ts.map (turnAt S.n))) e2 ro) rfl) (er_vN ru rfl)) (show 2 ≤ 1000 by decide)) fun v H3 e3 r3 => q n2 v H3 ((e1.trans e2).trans e3) r3
end
end Fc
set_option maxRecDepth 100000
set_option maxHeartbeats 2000000
namespace Fc
open PySem PySem.Spec PyProof.Rows L2
/-! ### what's asked of one call -/
abbrev natRow (w : List Nat) : List Int := w.map fun n : Nat => (n : Int)
theorem nats_of (w : List Nat) : VbcjaiNeutral.nats (natRow w) = w := by
  unfold VbcjaiNeutral.nats natRow
  rw [List.map_map]
  have e : (Int.toNat ∘ fun n : Nat => (n : Int)) = id := by funext n; rfl
  rw [e, List.map_id]
theorem nat_row {t : List Int} (h : (t.all (fun (z : Int) => VbcjaiNeutral.natural z 8) && decide (t.length ≤ 2100)) = true) : ∃ w : List Nat, t = natRow w ∧ w.length ≤ 2100 := by
  rw [Bool.and_eq_true, decide_eq_true_iff] at h
  refine ⟨t.map Int.toNat, ?_, by rw [List.length_map]; exact h.2⟩
  have k : ∀ l : List Int, (l.all (fun (z : Int) => VbcjaiNeutral.natural z 8)) = true → l = natRow (l.map Int.toNat) := by
    intro l
    induction l with
    | nil => intro _; rfl
    | cons z l ih =>
      intro hl
      rw [List.all_cons, Bool.and_eq_true] at hl
      unfold natRow at ih ⊢
      rw [List.map_cons, List.map_cons, ← ih hl.2]
      have z0 := hl.1
      unfold VbcjaiNeutral.natural at z0
      rw [Bool.and_eq_true, decide_eq_true_iff] at z0
      congr 1
      omega
  exact k t h.1
theorem no_ask {c : List (List Int)} {P : Prop} (h : VbcjaiNeutral.asked1 c = true) (e : VbcjaiNeutral.asked1 c = false) : P := by rw [e] at h; cases h
section
variable {xs : List Int} {rs : List (List Int)}
theorem ask0 (h : VbcjaiNeutral.asked1 ((0 :: xs) :: rs) = true) : ∃ m, xs = [m] ∧ rs = [] := by
  match xs, rs, h with
  | [], [], h =>
    exact no_ask h rfl
  | [], [t], h =>
    exact no_ask h rfl
  | [], [t, u], h =>
    exact no_ask h rfl
  | [], t :: u :: v :: rs, h =>
    exact no_ask h rfl
  | [x], [], h =>
    exact ⟨x, rfl, rfl⟩
  | [x], [t], h =>
    exact no_ask h rfl
  | [x], [t, u], h =>
    exact no_ask h rfl
  | [x], t :: u :: v :: rs, h =>
    exact no_ask h rfl
  | x :: y :: xs, [], h =>
    exact no_ask h rfl
  | x :: y :: xs, [t], h =>
    exact no_ask h rfl
  | x :: y :: xs, [t, u], h =>
    exact no_ask h rfl
  | x :: y :: xs, t :: u :: v :: rs, h =>
    exact no_ask h rfl
theorem ask1 (h : VbcjaiNeutral.asked1 ((1 :: xs) :: rs) = true) : xs = [] ∧ ∃ t : List Nat, rs = [natRow t] ∧ t.length ≤ 2100 := by
  match xs, rs, h with
  | [], [], h =>
    exact no_ask h rfl
  | [], [t], h =>
    obtain ⟨w, rfl, hw⟩ := nat_row h
    exact ⟨rfl, w, rfl, hw⟩
  | [], [t, u], h =>
    exact no_ask h rfl
  | [], t :: u :: v :: rs, h =>
    exact no_ask h rfl
  | [x], [], h =>
    exact no_ask h rfl
  | [x], [t], h =>
    exact no_ask h rfl
  | [x], [t, u], h =>
    exact no_ask h rfl
  | [x], t :: u :: v :: rs, h =>
    exact no_ask h rfl
  | x :: y :: xs, [], h =>
    exact no_ask h rfl
  | x :: y :: xs, [t], h =>
    exact no_ask h rfl
  | x :: y :: xs, [t, u], h =>
    exact no_ask h rfl
  | x :: y :: xs, t :: u :: v :: rs, h =>
    exact no_ask h rfl
theorem ask2 (h : VbcjaiNeutral.asked1 ((2 :: xs) :: rs) = true) : ∃ m, xs = [m] ∧ ∃ t : List Nat, rs = [natRow t] ∧ t.length ≤ 2100 := by
  match xs, rs, h with
  | [], [], h =>
    exact no_ask h rfl
  | [], [t], h =>
    exact no_ask h rfl
  | [], [t, u], h =>
    exact no_ask h rfl
  | [], t :: u :: v :: rs, h =>
    exact no_ask h rfl
  | [x], [], h =>
    exact no_ask h rfl
  | [x], [t], h =>
    have h' := (Bool.and_eq_true_iff.mp h).2
    obtain ⟨w, rfl, hw⟩ := nat_row h'
    exact ⟨x, rfl, w, rfl, hw⟩
  | [x], [t, u], h =>
    exact no_ask h rfl
  | [x], t :: u :: v :: rs, h =>
    exact no_ask h rfl
  | x :: y :: xs, [], h =>
    exact no_ask h rfl
  | x :: y :: xs, [t], h =>
    exact no_ask h rfl
  | x :: y :: xs, [t, u], h =>
    exact no_ask h rfl
  | x :: y :: xs, t :: u :: v :: rs, h =>
    exact no_ask h rfl
theorem ask3 (h : VbcjaiNeutral.asked1 ((3 :: xs) :: rs) = true) : xs = [] ∧ ∃ t : List Nat, rs = [natRow t] ∧ t.length ≤ 2100 := by
  match xs, rs, h with
  | [], [], h =>
    exact no_ask h rfl
  | [], [t], h =>
    obtain ⟨w, rfl, hw⟩ := nat_row h
    exact ⟨rfl, w, rfl, hw⟩
  | [], [t, u], h =>
    exact no_ask h rfl
  | [], t :: u :: v :: rs, h =>
    exact no_ask h rfl
  | [x], [], h =>
    exact no_ask h rfl
  | [x], [t], h =>
    exact no_ask h rfl
  | [x], [t, u], h =>
    exact no_ask h rfl
  | [x], t :: u :: v :: rs, h =>
    exact no_ask h rfl
  | x :: y :: xs, [], h =>
    exact no_ask h rfl
  | x :: y :: xs, [t], h =>
    exact no_ask h rfl
  | x :: y :: xs, [t, u], h =>
    exact no_ask h rfl
  | x :: y :: xs, t :: u :: v :: rs, h =>
    exact no_ask h rfl
theorem ask4 (h : VbcjaiNeutral.asked1 ((4 :: xs) :: rs) = true) : xs = [] ∧ ∃ l : List Int, rs = [l] ∧ l.length ≤ 40 := by
  match xs, rs, h with
  | [], [], h =>
    exact no_ask h rfl
  | [], [t], h =>
    have h' := (Bool.and_eq_true_iff.mp h).2
    exact ⟨rfl, t, rfl, of_decide_eq_true h'⟩
  | [], [t, u], h =>
    exact no_ask h rfl
  | [], t :: u :: v :: rs, h =>
    exact no_ask h rfl
  | [x], [], h =>
    exact no_ask h rfl
  | [x], [t], h =>
    exact no_ask h rfl
  | [x], [t, u], h =>
    exact no_ask h rfl
  | [x], t :: u :: v :: rs, h =>
    exact no_ask h rfl
  | x :: y :: xs, [], h =>
    exact no_ask h rfl
  | x :: y :: xs, [t], h =>
    exact no_ask h rfl
  | x :: y :: xs, [t, u], h =>
    exact no_ask h rfl
  | x :: y :: xs, t :: u :: v :: rs, h =>
    exact no_ask h rfl
theorem ask5 (h : VbcjaiNeutral.asked1 ((5 :: xs) :: rs) = true) : xs = [] ∧ ∃ (l : List Int) (t : List Nat), rs = [l, natRow t] ∧ l.length ≤ 40 ∧ t.length ≤ 2100 := by
  match xs, rs, h with
  | [], [], h =>
    exact no_ask h rfl
  | [], [t], h =>
    exact no_ask h rfl
  | [], [t, u], h =>
    have h' := Bool.and_eq_true_iff.mp h
    obtain ⟨w, rfl, hw⟩ := nat_row h'.2
    exact ⟨rfl, t, w, rfl, of_decide_eq_true (Bool.and_eq_true_iff.mp h'.1).2, hw⟩
  | [], t :: u :: v :: rs, h =>
    exact no_ask h rfl
  | [x], [], h =>
    exact no_ask h rfl
  | [x], [t], h =>
    exact no_ask h rfl
  | [x], [t, u], h =>
    exact no_ask h rfl
  | [x], t :: u :: v :: rs, h =>
    exact no_ask h rfl
  | x :: y :: xs, [], h =>
    exact no_ask h rfl
  | x :: y :: xs, [t], h =>
    exact no_ask h rfl
  | x :: y :: xs, [t, u], h =>
    exact no_ask h rfl
  | x :: y :: xs, t :: u :: v :: rs, h =>
    exact no_ask h rfl
theorem ask6 (h : VbcjaiNeutral.asked1 ((6 :: xs) :: rs) = true) : xs = [] ∧ ∃ t : List Nat, rs = [natRow t] ∧ t.length ≤ 2100 := by
  match xs, rs, h with
  | [], [], h =>
    exact no_ask h rfl
  | [], [t], h =>
    obtain ⟨w, rfl, hw⟩ := nat_row h
    exact ⟨rfl, w, rfl, hw⟩
  | [], [t, u], h =>
    exact no_ask h rfl
  | [], t :: u :: v :: rs, h =>
    exact no_ask h rfl
  | [x], [], h =>
    exact no_ask h rfl
  | [x], [t], h =>
    exact no_ask h rfl
  | [x], [t, u], h =>
    exact no_ask h rfl
  | [x], t :: u :: v :: rs, h =>
    exact no_ask h rfl
  | x :: y :: xs, [], h =>
    exact no_ask h rfl
  | x :: y :: xs, [t], h =>
    exact no_ask h rfl
  | x :: y :: xs, [t, u], h =>
    exact no_ask h rfl
  | x :: y :: xs, t :: u :: v :: rs, h =>
    exact no_ask h rfl
theorem ask7 (h : VbcjaiNeutral.asked1 ((7 :: xs) :: rs) = true) : xs = [] ∧ ∃ t u : List Nat, rs = [natRow t, natRow u] ∧ t.length ≤ 2100 ∧ u.length ≤ 2100 := by
  match xs, rs, h with
  | [], [], h =>
    exact no_ask h rfl
  | [], [t], h =>
    exact no_ask h rfl
  | [], [t, u], h =>
    have h' := Bool.and_eq_true_iff.mp h
    obtain ⟨w, rfl, hw⟩ := nat_row h'.1
    obtain ⟨w2, rfl, hw2⟩ := nat_row h'.2
    exact ⟨rfl, w, w2, rfl, hw, hw2⟩
  | [], t :: u :: v :: rs, h =>
    exact no_ask h rfl
  | [x], [], h =>
    exact no_ask h rfl
  | [x], [t], h =>
    exact no_ask h rfl
  | [x], [t, u], h =>
    exact no_ask h rfl
  | [x], t :: u :: v :: rs, h =>
    exact no_ask h rfl
  | x :: y :: xs, [], h =>
    exact no_ask h rfl
  | x :: y :: xs, [t], h =>
    exact no_ask h rfl
  | x :: y :: xs, [t, u], h =>
    exact no_ask h rfl
  | x :: y :: xs, t :: u :: v :: rs, h =>
    exact no_ask h rfl
theorem ask8 (h : VbcjaiNeutral.asked1 ((8 :: xs) :: rs) = true) : xs = [] ∧ ∃ t : List Nat, rs = [natRow t] ∧ t.length ≤ 2100 := by
  match xs, rs, h with
  | [], [], h =>
    exact no_ask h rfl
  | [], [t], h =>
    obtain ⟨w, rfl, hw⟩ := nat_row h
    exact ⟨rfl, w, rfl, hw⟩
  | [], [t, u], h =>
    exact no_ask h rfl
  | [], t :: u :: v :: rs, h =>
    exact no_ask h rfl
  | [x], [], h =>
    exact no_ask h rfl
  | [x], [t], h =>
    exact no_ask h rfl
  | [x], [t, u], h =>
    exact no_ask h rfl
  | [x], t :: u :: v :: rs, h =>
    exact no_ask h rfl
  | x :: y :: xs, [], h =>
    exact no_ask h rfl
  | x :: y :: xs, [t], h =>
    exact no_ask h rfl
  | x :: y :: xs, [t, u], h =>
    exact no_ask h rfl
  | x :: y :: xs, t :: u :: v :: rs, h =>
    exact no_ask h rfl
theorem ask9 (h : VbcjaiNeutral.asked1 ((9 :: xs) :: rs) = true) : xs = [] ∧ ∃ t u : List Nat, rs = [natRow t, natRow u] ∧ t.length ≤ 2100 ∧ u.length ≤ 2100 := by
  match xs, rs, h with
  | [], [], h =>
    exact no_ask h rfl
  | [], [t], h =>
    exact no_ask h rfl
  | [], [t, u], h =>
    have h' := Bool.and_eq_true_iff.mp h
    obtain ⟨w, rfl, hw⟩ := nat_row h'.1
    obtain ⟨w2, rfl, hw2⟩ := nat_row h'.2
    exact ⟨rfl, w, w2, rfl, hw, hw2⟩
  | [], t :: u :: v :: rs, h =>
    exact no_ask h rfl
  | [x], [], h =>
    exact no_ask h rfl
  | [x], [t], h =>
    exact no_ask h rfl
  | [x], [t, u], h =>
    exact no_ask h rfl
  | [x], t :: u :: v :: rs, h =>
    exact no_ask h rfl
  | x :: y :: xs, [], h =>
    exact no_ask h rfl
  | x :: y :: xs, [t], h =>
    exact no_ask h rfl
  | x :: y :: xs, [t, u], h =>
    exact no_ask h rfl
  | x :: y :: xs, t :: u :: v :: rs, h =>
    exact no_ask h rfl
theorem ask10 (h : VbcjaiNeutral.asked1 ((10 :: xs) :: rs) = true) : xs = [] ∧ ∃ t u : List Nat, rs = [natRow t, natRow u] ∧ t.length ≤ 2100 ∧ u.length ≤ 2100 := by
  match xs, rs, h with
  | [], [], h =>
    exact no_ask h rfl
  | [], [t], h =>
    exact no_ask h rfl
  | [], [t, u], h =>
    have h' := Bool.and_eq_true_iff.mp h
    obtain ⟨w, rfl, hw⟩ := nat_row h'.1
    obtain ⟨w2, rfl, hw2⟩ := nat_row h'.2
    exact ⟨rfl, w, w2, rfl, hw, hw2⟩
  | [], t :: u :: v :: rs, h =>
    exact no_ask h rfl
  | [x], [], h =>
    exact no_ask h rfl
  | [x], [t], h =>
    exact no_ask h rfl
  | [x], [t, u], h =>
    exact no_ask h rfl
  | [x], t :: u :: v :: rs, h =>
    exact no_ask h rfl
  | x :: y :: xs, [], h =>
    exact no_ask h rfl
  | x :: y :: xs, [t], h =>
    exact no_ask h rfl
  | x :: y :: xs, [t, u], h =>
    exact no_ask h rfl
  | x :: y :: xs, t :: u :: v :: rs, h =>
    exact no_ask h rfl
theorem ask11 (h : VbcjaiNeutral.asked1 ((11 :: xs) :: rs) = true) : xs = [] ∧ ∃ t : List Nat, rs = [natRow t] ∧ t.length ≤ 2100 := by
  match xs, rs, h with
  | [], [], h =>
    exact no_ask h rfl
  | [], [t], h =>
    obtain ⟨w, rfl, hw⟩ := nat_row h
    exact ⟨rfl, w, rfl, hw⟩
  | [], [t, u], h =>
    exact no_ask h rfl
  | [], t :: u :: v :: rs, h =>
    exact no_ask h rfl
  | [x], [], h =>
    exact no_ask h rfl
  | [x], [t], h =>
    exact no_ask h rfl
  | [x], [t, u], h =>
    exact no_ask h rfl
  | [x], t :: u :: v :: rs, h =>
    exact no_ask h rfl
  | x :: y :: xs, [], h =>
    exact no_ask h rfl
  | x :: y :: xs, [t], h =>
    exact no_ask h rfl
  | x :: y :: xs, [t, u], h =>
    exact no_ask h rfl
  | x :: y :: xs, t :: u :: v :: rs, h =>
    exact no_ask h rfl
theorem ask12 (h : VbcjaiNeutral.asked1 ((12 :: xs) :: rs) = true) : xs = [] ∧ ∃ t : List Nat, rs = [natRow t] ∧ t.length ≤ 2100 := by
  match xs, rs, h with
  | [], [], h =>
    exact no_ask h rfl
  | [], [t], h =>
    obtain ⟨w, rfl, hw⟩ := nat_row h
    exact ⟨rfl, w, rfl, hw⟩
  | [], [t, u], h =>
    exact no_ask h rfl
  | [], t :: u :: v :: rs, h =>
    exact no_ask h rfl
  | [x], [], h =>
    exact no_ask h rfl
  | [x], [t], h =>
    exact no_ask h rfl
  | [x], [t, u], h =>
    exact no_ask h rfl
  | [x], t :: u :: v :: rs, h =>
    exact no_ask h rfl
  | x :: y :: xs, [], h =>
    exact no_ask h rfl
  | x :: y :: xs, [t], h =>
    exact no_ask h rfl
  | x :: y :: xs, [t, u], h =>
    exact no_ask h rfl
  | x :: y :: xs, t :: u :: v :: rs, h =>
    exact no_ask h rfl
theorem ask13 (h : VbcjaiNeutral.asked1 ((13 :: xs) :: rs) = true) : xs = [] ∧ rs = [] := by
  match xs, rs, h with
  | [], [], h =>
    exact ⟨rfl, rfl⟩
  | [], [t], h =>
    exact no_ask h rfl
  | [], [t, u], h =>
    exact no_ask h rfl
  | [], t :: u :: v :: rs, h =>
    exact no_ask h rfl
  | [x], [], h =>
    exact no_ask h rfl
  | [x], [t], h =>
    exact no_ask h rfl
  | [x], [t, u], h =>
    exact no_ask h rfl
  | [x], t :: u :: v :: rs, h =>
    exact no_ask h rfl
  | x :: y :: xs, [], h =>
    exact no_ask h rfl
  | x :: y :: xs, [t], h =>
    exact no_ask h rfl
  | x :: y :: xs, [t, u], h =>
    exact no_ask h rfl
  | x :: y :: xs, t :: u :: v :: rs, h =>
    exact no_ask h rfl
theorem ask14 (h : VbcjaiNeutral.asked1 ((14 :: xs) :: rs) = true) : xs = [] ∧ rs = [] := by
  match xs, rs, h with
  | [], [], h =>
    exact ⟨rfl, rfl⟩
  | [], [t], h =>
    exact no_ask h rfl
  | [], [t, u], h =>
    exact no_ask h rfl
  | [], t :: u :: v :: rs, h =>
    exact no_ask h rfl
  | [x], [], h =>
    exact no_ask h rfl
  | [x], [t], h =>
    exact no_ask h rfl
  | [x], [t, u], h =>
    exact no_ask h rfl
  | [x], t :: u :: v :: rs, h =>
    exact no_ask h rfl
  | x :: y :: xs, [], h =>
    exact no_ask h rfl
  | x :: y :: xs, [t], h =>
    exact no_ask h rfl
  | x :: y :: xs, [t, u], h =>
    exact no_ask h rfl
  | x :: y :: xs, t :: u :: v :: rs, h =>
    exact no_ask h rfl
theorem ask15 (h : VbcjaiNeutral.asked1 ((15 :: xs) :: rs) = true) : xs = [] ∧ ∃ t : List Nat, rs = [natRow t] ∧ t.length ≤ 2100 := by
  match xs, rs, h with
  | [], [], h =>
    exact no_ask h rfl
  | [], [t], h =>
    obtain ⟨w, rfl, hw⟩ := nat_row h
    exact ⟨rfl, w, rfl, hw⟩
  | [], [t, u], h =>
    exact no_ask h rfl
  | [], t :: u :: v :: rs, h =>
    exact no_ask h rfl
  | [x], [], h =>
    exact no_ask h rfl
  | [x], [t], h =>
    exact no_ask h rfl
  | [x], [t, u], h =>
    exact no_ask h rfl
  | [x], t :: u :: v :: rs, h =>
    exact no_ask h rfl
  | x :: y :: xs, [], h =>
    exact no_ask h rfl
  | x :: y :: xs, [t], h =>
    exact no_ask h rfl
  | x :: y :: xs, [t, u], h =>
    exact no_ask h rfl
  | x :: y :: xs, t :: u :: v :: rs, h =>
    exact no_ask h rfl
theorem ask16 (h : VbcjaiNeutral.asked1 ((16 :: xs) :: rs) = true) : xs = [] ∧ ∃ t : List Nat, rs = [natRow t] ∧ t.length ≤ 2100 := by
  match xs, rs, h with
  | [], [], h =>
    exact no_ask h rfl
  | [], [t], h =>
    obtain ⟨w, rfl, hw⟩ := nat_row h
    exact ⟨rfl, w, rfl, hw⟩
  | [], [t, u], h =>
    exact no_ask h rfl
  | [], t :: u :: v :: rs, h =>
    exact no_ask h rfl
  | [x], [], h =>
    exact no_ask h rfl
  | [x], [t], h =>
    exact no_ask h rfl
  | [x], [t, u], h =>
    exact no_ask h rfl
  | [x], t :: u :: v :: rs, h =>
    exact no_ask h rfl
  | x :: y :: xs, [], h =>
    exact no_ask h rfl
  | x :: y :: xs, [t], h =>
    exact no_ask h rfl
  | x :: y :: xs, [t, u], h =>
    exact no_ask h rfl
  | x :: y :: xs, t :: u :: v :: rs, h =>
    exact no_ask h rfl
theorem ask17 (h : VbcjaiNeutral.asked1 ((17 :: xs) :: rs) = true) : ∃ m, xs = [m] ∧ ∃ t : List Nat, rs = [natRow t] ∧ t.length ≤ 2100 := by
  match xs, rs, h with
  | [], [], h =>
    exact no_ask h rfl
  | [], [t], h =>
    exact no_ask h rfl
  | [], [t, u], h =>
    exact no_ask h rfl
  | [], t :: u :: v :: rs, h =>
    exact no_ask h rfl
  | [x], [], h =>
    exact no_ask h rfl
  | [x], [t], h =>
    have h' := (Bool.and_eq_true_iff.mp h).2
    obtain ⟨w, rfl, hw⟩ := nat_row h'
    exact ⟨x, rfl, w, rfl, hw⟩
  | [x], [t, u], h =>
    exact no_ask h rfl
  | [x], t :: u :: v :: rs, h =>
    exact no_ask h rfl
  | x :: y :: xs, [], h =>
    exact no_ask h rfl
  | x :: y :: xs, [t], h =>
    exact no_ask h rfl
  | x :: y :: xs, [t, u], h =>
    exact no_ask h rfl
  | x :: y :: xs, t :: u :: v :: rs, h =>
    exact no_ask h rfl
theorem ask18 (h : VbcjaiNeutral.asked1 ((18 :: xs) :: rs) = true) : xs = [] ∧ rs = [] := by
  match xs, rs, h with
  | [], [], h =>
    exact ⟨rfl, rfl⟩
  | [], [t], h =>
    exact no_ask h rfl
  | [], [t, u], h =>
    exact no_ask h rfl
  | [], t :: u :: v :: rs, h =>
    exact no_ask h rfl
  | [x], [], h =>
    exact no_ask h rfl
  | [x], [t], h =>
    exact no_ask h rfl
  | [x], [t, u], h =>
    exact no_ask h rfl
  | [x], t :: u :: v :: rs, h =>
    exact no_ask h rfl
  | x :: y :: xs, [], h =>
    exact no_ask h rfl
  | x :: y :: xs, [t], h =>
    exact no_ask h rfl
  | x :: y :: xs, [t, u], h =>
    exact no_ask h rfl
  | x :: y :: xs, t :: u :: v :: rs, h =>
    exact no_ask h rfl
end
/-- a deed -/
def spDeed (c : Cl3) (k : Int) : Sp := fun vs H Q E => ∃ (p : Addr) (S : Vbcjai.State) (xs : List Int) (rs : List (List Int)) (nv rv : V), vs = [.ref p, nv, rv] ∧ HandAt c.H H p S ∧ SOk S ∧ IsL (xs.map V.int) nv H ∧ LstOf RowR rs rv H ∧ VbcjaiNeutral.asked1 ((k :: xs) :: rs) = true ∧
  (∀ rest v H', (VbcjaiNeutral.step S ((k :: xs) :: rs)).2 = 0 :: rest → ExB [p] H H' → HandAt c.H H' p (VbcjaiNeutral.step S ((k :: xs) :: rs)).1 → IsL (rest.map V.int) v H' → Q v H') ∧
  ∀ n, VbcjaiNeutral.step S ((k :: xs) :: rs) = (S, [n]) → Refs c.R H E n
section
variable {K : PySem.W.Frag} {σ : L2.St} {H H' : Hp} {ta tb te tc tl ty tv t1 t2 t3 tp : TE} {tr : TA} {t u : TT} {x y z v : V} {R Ra Rb : Rel} {D : Ends} {tu tw : TS} {w : List Nat} {C p rC : Addr} {S : Vbcjai.State} {E : XK} {m : Int}
theorem er_row0 {rs : List (List Int)} {rv : V} {i : Nat} (rr : LstOf RowR (natRow w :: rs) rv H) (h : σ[i]? = some (some rv)) : ER (tOp (rIxL K) (tVar i) (tC (.int 0))) σ H (IsN w) := er_to (er_ixR (F := RowR) (k := 0) (er_var (R := LstOf RowR (natRow w :: rs)) rr h) er_c rfl) (row_nat w)
theorem er_row1 {r : List Int} {rs : List (List Int)} {rv : V} {i : Nat} (rr : LstOf RowR (r :: natRow w :: rs) rv H) (h : σ[i]? = some (some rv)) : ER (tOp (rIxL K) (tVar i) (tC (.int 1))) σ H (IsN w) := er_to (er_ixR (F := RowR) (k := 1) (er_var (R := LstOf RowR (r :: natRow w :: rs)) rr h) er_c rfl) (row_nat w)
theorem er_num0 {xs : List Int} {nv : V} {i : Nat} (rn : IsL ((m :: xs).map V.int) nv H) (h : σ[i]? = some (some nv)) : ER (tOp (rIxL K) (tVar i) (tC (.int 0))) σ H (IsI m) := er_ixL (er_var (R := IsL ((m :: xs).map V.int)) rn h) er_c (show atI ((m :: xs).map V.int) ((0 : Nat) : Int) = _ from atI_nat rfl)
theorem er_readY {ts : List Nat} (hA : HandAt C H p S) (cl : Cls K C) (na : NoAttr K C "fingers") (h0 : σ[0]? = some (some (.ref p))) (hr : ER tb σ H (IsN ts)) (ht : ts.length ≤ 2100) (hno : readNo S.n [] ts = none) :
    ER (tCall (spX rC (fun p : List Nat × Nat => [IsN p.1, IsI (p.2 : Int)]) (fun p => p.1.length ≤ 1000000) (fun p => readNo p.2 [] p.1) (fun p => IsN (p.1.map (turnAt p.2)))) [] E (tCons tb (tCons (tFld K (tVar 0) "fingers") tNil))) σ H (IsN (ts.map (turnAt S.n))) :=
  er_callX' (ts, S.n) (ea2 hr (er_fing hA (er_ref h0) cl na)) (show ts.length ≤ 1000000 by omega) fun n hn => by dsimp only at hn; rw [hno] at hn; cases hn
theorem er_readN {ts : List Nat} (hA : HandAt C H p S) (cl : Cls K C) (na : NoAttr K C "fingers") (h0 : σ[0]? = some (some (.ref p))) (hr : ER tb σ H (IsN ts)) (ht : ts.length ≤ 2100) (hno : readNo S.n [] ts = some m) (hE : Refs rC H E m) :
    ER (tCall (spX rC (fun p : List Nat × Nat => [IsN p.1, IsI (p.2 : Int)]) (fun p => p.1.length ≤ 1000000) (fun p => readNo p.2 [] p.1) (fun p => IsN (p.1.map (turnAt p.2)))) [] E (tCons tb (tCons (tFld K (tVar 0) "fingers") tNil))) σ H (fun _ _ => False) :=
  (er_callX (ts, S.n) (ea2 hr (er_fing hA (er_ref h0) cl na)) (show ts.length ≤ 1000000 by omega) fun n hn => by
    dsimp only at hn
    rw [hno] at hn
    cases hn
    exact hE).imp fun _ _ _ r => by
      have := r.1
      dsimp only at this
      rw [hno] at this
      cases this
theorem er_bits {b : Bool} (h : ER te σ H (IsB b)) : ER (tLst (tCons (tCB (fun xs H Q => (∃ i, xs = [V.int i] ∧ Q (.int i) H) ∨ ∃ k, xs = [V.bl k] ∧ Q (.int (if k then 1 else 0)) H) (tCons te tNil)) tNil)) σ H (IsL ([Vbcjai.bit b].map V.int)) :=
  er_lst (xs := [V.int (Vbcjai.bit b)]) (ea1 (er_bit h)) (show 1 ≤ 1000 by decide)
end
theorem ofCord2_is (S : Vbcjai.State) (t u : List Nat) (f : Vbcjai.Cord → Vbcjai.Cord → Vbcjai.State × Vbcjai.Ans) : (Vbcjai.ofCord S t fun w => Vbcjai.ofCord S u fun v => f w v) = match readNo2 S.n t u with
    | some m => (S, [m])
    | none => f (t.map (turnAt S.n)) (u.map (turnAt S.n)) := by
  rw [ofCord_is]
  unfold readNo2
  cases readNo S.n [] t with
  | some m => rfl
  | none => exact ofCord_is S u _
theorem stepT1 {S : Vbcjai.State} {t : List Nat} {cc : List (List Int)} (mk : List Nat → Vbcjai.Call) (hc : VbcjaiNeutral.step S cc = Vbcjai.step S (mk (VbcjaiNeutral.nats (natRow t)))) (f : Vbcjai.Cord → Vbcjai.State × Vbcjai.Ans) (h : Vbcjai.step S (mk t) = Vbcjai.ofCord S t f) :
    VbcjaiNeutral.step S cc = match readNo S.n [] t with
    | some m => (S, [m])
    | none => f (t.map (turnAt S.n)) := by
  (rw [hc, nats_of, h, ofCord_is]) <;> (cases readNo S.n [] t <;> rfl)
theorem stepT2 {S : Vbcjai.State} {t u : List Nat} {cc : List (List Int)} (mk : List Nat → List Nat → Vbcjai.Call) (hc : VbcjaiNeutral.step S cc = Vbcjai.step S (mk (VbcjaiNeutral.nats (natRow t)) (VbcjaiNeutral.nats (natRow u)))) (f : Vbcjai.Cord → Vbcjai.Cord → Vbcjai.State × Vbcjai.Ans)
    (h : Vbcjai.step S (mk t u) = Vbcjai.ofCord S t fun w => Vbcjai.ofCord S u fun v => f w v) :
    VbcjaiNeutral.step S cc = match readNo2 S.n t u with
    | some m => (S, [m])
    | none => f (t.map (turnAt S.n)) (u.map (turnAt S.n)) := by rw [hc, nats_of, nats_of, h, ofCord2_is]
theorem setsOf_is (n : Nat) (l : List Int) : Vbcjai.setsOf n l = if goodSets n l = true then some (l.map Int.toNat) else none := by
  unfold Vbcjai.setsOf goodSets
  simp only [Bool.decide_eq_true]
theorem made_len {l : List Nat} (h : l.length ≤ 12) : (Vbcjai.made l).length ≤ 2000 := by
  rw [made_is]
  have fl : ∀ l : List Nat, (l.flatMap fun m => rowOf ((Vbcjai.bits m).map fun i => 2 * i)).length ≤ 94 * l.length := by
    intro l
    induction l with
    | nil => simp
    | cons a l ih =>
      rw [List.flatMap_cons, List.length_append, List.length_cons]
      have := rowOf_le (ts := (Vbcjai.bits a).map fun i => 2 * i) (by rw [List.length_map]; exact bits_le a)
      omega
  have h1 := taut_length (l.flatMap fun m => rowOf ((Vbcjai.bits m).map fun i => 2 * i))
  have h2 := fl l
  omega
theorem root_len (w : List Nat) : (Vbcjai.root w).1.length ≤ w.length := by
  have off := offOf_at (Vbcjai.taut w)
  have le := off.le
  have tl := taut_length w
  unfold Vbcjai.root
  dsimp only
  rw [bare_off off]
  dsimp only
  split
  · exact Nat.zero_le _
  · have cl := core_length le
    unfold Vbcjai.back
    rw [List.length_append, List.length_append, List.length_map, List.length_reverse, List.length_take, List.length_take, cl]
    omega
theorem ring_len (w : List Nat) : (Vbcjai.ring w).length ≤ w.length := by
  have off := offOf_at (Vbcjai.taut w)
  have tl := taut_length w
  rw [ring_off off]
  have cl := core_le (Vbcjai.taut w) (offOf (Vbcjai.taut w))
  generalize core (Vbcjai.taut w) (offOf (Vbcjai.taut w)) = d at cl
  have k : ∀ (l : List Nat) (a : List Nat), a.length ≤ d.length → (l.foldl (fun a i => better a (turning d i)) a).length ≤ d.length := by
    intro l
    induction l with
    | nil => intro a h; exact h
    | cons i l ih =>
      intro a h
      rw [List.foldl_cons]
      refine ih _ ?_
      unfold better
      split
      · unfold turning
        rw [List.length_append, List.length_drop, List.length_take]
        omega
      · exact h
  have := k (List.range d.length) d (Nat.le_refl _)
  unfold firstTurning
  omega
theorem beq_dec (a b : List Nat) : (a == b) = decide (a = b) := by
  by_cases c : a = b
  · rw [decide_eq_true c]; exact beq_iff_eq.mpr c
  · rw [decide_eq_false c]; exact beq_eq_false_iff_ne.mpr c
theorem good_sets {n : Nat} {l : List Int} (h : goodSets n l = true) : l = natRow (l.map Int.toNat) ∧ l.length ≤ 12 ∧ ∀ m ∈ l.map Int.toNat, 1 ≤ m ∧ m < 2 ^ n := by
  unfold goodSets at h
  rw [Bool.and_eq_true, Bool.and_eq_true, decide_eq_true_iff] at h
  obtain ⟨⟨_, h1⟩, h2, _⟩ := h
  have h1 : l.length ≤ 12 := h1
  rw [List.all_eq_true] at h2
  refine ⟨?_, h1, fun m hm => ?_⟩
  · unfold natRow
    rw [List.map_map]
    have : l.map id = l.map ((fun n : Nat => (n : Int)) ∘ Int.toNat) := List.map_congr_left fun z hz => by
      have := of_decide_eq_true (h2 z hz)
      show z = (z.toNat : Int)
      omega
    rw [List.map_id] at this
    exact this
  · obtain ⟨z, hz, rfl⟩ := List.mem_map.mp hm
    have := of_decide_eq_true (h2 z hz)
    have p : Int.ofNat (2 ^ n) = ((2 ^ n : Nat) : Int) := rfl
    omega
section
variable {P : Program} {w : World} {K : PySem.W.Frag} {mg : Str → Option Value} {base : Heap} {c : Cl3}
abbrev s_do_fingers : Stmt := (top 88)
abbrev N_do_fingers : List Str := ["hand", "numbers", "rows"]
theorem sc_do_fingers : FnScope ["hand", "numbers", "rows"] ["hand", "numbers", "rows"] (defScope s_do_fingers) := ⟨rfl, rfl, rfl, by decide +kernel, rfl, by decide +kernel, by decide +kernel⟩
theorem b_do_fingers : BindsP "do_fingers" "do_fingers" s_do_fingers ["hand", "numbers", "rows"] := fun _ _ _ _ _ _ us hl => match us, hl with | [_, _, _], _ => rfl
theorem ok_do_fingers (T : Txt K mg c) : Ok P w K mg base (L2.CX P w) 4 "do_fingers" ["hand", "numbers", "rows"] (spDeed c 0) := by
  refine T.do_fingers.okX sc_do_fingers b_do_fingers (fun vs H Q E h => ?_) (fun f cdv A outer s H vs Q E hr h => ⟨_, (pss_cons (ps_if (pt_not (pt_chain op_le op_le pe_int (pe_ix (r := rIxL K) ix_list (pv 1) pe_int (fun _ _ => rfl)) (pconst T.MOST_FINGERS rfl))) (pss_one (praise T hr (takes_of rfl rfl rfl rfl) (pa_cons (pconst T.OUT_OF_RANGE rfl) pa_nil))) pss_nil)
      (pss_cons (ps_expr (pmeth (pv 0) T.Hand.cl (ok_hand_begin T) (hr.mono (by decide)) pass0 (pa_cons (pe_ix (r := rIxL K) ix_list (pv 1) pe_int (fun _ _ => rfl)) pa_nil)))
      (pss_one (ps_ret (pe_lst pa_nil))))), ?_⟩)
  · obtain ⟨p, S, xs, rs, nv, rv, rfl, _⟩ := h; rfl
  · obtain ⟨p, S, xs, rs, nv, rv, rfl, hA, ok, rn, rr, hask, q, x⟩ := h
    obtain ⟨m, rfl, rfl⟩ := ask0 hask
    have st : VbcjaiNeutral.step S [[0, m]] = if m < 1 ∨ 6 < m then (S, [-2]) else (⟨m.toNat, [], Vbcjai.own m.toNat⟩, [0]) := rfl
    rw [st] at q x
    refine st_seq (st_if (Evl.et_not (et_test (er_chain (i := 1) (j := m) (k := 6) er_c (er_num0 rn rfl) er_c rfl rfl))) (fun hb H1 e1 => ?_) fun hb H1 e1 => ?_)
    · have ne : m < 1 ∨ 6 < m := by
        by_cases h1 : (1 : Int) ≤ m
        · by_cases h2 : m ≤ 6
          · rw [decide_eq_true h1, decide_eq_true h2] at hb; cases hb
          · omega
        · omega
      exact st_raise er_c ((x (-2) (if_pos ne)).mono e1)
    · have ye : 1 ≤ m ∧ m ≤ 6 := by
        by_cases h1 : (1 : Int) ≤ m
        · by_cases h2 : m ≤ 6
          · exact ⟨h1, h2⟩
          · rw [decide_eq_false h2, Bool.and_false] at hb; cases hb
        · rw [decide_eq_false h1] at hb; cases hb
      rw [if_neg (by omega)] at q
      obtain ⟨n, rfl⟩ : ∃ n : Nat, m = (n : Int) := ⟨m.toNat, by omega⟩
      rw [Int.toNat_natCast] at q
      unfold tNext
      dsimp only
      have hA1 := hA.mono e1
      obtain ⟨dx, a, b, hp, _⟩ := id hA1
      refine st_seq (show tDrop _ _ _ _ from ⟨_, rfl, p, dx, hf S.n a b, rfl, hp, hf_b _ _ _, (ea1 (er_num0 (rmono (IsL _) e1 rn) rfl)) H1 Ex.rfl _ fun vs H2 e2 r2 => ?_⟩)
      have ev : vs = [V.int (n : Int)] := isL_all2 (xs := [V.int (n : Int)]) r2
      subst ev
      refine ⟨p, S, n, rfl, hA1.mono e2, by omega, fun H3 bx hA3 => ?_⟩
      dsimp only
      exact st_ret (er_lst (xs := []) ea_nil (show 0 ≤ 1000 by decide)) fun v H4 e4 r4 => q [] v H4 rfl (((ExB.of (e1.trans e2)).trans bx).more e4) (hA3.mono e4) r4
abbrev s_do_taut : Stmt := (top 89)
abbrev N_do_taut : List Str := ["hand", "numbers", "rows"]
theorem sc_do_taut : FnScope ["hand", "numbers", "rows"] ["hand", "numbers", "rows"] (defScope s_do_taut) := ⟨rfl, rfl, rfl, by decide +kernel, rfl, by decide +kernel, by decide +kernel⟩
theorem b_do_taut : BindsP "do_taut" "do_taut" s_do_taut ["hand", "numbers", "rows"] := fun _ _ _ _ _ _ us hl => match us, hl with | [_, _, _], _ => rfl
theorem ok_do_taut (T : Txt K mg c) : Ok P w K mg base (L2.CX P w) 5 "do_taut" ["hand", "numbers", "rows"] (spDeed c 1) := by
  refine T.do_taut.okX sc_do_taut b_do_taut (fun vs H Q E h => ?_) (fun f cdv A outer s H vs Q E hr h => ⟨_, (pss_one (ps_ret (pcall (ok_letters_of T) (hr.mono (by decide)) rfl pass0 (pa_cons (pcall (ok_pulled_taut T) (hr.mono (by decide)) rfl pass0 (pa_cons (pcall (ok_cord_read T) (hr.mono (by decide)) rfl (passes_call (takes_of rfl rfl rfl rfl) (fun _ _ _ _ z => z)) (pa_cons (pe_ix (r := rIxL K) ix_list (pv 2) pe_int (fun _ _ => rfl)) (pa_cons (pe_fld (pv 0) rfl) pa_nil))) pa_nil)) pa_nil)))), ?_⟩)
  · obtain ⟨p, S, xs, rs, nv, rv, rfl, _⟩ := h; rfl
  · obtain ⟨p, S, xs, rs, nv, rv, rfl, hA, ok, rn, rr, hask, q, x⟩ := h
    obtain ⟨rfl, t, rfl, ht⟩ := ask1 hask
    have st := stepT1 (S := S) (t := t) (cc := [[1], natRow t]) Vbcjai.Call.taut rfl _ rfl
    rw [st] at q x
    have tl := taut_length (t.map (turnAt S.n))
    rw [List.length_map] at tl
    cases hno : readNo S.n [] t with
    | some m =>
      rw [hno] at x
      exact st_ret (er_abs1 (er_abs1 (er_readN hA T.Hand.cl T.hF rfl (er_row0 rr rfl) ht hno (x m rfl)))) fun _ _ _ r => False.elim r
    | none =>
      rw [hno] at q
      exact st_ret (er_call (Vbcjai.taut (t.map (turnAt S.n))) (ea1 (er_call (t.map (turnAt S.n)) (ea1 (er_readY hA T.Hand.cl T.hF rfl (er_row0 rr rfl) ht hno)) (by rw [List.length_map]; omega))) (by omega)) fun v H1 e1 r1 => q _ v H1 rfl (.of e1) (hA.mono e1) (by rw [ints_iv]; exact r1)
abbrev s_do_falls : Stmt := (top 90)
abbrev N_do_falls : List Str := ["hand", "numbers", "rows"]
theorem sc_do_falls : FnScope ["hand", "numbers", "rows"] ["hand", "numbers", "rows"] (defScope s_do_falls) := ⟨rfl, rfl, rfl, by decide +kernel, rfl, by decide +kernel, by decide +kernel⟩
theorem b_do_falls : BindsP "do_falls" "do_falls" s_do_falls ["hand", "numbers", "rows"] := fun _ _ _ _ _ _ us hl => match us, hl with | [_, _, _], _ => rfl
theorem ok_do_falls (T : Txt K mg c) : Ok P w K mg base (L2.CX P w) 5 "do_falls" ["hand", "numbers", "rows"] (spDeed c 2) := by
  refine T.do_falls.okX sc_do_falls b_do_falls (fun vs H Q E h => ?_) (fun f cdv A outer s H vs Q E hr h => ⟨_, (pss_cons (ps_expr (pcall (ok_want_let_go T) (hr.mono (by decide)) rfl (passes_call (takes_of rfl rfl rfl rfl) (fun _ _ _ _ z => z)) (pa_cons (pe_ix (r := rIxL K) ix_list (pv 1) pe_int (fun _ _ => rfl)) (pa_cons (pe_fld (pv 0) rfl) pa_nil))))
      (pss_one (ps_ret (pe_lst (pa_cons (pe_callTy call_int1 (by rfl) T.int boot_int (pa_cons (pcall (ok_falls T) (hr.mono (by decide)) rfl pass0 (pa_cons (pcall (ok_cord_read T) (hr.mono (by decide)) rfl (passes_call (takes_of rfl rfl rfl rfl) (fun _ _ _ _ z => z)) (pa_cons (pe_ix (r := rIxL K) ix_list (pv 2) pe_int (fun _ _ => rfl)) (pa_cons (pe_fld (pv 0) rfl) pa_nil))) (pa_cons (pe_ix (r := rIxL K) ix_list (pv 1) pe_int (fun _ _ => rfl)) pa_nil))) pa_nil)) pa_nil))))), ?_⟩)
  · obtain ⟨p, S, xs, rs, nv, rv, rfl, _⟩ := h; rfl
  · obtain ⟨p, S, xs, rs, nv, rv, rfl, hA, ok, rn, rr, hask, q, x⟩ := h
    obtain ⟨m, rfl, t, rfl, ht⟩ := ask2 hask
    have st : VbcjaiNeutral.step S [[2, m], natRow t] = if m < 0 ∨ Int.ofNat (2 ^ S.n) ≤ m then (S, [-2]) else (match readNo S.n [] t with | some k => (S, [k]) | none => (S, [0, Vbcjai.bit (Vbcjai.falls m.toNat (t.map (turnAt S.n)))])) := by
      show (if m < 0 ∨ Int.ofNat (2 ^ S.n) ≤ m then (S, [-2]) else Vbcjai.ofCord S (VbcjaiNeutral.nats (natRow t)) fun w => (S, [0, Vbcjai.bit (Vbcjai.falls m.toNat w)])) = _
      (rw [nats_of, ofCord_is]) <;> (cases readNo S.n [] t <;> rfl)
    rw [st] at q x
    have p2 : Int.ofNat (2 ^ S.n) = ((2 ^ S.n : Nat) : Int) := rfl
    refine st_seq (st_drop (er_callX (m, S.n) (ea2 (er_num0 rn rfl) (er_fing hA (er_ref rfl) T.Hand.cl T.hF)) (show S.n ≤ 1000 by have := ok.n6; omega) fun z hz => ?_) fun _ H1 e1 ⟨r1, _⟩ => ?_)
    · dsimp only at hz
      by_cases cc : 0 ≤ m ∧ m < (2 ^ S.n : Nat)
      · rw [if_pos cc] at hz; cases hz
      · rw [if_neg cc] at hz
        cases hz
        exact x (-2) (if_pos (by omega))
    · dsimp only at r1
      have cc : 0 ≤ m ∧ m < (2 ^ S.n : Nat) := by
        by_cases cc : 0 ≤ m ∧ m < (2 ^ S.n : Nat)
        · exact cc
        · rw [if_neg cc] at r1; cases r1
      rw [if_neg (by omega)] at q x
      obtain ⟨n, rfl⟩ : ∃ n : Nat, m = (n : Int) := ⟨m.toNat, by omega⟩
      rw [Int.toNat_natCast] at q
      have hA1 := hA.mono e1
      have rr1 := rmono (LstOf RowR [natRow t]) e1 rr
      dsimp only
      cases hno : readNo S.n [] t with
      | some m =>
        rw [hno] at x
        exact st_ret (er_absL (er_absB (er_abs1 (er_readN hA1 T.Hand.cl T.hF rfl (er_row0 rr1 rfl) ht hno ((x m rfl).mono e1))))) fun _ _ _ r => False.elim r
      | none =>
        rw [hno] at q
        exact st_ret (er_bits (er_call (t.map (turnAt S.n), n) (ea2 (er_readY hA1 T.Hand.cl T.hF rfl (er_row0 rr1 rfl) ht hno) (er_num0 (rmono (IsL _) e1 rn) rfl)) (by rw [List.length_map]; omega))) fun v H2 e2 r2 => q _ v H2 rfl (.of (e1.trans e2)) (hA1.mono e2) r2
abbrev s_do_sets : Stmt := (top 91)
abbrev N_do_sets : List Str := ["hand", "numbers", "rows"]
theorem sc_do_sets : FnScope ["hand", "numbers", "rows"] ["hand", "numbers", "rows"] (defScope s_do_sets) := ⟨rfl, rfl, rfl, by decide +kernel, rfl, by decide +kernel, by decide +kernel⟩
theorem b_do_sets : BindsP "do_sets" "do_sets" s_do_sets ["hand", "numbers", "rows"] := fun _ _ _ _ _ _ us hl => match us, hl with | [_, _, _], _ => rfl
theorem ok_do_sets (T : Txt K mg c) : Ok P w K mg base (L2.CX P w) 5 "do_sets" ["hand", "numbers", "rows"] (spDeed c 3) := by
  refine T.do_sets.okX sc_do_sets b_do_sets (fun vs H Q E h => ?_) (fun f cdv A outer s H vs Q E hr h => ⟨_, (pss_one (ps_ret (pcall (ok_least_sets T) (hr.mono (by decide)) rfl pass0 (pa_cons (pcall (ok_cord_read T) (hr.mono (by decide)) rfl (passes_call (takes_of rfl rfl rfl rfl) (fun _ _ _ _ z => z)) (pa_cons (pe_ix (r := rIxL K) ix_list (pv 2) pe_int (fun _ _ => rfl)) (pa_cons (pe_fld (pv 0) rfl) pa_nil))) (pa_cons (pe_fld (pv 0) rfl) pa_nil))))), ?_⟩)
  · obtain ⟨p, S, xs, rs, nv, rv, rfl, _⟩ := h; rfl
  · obtain ⟨p, S, xs, rs, nv, rv, rfl, hA, ok, rn, rr, hask, q, x⟩ := h
    obtain ⟨rfl, t, rfl, ht⟩ := ask3 hask
    have st := stepT1 (S := S) (t := t) (cc := [[3], natRow t]) Vbcjai.Call.sets rfl _ rfl
    rw [st] at q x
    cases hno : readNo S.n [] t with
    | some m =>
      rw [hno] at x
      exact st_ret (er_abs1 (er_readN hA T.Hand.cl T.hF rfl (er_row0 rr rfl) ht hno (x m rfl))) fun _ _ _ r => False.elim r
    | none =>
      rw [hno] at q
      exact st_ret (er_call (t.map (turnAt S.n), S.n) (ea2 (er_readY hA T.Hand.cl T.hF rfl (er_row0 rr rfl) ht hno) (er_fing hA (er_ref rfl) T.Hand.cl T.hF)) ⟨by rw [List.length_map]; omega, ok.n6⟩) fun v H1 e1 r1 => q _ v H1 rfl (.of e1) (hA.mono e1) (by rw [ints_iv]; exact r1)
abbrev s_do_make : Stmt := (top 92)
abbrev N_do_make : List Str := ["hand", "numbers", "rows"]
theorem sc_do_make : FnScope ["hand", "numbers", "rows"] ["hand", "numbers", "rows"] (defScope s_do_make) := ⟨rfl, rfl, rfl, by decide +kernel, rfl, by decide +kernel, by decide +kernel⟩
theorem b_do_make : BindsP "do_make" "do_make" s_do_make ["hand", "numbers", "rows"] := fun _ _ _ _ _ _ us hl => match us, hl with | [_, _, _], _ => rfl
theorem ok_do_make (T : Txt K mg c) : Ok P w K mg base (L2.CX P w) 5 "do_make" ["hand", "numbers", "rows"] (spDeed c 4) := by
  refine T.do_make.okX sc_do_make b_do_make (fun vs H Q E h => ?_) (fun f cdv A outer s H vs Q E hr h => ⟨_, (pss_cons (ps_expr (pcall (ok_want_sets T) (hr.mono (by decide)) rfl (passes_call (takes_of rfl rfl rfl rfl) (fun _ _ _ _ z => z)) (pa_cons (pe_ix (r := rIxL K) ix_list (pv 2) pe_int (fun _ _ => rfl)) (pa_cons (pe_fld (pv 0) rfl) pa_nil))))
      (pss_one (ps_ret (pcall (ok_letters_of T) (hr.mono (by decide)) rfl pass0 (pa_cons (pcall (ok_cord_made T) (hr.mono (by decide)) rfl pass0 (pa_cons (pe_ix (r := rIxL K) ix_list (pv 2) pe_int (fun _ _ => rfl)) (pa_cons (pe_fld (pv 0) rfl) pa_nil))) pa_nil))))), ?_⟩)
  · obtain ⟨p, S, xs, rs, nv, rv, rfl, _⟩ := h; rfl
  · obtain ⟨p, S, xs, rs, nv, rv, rfl, hA, ok, rn, rr, hask, q, x⟩ := h
    obtain ⟨rfl, l, rfl, hl⟩ := ask4 hask
    have st : VbcjaiNeutral.step S [[4], l] = (match (if goodSets S.n l = true then some (l.map Int.toNat) else none : Option (List Nat)) with | none => (S, [-3]) | some x => (S, 0 :: Vbcjai.ints (Vbcjai.written (Vbcjai.made x)))) := by
      rw [← setsOf_is]
      rfl
    rw [st] at q x
    refine st_seq (st_drop (er_callX (l, S.n) (ea2 (er_ixR (F := RowR) (k := 0) (er_var (R := LstOf RowR [l]) rr rfl) er_c rfl) (er_fing hA (er_ref rfl) T.Hand.cl T.hF)) (show l.length ≤ 4000 ∧ S.n ≤ 1000 by have := ok.n6; omega) fun z hz => ?_) fun _ H1 e1 ⟨r1, _⟩ => ?_)
    · dsimp only at hz
      cases g : goodSets S.n l with
      | true => rw [g] at hz; cases hz
      | false =>
        rw [g] at hz
        cases hz
        exact x (-3) (by rw [g]; rfl)
    · dsimp only at r1
      cases g : goodSets S.n l with
      | false => rw [g] at r1; cases r1
      | true =>
        rw [g] at q
        obtain ⟨g1, g2, g3⟩ := good_sets g
        rw [if_pos rfl] at q
        dsimp only at q
        rw [g1] at rr
        generalize l.map Int.toNat = ms at rr q g3 g1
        have lm : ms.length ≤ 12 := by rw [g1] at g2; unfold natRow at g2; rw [List.length_map] at g2; exact g2
        have ml := made_len lm
        dsimp only
        exact st_ret (er_call (Vbcjai.made ms) (ea1 (er_call (ms, S.n) (ea2 (er_row0 (rmono (LstOf RowR [natRow ms]) e1 rr) rfl) (er_fing (hA.mono e1) (er_ref rfl) T.Hand.cl T.hF)) ⟨ok.n6, lm, g3⟩)) (by omega)) fun v H2 e2 r2 => q _ v H2 rfl (.of (e1.trans e2)) (hA.mono (e1.trans e2)) (by rw [ints_iv]; exact r2)
abbrev s_do_fits : Stmt := (top 93)
abbrev N_do_fits : List Str := ["hand", "numbers", "rows"]
theorem sc_do_fits : FnScope ["hand", "numbers", "rows"] ["hand", "numbers", "rows"] (defScope s_do_fits) := ⟨rfl, rfl, rfl, by decide +kernel, rfl, by decide +kernel, by decide +kernel⟩
theorem b_do_fits : BindsP "do_fits" "do_fits" s_do_fits ["hand", "numbers", "rows"] := fun _ _ _ _ _ _ us hl => match us, hl with | [_, _, _], _ => rfl
theorem ok_do_fits (T : Txt K mg c) : Ok P w K mg base (L2.CX P w) 5 "do_fits" ["hand", "numbers", "rows"] (spDeed c 5) := by
  refine T.do_fits.okX sc_do_fits b_do_fits (fun vs H Q E h => ?_) (fun f cdv A outer s H vs Q E hr h => ⟨_, (pss_cons (ps_expr (pcall (ok_want_sets T) (hr.mono (by decide)) rfl (passes_call (takes_of rfl rfl rfl rfl) (fun _ _ _ _ z => z)) (pa_cons (pe_ix (r := rIxL K) ix_list (pv 2) pe_int (fun _ _ => rfl)) (pa_cons (pe_fld (pv 0) rfl) pa_nil))))
      (pss_one (ps_ret (pe_lst (pa_cons (pe_callTy call_int1 (by rfl) T.int boot_int (pa_cons (pcall (ok_fits T) (hr.mono (by decide)) rfl pass0 (pa_cons (pe_ix (r := rIxL K) ix_list (pv 2) pe_int (fun _ _ => rfl)) (pa_cons (pcall (ok_cord_read T) (hr.mono (by decide)) rfl (passes_call (takes_of rfl rfl rfl rfl) (fun _ _ _ _ z => z)) (pa_cons (pe_ix (r := rIxL K) ix_list (pv 2) pe_int (fun _ _ => rfl)) (pa_cons (pe_fld (pv 0) rfl) pa_nil))) (pa_cons (pe_fld (pv 0) rfl) pa_nil)))) pa_nil)) pa_nil))))), ?_⟩)
  · obtain ⟨p, S, xs, rs, nv, rv, rfl, _⟩ := h; rfl
  · obtain ⟨p, S, xs, rs, nv, rv, rfl, hA, ok, rn, rr, hask, q, x⟩ := h
    obtain ⟨rfl, l, t, rfl, hl, ht⟩ := ask5 hask
    have st : VbcjaiNeutral.step S [[5], l, natRow t] = (match (if goodSets S.n l = true then some (l.map Int.toNat) else none : Option (List Nat)) with | none => (S, [-3]) | some x => (match readNo S.n [] t with | some m => (S, [m]) | none => (S, [0, Vbcjai.bit (Vbcjai.fitsSets S.n x (t.map (turnAt S.n)))]))) := by
      rw [← setsOf_is]
      show (match Vbcjai.setsOf S.n l with | none => (S, [-3]) | some x => Vbcjai.ofCord S (VbcjaiNeutral.nats (natRow t)) fun w => (S, [0, Vbcjai.bit (Vbcjai.fitsSets S.n x w)])) = _
      rw [nats_of]
      cases Vbcjai.setsOf S.n l with
      | none => rfl
      | some y =>
        dsimp only
        (rw [ofCord_is]) <;> (cases readNo S.n [] t <;> rfl)
    rw [st] at q x
    refine st_seq (st_drop (er_callX (l, S.n) (ea2 (er_ixR (F := RowR) (k := 0) (er_var (R := LstOf RowR [l, natRow t]) rr rfl) er_c rfl) (er_fing hA (er_ref rfl) T.Hand.cl T.hF)) (show l.length ≤ 4000 ∧ S.n ≤ 1000 by have := ok.n6; omega) fun z hz => ?_) fun _ H1 e1 ⟨r1, _⟩ => ?_)
    · dsimp only at hz
      cases g : goodSets S.n l with
      | true => rw [g] at hz; cases hz
      | false =>
        rw [g] at hz
        cases hz
        exact x (-3) (by rw [g]; rfl)
    · dsimp only at r1
      cases g : goodSets S.n l with
      | false => rw [g] at r1; cases r1
      | true =>
        rw [g] at q x
        obtain ⟨g1, g2, g3⟩ := good_sets g
        rw [if_pos rfl] at q x
        dsimp only at q x
        rw [g1] at rr
        generalize l.map Int.toNat = ms at rr q x g3 g1
        have lm : ms.length ≤ 12 := by rw [g1] at g2; unfold natRow at g2; rw [List.length_map] at g2; exact g2
        have p2 := two_pow_le ok.n6
        have hA1 := hA.mono e1
        have rr1 := rmono (LstOf RowR [natRow ms, natRow t]) e1 rr
        dsimp only
        cases hno : readNo S.n [] t with
        | some m =>
          rw [hno] at x
          exact st_ret (er_absL (er_absB (er_abs2 (er_row0 rr1 rfl) (er_readN hA1 T.Hand.cl T.hF rfl (er_row1 rr1 rfl) ht hno ((x m rfl).mono e1))))) fun _ _ _ r => False.elim r
        | none =>
          rw [hno] at q
          exact st_ret (er_bits (er_call (ms, t.map (turnAt S.n), S.n) (ea_cons (er_row0 rr1 rfl) (ea2 (er_readY hA1 T.Hand.cl T.hF rfl (er_row1 rr1 rfl) ht hno) (er_fing hA1 (er_ref rfl) T.Hand.cl T.hF))) ⟨fun s hs => by have := (g3 s hs).2; omega, (show ms.length ≤ 1000 by omega), by rw [List.length_map]; omega, ok.n6⟩)) fun v H2 e2 r2 => q _ v H2 rfl (.of (e1.trans e2)) (hA1.mono e2) r2
abbrev s_do_ring : Stmt := (top 94)
abbrev N_do_ring : List Str := ["hand", "numbers", "rows"]
theorem sc_do_ring : FnScope ["hand", "numbers", "rows"] ["hand", "numbers", "rows"] (defScope s_do_ring) := ⟨rfl, rfl, rfl, by decide +kernel, rfl, by decide +kernel, by decide +kernel⟩
theorem b_do_ring : BindsP "do_ring" "do_ring" s_do_ring ["hand", "numbers", "rows"] := fun _ _ _ _ _ _ us hl => match us, hl with | [_, _, _], _ => rfl
theorem ok_do_ring (T : Txt K mg c) : Ok P w K mg base (L2.CX P w) 5 "do_ring" ["hand", "numbers", "rows"] (spDeed c 6) := by
  refine T.do_ring.okX sc_do_ring b_do_ring (fun vs H Q E h => ?_) (fun f cdv A outer s H vs Q E hr h => ⟨_, (pss_one (ps_ret (pcall (ok_letters_of T) (hr.mono (by decide)) rfl pass0 (pa_cons (pcall (ok_one_form T) (hr.mono (by decide)) rfl pass0 (pa_cons (pcall (ok_cord_read T) (hr.mono (by decide)) rfl (passes_call (takes_of rfl rfl rfl rfl) (fun _ _ _ _ z => z)) (pa_cons (pe_ix (r := rIxL K) ix_list (pv 2) pe_int (fun _ _ => rfl)) (pa_cons (pe_fld (pv 0) rfl) pa_nil))) pa_nil)) pa_nil)))), ?_⟩)
  · obtain ⟨p, S, xs, rs, nv, rv, rfl, _⟩ := h; rfl
  · obtain ⟨p, S, xs, rs, nv, rv, rfl, hA, ok, rn, rr, hask, q, x⟩ := h
    obtain ⟨rfl, t, rfl, ht⟩ := ask6 hask
    have st := stepT1 (S := S) (t := t) (cc := [[6], natRow t]) Vbcjai.Call.ring rfl _ rfl
    rw [st] at q x
    have rl := ring_len (t.map (turnAt S.n))
    rw [List.length_map] at rl
    cases hno : readNo S.n [] t with
    | some m =>
      rw [hno] at x
      exact st_ret (er_abs1 (er_abs1 (er_readN hA T.Hand.cl T.hF rfl (er_row0 rr rfl) ht hno (x m rfl)))) fun _ _ _ r => False.elim r
    | none =>
      rw [hno] at q
      exact st_ret (er_call (Vbcjai.ring (t.map (turnAt S.n))) (ea1 (er_call (t.map (turnAt S.n)) (ea1 (er_readY hA T.Hand.cl T.hF rfl (er_row0 rr rfl) ht hno)) (by rw [List.length_map]; omega))) (by omega)) fun v H1 e1 r1 => q _ v H1 rfl (.of e1) (hA.mono e1) (by rw [ints_iv]; exact r1)
abbrev s_do_root : Stmt := (top 96)
abbrev N_do_root : List Str := ["hand", "numbers", "rows", "times", "root"]
theorem sc_do_root : FnScope ["hand", "numbers", "rows", "times", "root"] ["hand", "numbers", "rows"] (defScope s_do_root) := ⟨rfl, rfl, rfl, by decide +kernel, rfl, by decide +kernel, by decide +kernel⟩
theorem b_do_root : BindsP "do_root" "do_root" s_do_root ["hand", "numbers", "rows"] := fun _ _ _ _ _ _ us hl => match us, hl with | [_, _, _], _ => rfl
theorem ok_do_root (T : Txt K mg c) : Ok P w K mg base (L2.CX P w) 5 "do_root" ["hand", "numbers", "rows"] (spDeed c 8) := by
  refine T.do_root.okX sc_do_root b_do_root (fun vs H Q E h => ?_) (fun f cdv A outer s H vs Q E hr h => ⟨_, (pss_cons (ps_asg (pcall (ok_root_of T) (hr.mono (by decide)) rfl pass0 (pa_cons (pcall (ok_cord_read T) (hr.mono (by decide)) rfl (passes_call (takes_of rfl rfl rfl rfl) (fun _ _ _ _ z => z)) (pa_cons (pe_ix (r := rIxL K) ix_list (pv 2) pe_int (fun _ _ => rfl)) (pa_cons (pe_fld (pv 0) rfl) pa_nil))) pa_nil)) (pg_tupK (K := K) (n := 2) rfl rfl (pgs_cons (pg_name (i := 3) sc_do_root.nd rfl (.inl rfl)) (pgs_cons (pg_name (i := 4) sc_do_root.nd rfl (.inl rfl)) pgs_nil))))
      (pss_one (ps_ret (pe_op op_cat (pe_lst (pa_cons (pv 3) pa_nil)) (pcall (ok_letters_of T) (hr.mono (by decide)) rfl pass0 (pa_cons (pv 4) pa_nil)))))), ?_⟩)
  · obtain ⟨p, S, xs, rs, nv, rv, rfl, _⟩ := h; rfl
  · obtain ⟨p, S, xs, rs, nv, rv, rfl, hA, ok, rn, rr, hask, q, x⟩ := h
    obtain ⟨rfl, t, rfl, ht⟩ := ask8 hask
    have st := stepT1 (S := S) (t := t) (cc := [[8], natRow t]) Vbcjai.Call.root rfl _ rfl
    rw [st] at q x
    have rl := root_len (t.map (turnAt S.n))
    rw [List.length_map] at rl
    cases hno : readNo S.n [] t with
    | some m =>
      rw [hno] at x
      exact st_seq (st_pair (Ra := fun _ _ => False) (Rb := fun _ _ => False) (er_abs1 (er_readN hA T.Hand.cl T.hF rfl (er_row0 rr rfl) ht hno (x m rfl))) fun _ _ _ _ r => False.elim r)
    | none =>
      rw [hno] at q
      dsimp only at q
      refine st_seq (st_pair (er_call (t.map (turnAt S.n)) (ea1 (er_readY hA T.Hand.cl T.hF rfl (er_row0 rr rfl) ht hno)) (by rw [List.length_map]; omega)) fun y z H1 e1 r1 r2 => ?_)
      have wl : (Vbcjai.written (Vbcjai.root (t.map (turnAt S.n))).1).length = (Vbcjai.root (t.map (turnAt S.n))).1.length := List.length_map _
      have sz : (4000 : Nat) ≤ sizeLine := by decide
      generalize Vbcjai.root (t.map (turnAt S.n)) = rt at r1 r2 q rl wl
      have ey : y = .int (rt.2 : Nat) := r1
      subst ey
      dsimp only
      exact st_ret (er_cat (er_lst (xs := [.int (rt.2 : Nat)]) (ea1 (er_n rt.2 rfl)) (show 1 ≤ 1000 by decide)) (er_call rt.1 (ea1 (er_vN r2 rfl)) (by omega)) (by rw [iv_len, wl]; have := sz; simp only [List.length_cons, List.length_nil]; omega)) fun v H2 e2 r3 => q _ v H2 rfl (.of (e1.trans e2)) (hA.mono (e1.trans e2)) (by rw [List.map_cons, ints_iv]; exact r3)
section
variable {K : PySem.W.Frag} {σ : L2.St} {H H' : Hp} {D : Ends} {S : Vbcjai.State} {p C rC : Addr} {E : XK}
/-- one, other = two_read(hand, rows) -/
theorem st_two_read {t u : List Nat} {nv rv : V} (hA : HandAt C H p S) (rr : LstOf RowR [natRow t, natRow u] rv H) (ht : t.length ≤ 2100) (hu : u.length ≤ 2100) (x : ∀ m, readNo2 S.n t u = some m → Refs rC H E m)
    (k : readNo2 S.n t u = none → ∀ y z H1, Ex H H1 → IsN (t.map (turnAt S.n)) y H1 → IsN (u.map (turnAt S.n)) z H1 → D.nx [some (.ref p), some nv, some rv, some y, some z] H1) :
    tAsg (tCall (spX rC (fun p : Addr × Vbcjai.State × List Nat × List Nat => [HandR C p.1 p.2.1, Cords [p.2.2.1, p.2.2.2]]) (fun p => p.2.2.1.length ≤ 1000000 ∧ p.2.2.2.length ≤ 1000000) (fun p => readNo2 p.2.1.n p.2.2.1 p.2.2.2) (fun p => TupOf [IsN (p.2.2.1.map (turnAt p.2.1.n)), IsN (p.2.2.2.map (turnAt p.2.1.n))])) [] E (tCons (tVar 0) (tCons (tVar 2) tNil)))
      (gTup K 2 (gCons (gName 3) (gCons (gName 4) gNil))) D [some (.ref p), some nv, some rv, none, none] H := by
  have rc : Cords [t, u] rv H := by
    obtain ⟨q, xs, e, hq, pr⟩ := rr
    refine ⟨q, xs, e, hq, ?_⟩
    cases pr with
    | cons r1 pr =>
      cases pr with
      | cons r2 pr =>
        cases pr
        rw [row_nat] at r1 r2
        exact .cons r1 (.cons r2 .nil)
  refine (er_callX (p, S, t, u) (ea2 (er_var (R := HandR C p S) ⟨rfl, hA⟩ rfl) (er_var (R := Cords [t, u]) rc rfl)) (show t.length ≤ 1000000 ∧ u.length ≤ 1000000 by omega) x) H Ex.rfl _ fun v H1 e1 ⟨n1, q, ys, e, hq, rr⟩ => ?_
  obtain ⟨y1, y2, rfl, s1, s2⟩ := all2 rr
  exact ⟨q, _, e, .of hq, rfl, _, _, rfl, _, _, rfl, rfl, k n1 _ _ _ e1 s1 s2⟩
end
abbrev s_do_alike : Stmt := (top 95)
abbrev N_do_alike : List Str := ["hand", "numbers", "rows", "one", "other"]
theorem sc_do_alike : FnScope ["hand", "numbers", "rows", "one", "other"] ["hand", "numbers", "rows"] (defScope s_do_alike) := ⟨rfl, rfl, rfl, by decide +kernel, rfl, by decide +kernel, by decide +kernel⟩
theorem b_do_alike : BindsP "do_alike" "do_alike" s_do_alike ["hand", "numbers", "rows"] := fun _ _ _ _ _ _ us hl => match us, hl with | [_, _, _], _ => rfl
theorem ok_do_alike (T : Txt K mg c) : Ok P w K mg base (L2.CX P w) 6 "do_alike" ["hand", "numbers", "rows"] (spDeed c 7) := by
  refine T.do_alike.okX sc_do_alike b_do_alike (fun vs H Q E h => ?_) (fun f cdv A outer s H vs Q E hr h => ⟨_, (pss_cons (ps_asg (pcall (ok_two_read T) (hr.mono (by decide)) rfl (passes_call (takes_of rfl rfl rfl rfl) (fun _ _ _ _ z => z)) (pa_cons (pv 0) (pa_cons (pv 2) pa_nil))) (pg_tupK (K := K) (n := 2) rfl rfl (pgs_cons (pg_name (i := 3) sc_do_alike.nd rfl (.inl rfl)) (pgs_cons (pg_name (i := 4) sc_do_alike.nd rfl (.inl rfl)) pgs_nil))))
      (pss_one (ps_ret (pe_lst (pa_cons (pe_callTy call_int1 (by rfl) T.int boot_int (pa_cons (pcall (ok_are_alike T) (hr.mono (by decide)) rfl pass0 (pa_cons (pv 3) (pa_cons (pv 4) pa_nil))) pa_nil)) pa_nil))))), ?_⟩)
  · obtain ⟨p, S, xs, rs, nv, rv, rfl, _⟩ := h; rfl
  · obtain ⟨p, S, xs, rs, nv, rv, rfl, hA, ok, rn, rr, hask, q, x⟩ := h
    obtain ⟨rfl, t, u, rfl, ht, hu⟩ := ask7 hask
    have st := stepT2 (S := S) (t := t) (u := u) (cc := [[7], natRow t, natRow u]) Vbcjai.Call.alike rfl _ rfl
    rw [st] at q x
    refine st_seq (st_two_read hA rr ht hu (fun m hm => x m (by rw [hm])) fun hno y z H1 e1 r1 r2 => ?_)
    rw [hno] at q
    dsimp only at q
    dsimp only
    rw [beq_dec] at q
    exact st_ret (er_bits (er_call (t.map (turnAt S.n), u.map (turnAt S.n)) (ea2 (er_vN r1 rfl) (er_vN r2 rfl)) (by rw [List.length_map, List.length_map]; omega))) fun v H2 e2 r3 => q _ v H2 rfl (.of (e1.trans e2)) (hA.mono (e1.trans e2)) r3
abbrev s_do_commute : Stmt := (top 97)
abbrev N_do_commute : List Str := ["hand", "numbers", "rows", "one", "other"]
theorem sc_do_commute : FnScope ["hand", "numbers", "rows", "one", "other"] ["hand", "numbers", "rows"] (defScope s_do_commute) := ⟨rfl, rfl, rfl, by decide +kernel, rfl, by decide +kernel, by decide +kernel⟩
theorem b_do_commute : BindsP "do_commute" "do_commute" s_do_commute ["hand", "numbers", "rows"] := fun _ _ _ _ _ _ us hl => match us, hl with | [_, _, _], _ => rfl
theorem ok_do_commute (T : Txt K mg c) : Ok P w K mg base (L2.CX P w) 6 "do_commute" ["hand", "numbers", "rows"] (spDeed c 9) := by
  refine T.do_commute.okX sc_do_commute b_do_commute (fun vs H Q E h => ?_) (fun f cdv A outer s H vs Q E hr h => ⟨_, (pss_cons (ps_asg (pcall (ok_two_read T) (hr.mono (by decide)) rfl (passes_call (takes_of rfl rfl rfl rfl) (fun _ _ _ _ z => z)) (pa_cons (pv 0) (pa_cons (pv 2) pa_nil))) (pg_tupK (K := K) (n := 2) rfl rfl (pgs_cons (pg_name (i := 3) sc_do_commute.nd rfl (.inl rfl)) (pgs_cons (pg_name (i := 4) sc_do_commute.nd rfl (.inl rfl)) pgs_nil))))
      (pss_one (ps_ret (pe_lst (pa_cons (pe_callTy call_int1 (by rfl) T.int boot_int (pa_cons (pcall (ok_are_the_same T) (hr.mono (by decide)) rfl pass0 (pa_cons (pe_op op_cat (pv 3) (pv 4)) (pa_cons (pe_op op_cat (pv 4) (pv 3)) pa_nil))) pa_nil)) pa_nil))))), ?_⟩)
  · obtain ⟨p, S, xs, rs, nv, rv, rfl, _⟩ := h; rfl
  · obtain ⟨p, S, xs, rs, nv, rv, rfl, hA, ok, rn, rr, hask, q, x⟩ := h
    obtain ⟨rfl, t, u, rfl, ht, hu⟩ := ask9 hask
    have st := stepT2 (S := S) (t := t) (u := u) (cc := [[9], natRow t, natRow u]) Vbcjai.Call.commute rfl _ rfl
    rw [st] at q x
    refine st_seq (st_two_read hA rr ht hu (fun m hm => x m (by rw [hm])) fun hno y z H1 e1 r1 r2 => ?_)
    rw [hno] at q
    dsimp only at q
    dsimp only
    rw [beq_dec] at q
    have lt : (t.map (turnAt S.n)).length ≤ 2100 := by rw [List.length_map]; exact ht
    have lu : (u.map (turnAt S.n)).length ≤ 2100 := by rw [List.length_map]; exact hu
    generalize t.map (turnAt S.n) = w1 at *
    generalize u.map (turnAt S.n) = w2 at *
    exact st_ret (er_bits (er_call (w1 ++ w2, w2 ++ w1) (ea2 (er_catN (er_vN r1 rfl) (er_vN r2 rfl) (by omega)) (er_catN (er_vN r2 rfl) (er_vN r1 rfl) (by omega))) (by rw [List.length_append, List.length_append]; omega))) fun v H2 e2 r3 => q _ v H2 rfl (.of (e1.trans e2)) (hA.mono (e1.trans e2)) r3
abbrev s_do_join : Stmt := (top 98)
abbrev N_do_join : List Str := ["hand", "numbers", "rows", "one", "other"]
theorem sc_do_join : FnScope ["hand", "numbers", "rows", "one", "other"] ["hand", "numbers", "rows"] (defScope s_do_join) := ⟨rfl, rfl, rfl, by decide +kernel, rfl, by decide +kernel, by decide +kernel⟩
theorem b_do_join : BindsP "do_join" "do_join" s_do_join ["hand", "numbers", "rows"] := fun _ _ _ _ _ _ us hl => match us, hl with | [_, _, _], _ => rfl
theorem ok_do_join (T : Txt K mg c) : Ok P w K mg base (L2.CX P w) 6 "do_join" ["hand", "numbers", "rows"] (spDeed c 10) := by
  refine T.do_join.okX sc_do_join b_do_join (fun vs H Q E h => ?_) (fun f cdv A outer s H vs Q E hr h => ⟨_, (pss_cons (ps_asg (pcall (ok_two_read T) (hr.mono (by decide)) rfl (passes_call (takes_of rfl rfl rfl rfl) (fun _ _ _ _ z => z)) (pa_cons (pv 0) (pa_cons (pv 2) pa_nil))) (pg_tupK (K := K) (n := 2) rfl rfl (pgs_cons (pg_name (i := 3) sc_do_join.nd rfl (.inl rfl)) (pgs_cons (pg_name (i := 4) sc_do_join.nd rfl (.inl rfl)) pgs_nil))))
      (pss_one (ps_ret (pcall (ok_letters_of T) (hr.mono (by decide)) rfl pass0 (pa_cons (pcall (ok_pulled_taut T) (hr.mono (by decide)) rfl pass0 (pa_cons (pe_op op_cat (pv 3) (pv 4)) pa_nil)) pa_nil))))), ?_⟩)
  · obtain ⟨p, S, xs, rs, nv, rv, rfl, _⟩ := h; rfl
  · obtain ⟨p, S, xs, rs, nv, rv, rfl, hA, ok, rn, rr, hask, q, x⟩ := h
    obtain ⟨rfl, t, u, rfl, ht, hu⟩ := ask10 hask
    have st := stepT2 (S := S) (t := t) (u := u) (cc := [[10], natRow t, natRow u]) Vbcjai.Call.join rfl _ rfl
    rw [st] at q x
    refine st_seq (st_two_read hA rr ht hu (fun m hm => x m (by rw [hm])) fun hno y z H1 e1 r1 r2 => ?_)
    rw [hno] at q
    dsimp only at q
    dsimp only
    have lt : (t.map (turnAt S.n)).length ≤ 2100 := by rw [List.length_map]; exact ht
    have lu : (u.map (turnAt S.n)).length ≤ 2100 := by rw [List.length_map]; exact hu
    generalize t.map (turnAt S.n) = w1 at *
    generalize u.map (turnAt S.n) = w2 at *
    have tl := taut_length (w1 ++ w2)
    have al : (w1 ++ w2).length = w1.length + w2.length := List.length_append
    exact st_ret (er_call (Vbcjai.taut (w1 ++ w2)) (ea1 (er_call (w1 ++ w2) (ea1 (er_catN (er_vN r1 rfl) (er_vN r2 rfl) (by omega))) (by omega))) (by omega)) fun v H2 e2 r3 => q _ v H2 rfl (.of (e1.trans e2)) (hA.mono (e1.trans e2)) (by rw [ints_iv]; exact r3)
end
end Fc
set_option maxRecDepth 100000
set_option maxHeartbeats 2000000
namespace Fc
open PySem PySem.Spec PyProof.Rows L2
theorem ofCords_is {S : Vbcjai.State} (hn : S.n ≤ 6) (t : List Nat) (g : List Vbcjai.Cord → Vbcjai.State × Vbcjai.Ans) : (if Vbcjai.CORD < t.length then (S, [-8]) else (match Vbcjai.readCords S.n t with
    | .error p => (S, [-1000 - Int.ofNat p])
    | .ok l => g l)) = match readNo S.n [59] t with
    | some m => (S, [m])
    | none => g (t.foldl (pieceStep S.n) [[]]) := by
  unfold readNo
  by_cases h : 2000 < t.length
  · rw [if_pos (show Vbcjai.CORD < t.length from h), if_pos h]
  · rw [if_neg (show ¬ Vbcjai.CORD < t.length from h), if_neg h, readCords_is hn, pieces]
    cases faultAt S.n [59] t with
    | none => rfl
    | some k => rfl
theorem cords_lt {n : Nat} {t : List Nat} (h : readNo n [59] t = none) : ∀ w ∈ t.foldl (pieceStep n) [[]], ∀ x ∈ w, x < 2 * n := by
  unfold readNo at h
  by_cases c : 2000 < t.length
  · rw [if_pos c] at h; cases h
  · rw [if_neg c] at h
    rw [pieces]
    refine pieces_lt ?_
    cases e : faultAt n [59] t with
    | none => rfl
    | some k => rw [e] at h; cases h
theorem cords_len (n : Nat) (t : List Nat) : (t.foldl (pieceStep n) [[]]).length ≤ t.length + 1 := by
  rw [pieces, List.length_map]
  have := parted_size 59 t
  omega
theorem full_same {T : List Tri} {n : Nat} {N N' : List Nat} (h : KnotsOf T N) (h' : KnotsOf T N') : fullT T n N = fullT T n N' := by
  have k : ∀ {A B : List Nat}, KnotsOf T A → KnotsOf T B → fullT T n A = true → fullT T n B = true := fun hA hB q => by
    unfold fullT at q ⊢
    rw [List.all_eq_true] at q ⊢
    exact fun u hu => q u ((hA.mem u).mpr ((hB.mem u).mp hu))
  cases e : fullT T n N with
  | true => rw [k h h' e]
  | false =>
    cases e' : fullT T n N' with
    | false => rfl
    | true => rw [k h' h e'] at e; cases e
section
variable {K : PySem.W.Frag} {σ : L2.St} {H H' : Hp} {ta tb te tc tl ty tv t1 t2 t3 tp : TE} {tr : TA} {t u : TT} {x y z v : V} {R Ra Rb : Rel} {D : Ends} {tu tw : TS} {w : List Nat} {C p rC : Addr} {S : Vbcjai.State} {E : XK} {m : Int}
theorem er_srcC {sp : Sp} {R' : Rel} (h : ER te σ H R) (k : ∀ v H1, Ex H H1 → R v H1 → ER (tCall sp [] E (tCons (tC v) tr)) σ H1 R') : ER (tCall sp [] E (tCons te tr)) σ H R' := fun H0 e Q q =>
  h H0 e _ fun v H1 e1 r => k v H1 (e.trans e1) r H1 Ex.rfl Q fun w H2 e2 r2 => q w H2 (e1.trans e2) r2
theorem st_retC {sp : Sp} (h : ER te σ H R) (k : ∀ v H1, Ex H H1 → R v H1 → tRet (tCall sp [] E (tCons (tC v) tr)) D σ H1) : tRet (tCall sp [] E (tCons te tr)) D σ H := h H Ex.rfl _ fun v H1 e r => k v H1 e r
theorem er_graph {ok : List (List Nat) → Prop} (hA : HandAt C H p S) (cl : Cls K C) (na : NoAttr K C "moves") (h0 : σ[0]? = some (some (.ref p))) (hk : ok S.moves) : ER (tCall (spF (fun ws : List (List Nat) => [Cords ws]) ok (fun ws => GraphR ws)) [] E (tCons (tFld K (tVar 0) "moves") tNil)) σ H (GraphR S.moves) :=
  er_call S.moves (ea1 (er_moves hA (er_ref h0) cl na)) hk
theorem er_I0eq {G : List Tri} {N : List Nat} (h : ER te σ H (fun v _ => ∃ N, KnotsOf G N ∧ N.length ≤ 2 * G.length + 1 ∧ v = .int (N.length : Nat))) (kN : KnotsOf G N) : ER (tOp rEq te (tC (.int 1))) σ H (IsB (decide (N.length = 1))) :=
  er_eqN (b := 1) (h.imp fun v H1 e ⟨N2, kN2, _, ev⟩ => show v = _ by rw [ev, knots_same kN2 kN]) er_c
theorem fin_basis {D : Ends} {tv : V} {i : Nat} (l : List Nat) (r : IsN l tv H) (k : ∀ v H1, Ex H H1 → IsN (l.drop 1) v H1 → D.rt v H1) (h3 : σ[i]? = some (some tv) := by rfl) : tRet (tSl (rSlL K) (tVar i) (tPart (tC (.int 1))) tNoPart) D σ H := by
  refine st_ret (er_to (er_sl (lo := some ((1 : Nat) : Int)) (hi := none) (er_vN r h3) (eo_some er_c) eo_none) ?_) k
  unfold cutV
  rw [HT.sIx_nat, HT.sIx_none, iv_len]
  cases l with
  | nil => rfl
  | cons a l =>
    show IsL _ = IsL (iv l)
    rw [Nat.min_eq_left (by simp)]
    show IsL (((iv l)).take _) = _
    rw [List.take_of_length_le (by rw [iv_len]; simp)]
/-- hand.moves = cords, hand.exchange = cords -/
theorem hand_moves {l : List (List Nat)} {dx a b : Addr} {y : V} (hp : H p = some (.ins C dx (hf S.n a b))) (ra : Cords S.moves (.ref a) H) (rb : Cords S.swap (.ref b) H) (ry : Cords l y H) :
    ExB [p] H (upd H p (.ins C dx (putF "moves" y (hf S.n a b)))) ∧ HandAt C (upd H p (.ins C dx (putF "moves" y (hf S.n a b)))) p { S with moves := l } ∧ Cords l y (upd H p (.ins C dx (putF "moves" y (hf S.n a b)))) := by
  have bx : ExB [p] H (upd H p (.ins C dx (putF "moves" y (hf S.n a b)))) := .upd (by simp)
  have ry' := cords_exB hp bx ry
  refine ⟨bx, ?_, ry'⟩
  obtain ⟨q, xs, rfl, _⟩ := id ry'
  exact ⟨dx, q, b, by rw [upd_same, hf_m], ry', cords_exB hp bx rb⟩
theorem hand_exch {l : List (List Nat)} {dx a b : Addr} {y : V} (hp : H p = some (.ins C dx (hf S.n a b))) (ra : Cords S.moves (.ref a) H) (rb : Cords S.swap (.ref b) H) (ry : Cords l y H) :
    ExB [p] H (upd H p (.ins C dx (putF "exchange" y (hf S.n a b)))) ∧ HandAt C (upd H p (.ins C dx (putF "exchange" y (hf S.n a b)))) p { S with swap := l } := by
  have bx : ExB [p] H (upd H p (.ins C dx (putF "exchange" y (hf S.n a b)))) := .upd (by simp)
  have ry' := cords_exB hp bx ry
  refine ⟨bx, ?_⟩
  obtain ⟨q, xs, rfl, _⟩ := id ry'
  exact ⟨dx, a, q, by rw [upd_same, hf_e], cords_exB hp bx ra, ry'⟩
/-- cords = cords_read(rows[0], hand.fingers) -/
theorem st_cords {t : List Nat} {nv rv : V} {j : Nat} (hA : HandAt C H p S) (cl : Cls K C) (na : NoAttr K C "fingers") (rr : LstOf RowR [natRow t] rv H) (ht : t.length ≤ 2100) (x : ∀ m, readNo S.n [59] t = some m → Refs rC H E m) (h0 : σ[0]? = some (some (.ref p))) (h2 : σ[2]? = some (some rv))
    (k : readNo S.n [59] t = none → ∀ y H1, Ex H H1 → Cords (t.foldl (pieceStep S.n) [[]]) y H1 → D.nx (σ.set j (some y)) H1) :
    tAsg (tCall (spX rC (fun p : List Nat × Nat => [IsN p.1, IsI (p.2 : Int)]) (fun p => p.1.length ≤ 1000000) (fun p => readNo p.2 [59] p.1) (fun p => Cords (p.1.foldl (pieceStep p.2) [[]]))) [] E (tCons (tOp (rIxL K) (tVar 2) (tC (.int 0))) (tCons (tFld K (tVar 0) "fingers") tNil))) (gName j) D σ H :=
  st_asg (er_callX (t, S.n) (ea2 (er_row0 rr h2) (er_fing hA (er_ref h0) cl na)) (show t.length ≤ 1000000 by omega) x) fun v H1 e1 ⟨n1, r⟩ => k n1 v H1 e1 r
/-- cord = cord_read(rows[0], hand.fingers) -/
theorem st_cord {t : List Nat} {nv rv : V} {j : Nat} (hA : HandAt C H p S) (cl : Cls K C) (na : NoAttr K C "fingers") (rr : LstOf RowR [natRow t] rv H) (ht : t.length ≤ 2100) (x : ∀ m, readNo S.n [] t = some m → Refs rC H E m) (h0 : σ[0]? = some (some (.ref p))) (h2 : σ[2]? = some (some rv))
    (k : readNo S.n [] t = none → ∀ y H1, Ex H H1 → IsN (t.map (turnAt S.n)) y H1 → D.nx (σ.set j (some y)) H1) :
    tAsg (tCall (spX rC (fun p : List Nat × Nat => [IsN p.1, IsI (p.2 : Int)]) (fun p => p.1.length ≤ 1000000) (fun p => readNo p.2 [] p.1) (fun p => IsN (p.1.map (turnAt p.2)))) [] E (tCons (tOp (rIxL K) (tVar 2) (tC (.int 0))) (tCons (tFld K (tVar 0) "fingers") tNil))) (gName j) D σ H :=
  st_asg (er_callX (t, S.n) (ea2 (er_row0 rr h2) (er_fing hA (er_ref h0) cl na)) (show t.length ≤ 1000000 by omega) x) fun v H1 e1 ⟨n1, r⟩ => k n1 v H1 e1 r
end
theorem moves_both {S : Vbcjai.State} (ok : SOk S) {T : List Tri} (h : Folded (loopsT S.moves) T) : ∃ P Q K, Both S.n (Vbcjai.graphOf S.n S.moves) T P Q K := both_of ok.mi h
theorem swap_both {S : Vbcjai.State} (ok : SOk S) {T : List Tri} (h : Folded (loopsT S.swap) T) : ∃ P Q K, Both S.n (Vbcjai.graphOf S.n S.swap) T P Q K := both_of ok.si h
theorem walkTurn_len {stp : Nat → Nat → Option Nat} {z : Nat × List Nat} {W : Ways} (hz : z ∈ W) (h : ∀ y ∈ W, y.2.length ≤ W.length) (x : Nat) : ∀ y ∈ walkTurn stp z W x, y.2.length ≤ (walkTurn stp z W x).length := by
  cases e : stp z.1 x with
  | none => rw [walkTurn_none e]; exact h
  | some v =>
    rw [walkTurn_some e]
    split
    · exact h
    · intro y hy
      rw [List.length_append]
      rw [List.mem_append, List.mem_singleton] at hy
      rcases hy with hy | rfl
      · have := h y hy; omega
      · rw [List.length_append]
        have := h z hz
        simp
        exact this
theorem walk_len (stp : Nat → Nat → Option Nat) (n : Nat) : ∀ m, ∀ y ∈ walkTo stp n m, y.2.length ≤ (walkTo stp n m).length
  | 0 => fun y hy => by
    have e : y = (0, []) := by simpa [walkTo] using hy
    rw [e]; exact Nat.zero_le _
  | m + 1 => by
    have ih := walk_len stp n m
    rw [walkTo_succ]
    unfold walkKnot
    cases e : (walkTo stp n m)[m]? with
    | none => exact ih
    | some z =>
      dsimp only
      have hz := List.mem_of_getElem? e
      generalize walkTo stp n m = W at ih hz
      clear e
      have k : ∀ (l : List Nat) (W : Ways), z ∈ W → (∀ y ∈ W, y.2.length ≤ W.length) → ∀ y ∈ l.foldl (walkTurn stp z) W, y.2.length ≤ (l.foldl (walkTurn stp z) W).length := by
        intro l
        induction l with
        | nil => intro W _ h; exact h
        | cons x l ihl =>
          intro W hz h
          rw [List.foldl_cons]
          refine ihl _ ?_ (walkTurn_len hz h x)
          obtain ⟨r, e⟩ := turn_grows stp z W x
          rw [e]
          exact List.mem_append_left _ hz
      exact k _ W hz ih
theorem wayT_len {W : Ways} {m : Nat} (h : ∀ y ∈ W, y.2.length ≤ m) (u : Nat) : (wayT W u).length ≤ m := by
  unfold wayT
  cases e : W.find? fun z => z.1 == u with
  | none => exact Nat.zero_le _
  | some z => exact h z (List.mem_of_find?_eq_some e)
theorem basis_len {T : List Tri} {W : Ways} {F : List (Nat × Nat)} {m : Nat} (h : ∀ y ∈ W, y.2.length ≤ m) : ∀ w ∈ basisT T W F, w.length ≤ 2 * m + 1 := by
  intro w hw
  unfold basisT at hw
  obtain ⟨z, _, rfl⟩ := List.mem_map.mp hw
  refine Nat.le_trans (taut_length _) ?_
  have h1 := wayT_len h z.1
  have h2 := wayT_len h ((stepT T z.1 (2 * z.2)).getD 0)
  unfold Vbcjai.back
  rw [List.length_append, List.length_append, List.length_map, List.length_reverse]
  simp
  omega
theorem dedup_ex (l : List Nat) : ∃ N : List Nat, N.Nodup ∧ ∀ u, u ∈ N ↔ u ∈ l := by
  induction l with
  | nil => exact ⟨[], List.nodup_nil, fun _ => Iff.rfl⟩
  | cons a l ih =>
    obtain ⟨N, nd, h⟩ := ih
    by_cases m : a ∈ N
    · refine ⟨N, nd, fun u => ?_⟩
      rw [h, List.mem_cons]
      exact ⟨.inr, fun z => z.elim (fun e => by rw [e]; exact (h a).mp m) id⟩
    · exact ⟨a :: N, List.nodup_cons.mpr ⟨m, nd⟩, fun u => by rw [List.mem_cons, List.mem_cons, h]⟩
theorem knots_ex (T : List Tri) : ∃ N, KnotsOf T N := by
  obtain ⟨N, nd, h⟩ := dedup_ex (0 :: (T.map (·.1) ++ T.map (·.2.2)))
  refine ⟨N, nd, fun u => ?_⟩
  rw [h, List.mem_cons, List.mem_append, List.mem_map, List.mem_map]
  constructor
  · rintro (e | ⟨⟨a, f, b⟩, m, rfl⟩ | ⟨⟨a, f, b⟩, m, rfl⟩)
    · exact .inl e
    · exact .inr ⟨f, b, .inl m⟩
    · exact .inr ⟨f, a, .inr m⟩
  · rintro (e | ⟨f, v, m | m⟩)
    · exact .inl e
    · exact .inr (.inl ⟨_, m, rfl⟩)
    · exact .inr (.inr ⟨_, m, rfl⟩)
theorem plural_is : ∀ l : List (List Nat), Vbcjai.plural l = (l.flatMap fun w => 59 :: Vbcjai.written w).drop 1
  | [] => rfl
  | [w] => by simp [Vbcjai.plural]
  | w :: v :: r => by
    have ih := plural_is (v :: r)
    show Vbcjai.written w ++ 59 :: Vbcjai.plural (v :: r) = _
    rw [ih]
    simp
theorem often_len {s : List (List Nat)} : ∀ {k : Nat} {w u : List Nat}, Vbcjai.swappedOften s k w = some u → u.length ≤ max 2000 w.length
  | 0, w, u, h => by
    have e : w = u := Option.some.inj h
    rw [e]
    omega
  | k + 1, w, u, h => by
    rw [often_succ] at h
    by_cases c : 2000 < (Vbcjai.swapped s w).length
    · rw [if_pos c] at h; cases h
    · rw [if_neg c] at h
      have := often_len h
      omega
section
variable {P : Program} {w : World} {K : PySem.W.Frag} {mg : Str → Option Value} {base : Heap} {c : Cl3}
abbrev s_do_moves : Stmt := (top 99)
abbrev N_do_moves : List Str := ["hand", "numbers", "rows", "cords"]
theorem sc_do_moves : FnScope ["hand", "numbers", "rows", "cords"] ["hand", "numbers", "rows"] (defScope s_do_moves) := ⟨rfl, rfl, rfl, by decide +kernel, rfl, by decide +kernel, by decide +kernel⟩
theorem b_do_moves : BindsP "do_moves" "do_moves" s_do_moves ["hand", "numbers", "rows"] := fun _ _ _ _ _ _ us hl => match us, hl with | [_, _, _], _ => rfl
theorem ok_do_moves (T : Txt K mg c) : Ok P w K mg base (L2.CX P w) 5 "do_moves" ["hand", "numbers", "rows"] (spDeed c 11) := by
  refine T.do_moves.okX sc_do_moves b_do_moves (fun vs H Q E h => ?_) (fun f cdv A outer s H vs Q E hr h => ⟨_, (pss_cons (ps_set (i := 3) sc_do_moves.nd rfl (.inl rfl) (pcall (ok_cords_read T) (hr.mono (by decide)) rfl (passes_call (takes_of rfl rfl rfl rfl) (fun _ _ _ _ z => z)) (pa_cons (pe_ix (r := rIxL K) ix_list (pv 2) pe_int (fun _ _ => rfl)) (pa_cons (pe_fld (pv 0) rfl) pa_nil))))
      (pss_cons (ps_if (PW.pt (pw_or (pt_cmpR op_gt (pe_callB (r := Evl.rLenS K) call_len_seq (by rfl) T.len PySem.boot_len (pa_cons (pv 3) pa_nil)) (pconst T.MOST_MOVES rfl) (nomark _)) (pw_or1 (pt_cmpR op_gt (pcall (ok_turns_together T) (hr.mono (by decide)) rfl pass0 (pa_cons (pv 3) pa_nil)) (pconst T.MOST_TOLD rfl) (nomark _))))) (pss_one (praise T hr (takes_of rfl rfl rfl rfl) (pa_cons (pconst T.TOO_MANY rfl) pa_nil))) pss_nil)
      (pss_cons (ps_fld (pv 0) (pv 3) rfl)
      (pss_one (ps_ret (pe_lst (pa_cons (pe_callB (r := Evl.rLenS K) call_len_seq (by rfl) T.len PySem.boot_len (pa_cons (pv 3) pa_nil)) pa_nil))))))), ?_⟩)
  · obtain ⟨p, S, xs, rs, nv, rv, rfl, _⟩ := h; rfl
  · obtain ⟨p, S, xs, rs, nv, rv, rfl, hA, ok, rn, rr, hask, q, x⟩ := h
    obtain ⟨rfl, t, rfl, ht⟩ := ask11 hask
    have st : VbcjaiNeutral.step S [[11], natRow t] = _ := (show VbcjaiNeutral.step S [[11], natRow t] = Vbcjai.step S (.moves (VbcjaiNeutral.nats (natRow t))) from rfl).trans ((congrArg (fun z => Vbcjai.step S (.moves z)) (nats_of t)).trans (ofCords_is ok.n6 t _))
    rw [st] at q x
    refine st_seq (st_cords (nv := nv) hA T.Hand.cl T.hF rr ht (fun m hm => x m (by rw [hm])) rfl rfl fun hno y H1 e1 ry => ?_)
    rw [hno] at q x
    dsimp only at q x
    have cl := cords_len S.n t
    generalize t.foldl (pieceStep S.n) [[]] = l at ry cl q x
    dsimp only
    refine st_seq (st_if (b := decide (6 < l.length) || decide (100 < total l)) (Evl.et_or (et_is (et_test (er_I0 (er_lenR (er_var (R := Cords l) ry rfl)) er_c)) ?_) fun _ => et_is (et_test (er_I0 (er_call l (ea1 (er_var (R := Cords l) ry rfl)) (by omega)) er_c)) ?_) (fun hb H2 e2 => ?_) fun hb H2 e2 => ?_)
    · exact decide_eq_decide.mpr (by omega)
    · exact decide_eq_decide.mpr (by omega)
    · rw [Bool.or_eq_true, decide_eq_true_iff, decide_eq_true_iff] at hb
      exact st_raise er_c ((x (-4) (if_pos hb)).mono (e1.trans e2))
    · rw [Bool.or_eq_false_iff, decide_eq_false_iff_not, decide_eq_false_iff_not] at hb
      rw [if_neg (show ¬ (Vbcjai.MOVES < l.length ∨ Vbcjai.TOGETHER < (l.map List.length).foldr (fun a b => a + b) 0) from fun z => z.elim hb.1 hb.2)] at q
      unfold tNext
      dsimp only
      obtain ⟨dx, a, b, hp, ra, rb⟩ := hA.mono (e1.trans e2)
      refine st_seq (st_fldR (R := Cords l) (er_var (R := Cords l) (rmono (Cords l) e2 ry) rfl) (er_ref rfl) hp T.Hand.cl T.hM (show 3 < 1000 by decide) fun z H3 e3 rz => ?_)
      obtain ⟨bx, hA3, rz3⟩ := hand_moves (S := S) (l := l) (e3 _ _ hp) (rmono (Cords S.moves) e3 ra) (rmono (Cords S.swap) e3 rb) rz
      have ry3 := cords_exB (e3 _ _ hp) bx (rmono (Cords l) (e2.trans e3) ry)
      dsimp only
      exact st_ret (er_lst (xs := [.int (l.length : Nat)]) (ea1 (er_lenR (er_var (R := Cords l) ry3 rfl))) (show 1 ≤ 1000 by decide)) fun v H4 e4 r4 => q _ v H4 rfl (((ExB.of ((e1.trans e2).trans e3)).trans bx).more e4) (hA3.mono e4) r4
abbrev s_do_exchange : Stmt := (top 104)
abbrev N_do_exchange : List Str := ["hand", "numbers", "rows", "cords"]
theorem sc_do_exchange : FnScope ["hand", "numbers", "rows", "cords"] ["hand", "numbers", "rows"] (defScope s_do_exchange) := ⟨rfl, rfl, rfl, by decide +kernel, rfl, by decide +kernel, by decide +kernel⟩
theorem b_do_exchange : BindsP "do_exchange" "do_exchange" s_do_exchange ["hand", "numbers", "rows"] := fun _ _ _ _ _ _ us hl => match us, hl with | [_, _, _], _ => rfl
theorem ok_do_exchange (T : Txt K mg c) : Ok P w K mg base (L2.CX P w) 5 "do_exchange" ["hand", "numbers", "rows"] (spDeed c 16) := by
  refine T.do_exchange.okX sc_do_exchange b_do_exchange (fun vs H Q E h => ?_) (fun f cdv A outer s H vs Q E hr h => ⟨_, (pss_cons (ps_set (i := 3) sc_do_exchange.nd rfl (.inl rfl) (pcall (ok_cords_read T) (hr.mono (by decide)) rfl (passes_call (takes_of rfl rfl rfl rfl) (fun _ _ _ _ z => z)) (pa_cons (pe_ix (r := rIxL K) ix_list (pv 2) pe_int (fun _ _ => rfl)) (pa_cons (pe_fld (pv 0) rfl) pa_nil))))
      (pss_cons (ps_if (PW.pt (pw_or (pt_cmpR op_ne (pe_callB (r := Evl.rLenS K) call_len_seq (by rfl) T.len PySem.boot_len (pa_cons (pv 3) pa_nil)) (pe_fld (pv 0) rfl) (nomark _)) (pw_or1 (pt_cmpR op_gt (pcall (ok_turns_together T) (hr.mono (by decide)) rfl pass0 (pa_cons (pv 3) pa_nil)) (pconst T.MOST_TOLD rfl) (nomark _))))) (pss_one (praise T hr (takes_of rfl rfl rfl rfl) (pa_cons (pconst T.TOO_MANY rfl) pa_nil))) pss_nil)
      (pss_cons (ps_fld (pv 0) (pv 3) rfl)
      (pss_one (ps_ret (pe_lst pa_nil)))))), ?_⟩)
  · obtain ⟨p, S, xs, rs, nv, rv, rfl, _⟩ := h; rfl
  · obtain ⟨p, S, xs, rs, nv, rv, rfl, hA, ok, rn, rr, hask, q, x⟩ := h
    obtain ⟨rfl, t, rfl, ht⟩ := ask16 hask
    have st : VbcjaiNeutral.step S [[16], natRow t] = _ := (show VbcjaiNeutral.step S [[16], natRow t] = Vbcjai.step S (.exchange (VbcjaiNeutral.nats (natRow t))) from rfl).trans ((congrArg (fun z => Vbcjai.step S (.exchange z)) (nats_of t)).trans (ofCords_is ok.n6 t _))
    rw [st] at q x
    refine st_seq (st_cords (nv := nv) hA T.Hand.cl T.hF rr ht (fun m hm => x m (by rw [hm])) rfl rfl fun hno y H1 e1 ry => ?_)
    rw [hno] at q x
    dsimp only at q x
    have cl := cords_len S.n t
    generalize t.foldl (pieceStep S.n) [[]] = l at ry cl q x
    dsimp only
    refine st_seq (st_if (b := decide (l.length ≠ S.n) || decide (100 < total l)) (Evl.et_or (et_test (er_neN (er_lenR (er_var (R := Cords l) ry rfl)) (er_fing (hA.mono e1) (er_ref rfl) T.Hand.cl T.hF))) fun _ => et_is (et_test (er_I0 (er_call l (ea1 (er_var (R := Cords l) ry rfl)) (by omega)) er_c)) ?_) (fun hb H2 e2 => ?_) fun hb H2 e2 => ?_)
    · exact decide_eq_decide.mpr (by omega)
    · rw [Bool.or_eq_true, decide_eq_true_iff, decide_eq_true_iff] at hb
      exact st_raise er_c ((x (-4) (if_pos hb)).mono (e1.trans e2))
    · rw [Bool.or_eq_false_iff, decide_eq_false_iff_not, decide_eq_false_iff_not] at hb
      rw [if_neg (show ¬ (l.length ≠ S.n ∨ Vbcjai.TOGETHER < (l.map List.length).foldr (fun a b => a + b) 0) from fun z => z.elim hb.1 hb.2)] at q
      unfold tNext
      dsimp only
      obtain ⟨dx, a, b, hp, ra, rb⟩ := hA.mono (e1.trans e2)
      refine st_seq (st_fldR (R := Cords l) (er_var (R := Cords l) (rmono (Cords l) e2 ry) rfl) (er_ref rfl) hp T.Hand.cl T.hE (show 3 < 1000 by decide) fun z H3 e3 rz => ?_)
      obtain ⟨bx, hA3⟩ := hand_exch (S := S) (l := l) (e3 _ _ hp) (rmono (Cords S.moves) e3 ra) (rmono (Cords S.swap) e3 rb) rz
      dsimp only
      exact st_ret (er_lst (xs := []) ea_nil (show 0 ≤ 1000 by decide)) fun v H4 e4 r4 => q [] v H4 rfl (((ExB.of ((e1.trans e2).trans e3)).trans bx).more e4) (hA3.mono e4) r4
abbrev s_do_member : Stmt := (top 100)
abbrev N_do_member : List Str := ["hand", "numbers", "rows", "cord"]
theorem sc_do_member : FnScope ["hand", "numbers", "rows", "cord"] ["hand", "numbers", "rows"] (defScope s_do_member) := ⟨rfl, rfl, rfl, by decide +kernel, rfl, by decide +kernel, by decide +kernel⟩
theorem b_do_member : BindsP "do_member" "do_member" s_do_member ["hand", "numbers", "rows"] := fun _ _ _ _ _ _ us hl => match us, hl with | [_, _, _], _ => rfl
theorem ok_do_member (T : Txt K mg c) : Ok P w K mg base (L2.CX P w) 6 "do_member" ["hand", "numbers", "rows"] (spDeed c 12) := by
  refine T.do_member.okX sc_do_member b_do_member (fun vs H Q E h => ?_) (fun f cdv A outer s H vs Q E hr h => ⟨_, (pss_cons (ps_set (i := 3) sc_do_member.nd rfl (.inl rfl) (pcall (ok_cord_read T) (hr.mono (by decide)) rfl (passes_call (takes_of rfl rfl rfl rfl) (fun _ _ _ _ z => z)) (pa_cons (pe_ix (r := rIxL K) ix_list (pv 2) pe_int (fun _ _ => rfl)) (pa_cons (pe_fld (pv 0) rfl) pa_nil))))
      (pss_one (ps_ret (pe_lst (pa_cons (pe_callTy call_int1 (by rfl) T.int boot_int (pa_cons (pcall (ok_is_made T) (hr.mono (by decide)) rfl pass0 (pa_cons (pcall (ok_leads_of T) (hr.mono (by decide)) rfl pass0 (pa_cons (pcall (ok_graph_of T) (hr.mono (by decide)) rfl pass0 (pa_cons (pe_fld (pv 0) rfl) pa_nil)) pa_nil)) (pa_cons (pv 3) pa_nil))) pa_nil)) pa_nil))))), ?_⟩)
  · obtain ⟨p, S, xs, rs, nv, rv, rfl, _⟩ := h; rfl
  · obtain ⟨p, S, xs, rs, nv, rv, rfl, hA, ok, rn, rr, hask, q, x⟩ := h
    obtain ⟨rfl, t, rfl, ht⟩ := ask12 hask
    have st := stepT1 (S := S) (t := t) (cc := [[12], natRow t]) Vbcjai.Call.member rfl _ rfl
    rw [st] at q x
    have mt := ok.mt
    refine st_seq (st_cord (nv := nv) hA T.Hand.cl T.hF rr ht (fun m hm => x m (by rw [hm])) rfl rfl fun hno y H1 e1 ry => ?_)
    rw [hno] at q
    dsimp only at q
    have wl : (t.map (turnAt S.n)).length ≤ 1000000 := by rw [List.length_map]; omega
    generalize t.map (turnAt S.n) = ws at ry q wl
    dsimp only
    refine st_ret (er_bits (er_srcC (er_srcC (er_graph (hA.mono e1) T.Hand.cl T.hM rfl (show total S.moves ≤ 100000 by omega)) (R' := fun v H => ∃ G, Folded (loopsT S.moves) G ∧ LdR (stepT G) v H) fun v H2 e2 ⟨G, fo, nd, lG, rG⟩ => (er_call G (ea1 (er_cR (LstOf TriR G) rG)) ⟨fo.2, by omega⟩).imp fun v H3 e3 r3 => ⟨G, fo, r3⟩)
      fun v H2 e2 ⟨G, fo, rG⟩ => ?_)) fun v H3 e3 r3 => q _ v H3 rfl (.of (e1.trans e3)) (hA.mono (e1.trans e3)) r3
    obtain ⟨P1, Q1, K1, B⟩ := moves_both ok fo
    rw [B.made]
    exact er_call (stepT G, ws) (ea2 (er_cR (LdR (stepT G)) rG) (er_vN (rmono (IsN ws) e2 ry) rfl)) wl
abbrev s_do_write : Stmt := (top 103)
abbrev N_do_write : List Str := ["hand", "numbers", "rows", "cord"]
theorem sc_do_write : FnScope ["hand", "numbers", "rows", "cord"] ["hand", "numbers", "rows"] (defScope s_do_write) := ⟨rfl, rfl, rfl, by decide +kernel, rfl, by decide +kernel, by decide +kernel⟩
theorem b_do_write : BindsP "do_write" "do_write" s_do_write ["hand", "numbers", "rows"] := fun _ _ _ _ _ _ us hl => match us, hl with | [_, _, _], _ => rfl
theorem ok_do_write (T : Txt K mg c) : Ok P w K mg base (L2.CX P w) 7 "do_write" ["hand", "numbers", "rows"] (spDeed c 15) := by
  refine T.do_write.okX sc_do_write b_do_write (fun vs H Q E h => ?_) (fun f cdv A outer s H vs Q E hr h => ⟨_, (pss_cons (ps_set (i := 3) sc_do_write.nd rfl (.inl rfl) (pcall (ok_cord_read T) (hr.mono (by decide)) rfl (passes_call (takes_of rfl rfl rfl rfl) (fun _ _ _ _ z => z)) (pa_cons (pe_ix (r := rIxL K) ix_list (pv 2) pe_int (fun _ _ => rfl)) (pa_cons (pe_fld (pv 0) rfl) pa_nil))))
      (pss_one (ps_ret (pcall (ok_told_by_basis T) (hr.mono (by decide)) rfl (passes_call (takes_of rfl rfl rfl rfl) (fun _ _ _ _ z => z)) (pa_cons (pcall (ok_graph_of T) (hr.mono (by decide)) rfl pass0 (pa_cons (pe_fld (pv 0) rfl) pa_nil)) (pa_cons (pe_fld (pv 0) rfl) (pa_cons (pv 3) pa_nil))))))), ?_⟩)
  · obtain ⟨p, S, xs, rs, nv, rv, rfl, _⟩ := h; rfl
  · obtain ⟨p, S, xs, rs, nv, rv, rfl, hA, ok, rn, rr, hask, q, x⟩ := h
    obtain ⟨rfl, t, rfl, ht⟩ := ask15 hask
    have st := stepT1 (S := S) (t := t) (cc := [[15], natRow t]) Vbcjai.Call.write rfl _ rfl
    rw [st] at q x
    have mt := ok.mt
    refine st_seq (st_cord (nv := nv) hA T.Hand.cl T.hF rr ht (fun m hm => x m (by rw [hm])) rfl rfl fun hno y H1 e1 ry => ?_)
    rw [hno] at q x
    dsimp only at q x
    have wl : (t.map (turnAt S.n)).length ≤ 1000000 := by rw [List.length_map]; omega
    generalize t.map (turnAt S.n) = ws at ry q x wl
    dsimp only
    have hA1 := hA.mono e1
    refine st_retC (er_graph hA1 T.Hand.cl T.hM rfl (show total S.moves ≤ 100000 by omega)) fun gv H2 e2 ⟨G, fo, nd, lG, rG⟩ => ?_
    obtain ⟨P1, Q1, K1, B⟩ := moves_both ok fo
    have bth : Bth G S.n := ⟨_, _, _, _, B⟩
    rw [B.made] at q x
    have hA2 := hA1.mono e2
    have en := (ea_cons (er_cR (LstOf TriR G) rG) (ea2 (er_fing hA2 (er_ref rfl) T.Hand.cl T.hF) (er_vN (rmono (IsN ws) e2 ry) rfl)) : EA (tCons (tC gv) (tCons (tFld K (tVar 0) "fingers") (tCons (tVar 3) tNil))) [some (V.ref p), some nv, some rv, some y] H2 [LstOf TriR G, IsI (S.n : Int), IsN ws])
    by_cases ye : pathT (stepT G) 0 (Vbcjai.taut ws) = some 0
    · rw [if_neg (by rw [decide_eq_true ye]; exact fun z => nomatch z)] at q
      refine st_ret (er_callX' (G, S.n, ws) en ⟨bth, by dsimp only; omega, ok.n6, wl⟩ fun n hn => by dsimp only at hn; rw [if_pos ye] at hn; cases hn) fun v H3 e3 ⟨N, O, kN, hO, r3⟩ => ?_
      refine q _ v H3 rfl (.of ((e1.trans e2).trans e3)) (hA2.mono e3) ?_
      have z := B.tell (F := freeT G S.n O (walkTo (stepT G) S.n N.length)) (B.free kN hO) (Vbcjai.taut ws) 0 (.inl rfl)
      rw [B.ren.zero] at z
      rw [z]
      exact r3
    · rw [if_pos (by rw [decide_eq_false ye])] at x
      refine st_ret (R := fun _ _ => False) ((er_callX (G, S.n, ws) en ⟨bth, by dsimp only; omega, ok.n6, wl⟩ fun n hn => ?_).imp fun v H3 e3 r3 => ?_) fun _ _ _ r => False.elim r
      · dsimp only at hn
        rw [if_neg ye] at hn
        cases hn
        exact (x (-5) rfl).mono (e1.trans e2)
      · have := r3.1
        dsimp only at this
        rw [if_neg ye] at this
        cases this
abbrev s_do_size : Stmt := (top 101)
abbrev N_do_size : List Str := ["hand", "numbers", "rows", "threads", "knots"]
theorem sc_do_size : FnScope ["hand", "numbers", "rows", "threads", "knots"] ["hand", "numbers", "rows"] (defScope s_do_size) := ⟨rfl, rfl, rfl, by decide +kernel, rfl, by decide +kernel, by decide +kernel⟩
theorem b_do_size : BindsP "do_size" "do_size" s_do_size ["hand", "numbers", "rows"] := fun _ _ _ _ _ _ us hl => match us, hl with | [_, _, _], _ => rfl
theorem ok_do_size (T : Txt K mg c) : Ok P w K mg base (L2.CX P w) 6 "do_size" ["hand", "numbers", "rows"] (spDeed c 13) := by
  refine T.do_size.okX sc_do_size b_do_size (fun vs H Q E h => ?_) (fun f cdv A outer s H vs Q E hr h => ⟨_, (pss_cons (ps_set (i := 3) sc_do_size.nd rfl (.inl rfl) (pcall (ok_graph_of T) (hr.mono (by decide)) rfl pass0 (pa_cons (pe_fld (pv 0) rfl) pa_nil)))
      (pss_cons (ps_set (i := 4) sc_do_size.nd rfl (.inl rfl) (pe_callB (r := Evl.rLenS K) call_len_seq (by rfl) T.len PySem.boot_len (pa_cons (pcall (ok_knots_of T) (hr.mono (by decide)) rfl pass0 (pa_cons (pv 3) pa_nil)) pa_nil)))
      (pss_one (ps_ret (pe_lst (pa_cons (pe_callB (r := Evl.rLenS K) call_len_seq (by rfl) T.len PySem.boot_len (pa_cons (pcall (ok_free_threads T) (hr.mono (by decide)) rfl pass0 (pa_cons (pv 3) (pa_cons (pe_fld (pv 0) rfl) pa_nil))) pa_nil)) (pa_cons (pv 4) (pa_cons (pe_ifExp (pt_val (pcall (ok_is_full T) (hr.mono (by decide)) rfl pass0 (pa_cons (pv 3) (pa_cons (pe_fld (pv 0) rfl) pa_nil)))) (pv 4) pe_int) pa_nil)))))))), ?_⟩)
  · obtain ⟨p, S, xs, rs, nv, rv, rfl, _⟩ := h; rfl
  · obtain ⟨p, S, xs, rs, nv, rv, rfl, hA, ok, rn, rr, hask, q, x⟩ := h
    obtain ⟨rfl, rfl⟩ := ask13 hask
    have st : VbcjaiNeutral.step S [[13]] = (S, [0, Int.ofNat (Vbcjai.free S.n (Vbcjai.graphOf S.n S.moves)).length, Int.ofNat (Vbcjai.graphOf S.n S.moves).ways.length, Int.ofNat (Vbcjai.indexOf S.n (Vbcjai.graphOf S.n S.moves))]) := rfl
    rw [st] at q
    have mt := ok.mt
    refine st_seq (st_asg (er_graph hA T.Hand.cl T.hM rfl (show total S.moves ≤ 100000 by omega)) fun gv H1 e1 ⟨G, fo, nd, lG, rG⟩ => ?_)
    obtain ⟨P1, Q1, K1, B⟩ := moves_both ok fo
    have bth : Bth G S.n := ⟨_, _, _, _, B⟩
    dsimp only
    refine st_seq (st_asg (er_lenK (er_call G (ea1 (er_var (R := LstOf TriR G) rG rfl)) (show G.length ≤ 400000 by omega))) fun kv H2 e2 ⟨N, kN, lN, ek⟩ => ?_)
    subst ek
    dsimp only
    rw [B.count kN, B.index kN] at q
    have hA2 := hA.mono (e1.trans e2)
    have rG2 := rmono (LstOf TriR G) e2 rG
    refine st_ret (er_lst (xs := [.int ((Vbcjai.free S.n (Vbcjai.graphOf S.n S.moves)).length : Nat), .int (N.length : Nat), .int ((if fullT G S.n N = true then N.length else 0 : Nat) : Int)]) (ea_cons ?_ (ea2 (er_n N.length rfl) ?_)) (show 3 ≤ 1000 by decide)) fun v H3 e3 r3 => q _ v H3 rfl (.of ((e1.trans e2).trans e3)) (hA2.mono e3) r3
    · refine fun H3 e3 Q3 q3 => (er_call (G, S.n) (ea2 (er_var (R := LstOf TriR G) rG2 rfl) (er_fing hA2 (er_ref rfl) T.Hand.cl T.hF)) ⟨bth, by dsimp only; omega, ok.n6⟩) H3 e3 _ fun v H4 e4 ⟨N2, O, kN2, hO, pp, xs, ep, hp, pr⟩ => ⟨pp, xs, by rw [ep], .inl (.of hp), q3 _ H4 e4 ?_⟩
      have z := congrArg List.length (B.free kN2 hO)
      rw [List.length_map] at z
      have z2 := paired_len pr
      dsimp only at z2
      show V.int _ = V.int _
      rw [z, z2]
    · refine er_if (b := fullT G S.n N) (R := IsV (.int ((if fullT G S.n N = true then N.length else 0 : Nat) : Int))) (et_B ((er_call (G, S.n) (ea2 (er_var (R := LstOf TriR G) rG2 rfl) (er_fing hA2 (er_ref rfl) T.Hand.cl T.hF)) ⟨fo.2, by dsimp only; omega, by have := ok.n6; dsimp only; omega⟩).imp fun v H4 e4 ⟨N2, kN2, ev⟩ => ?_)) (fun hb => ?_) fun hb => ?_
      · show v = _
        rw [ev, full_same kN2 kN]
      · rw [if_pos hb]
        exact er_n N.length rfl
      · rw [if_neg (by rw [hb]; exact Bool.false_ne_true)]
        exact er_c
abbrev s_do_basis : Stmt := (top 102)
abbrev N_do_basis : List Str := ["hand", "numbers", "rows", "told", "cord"]
theorem sc_do_basis : FnScope ["hand", "numbers", "rows", "told", "cord"] ["hand", "numbers", "rows"] (defScope s_do_basis) := ⟨rfl, rfl, rfl, by decide +kernel, rfl, by decide +kernel, by decide +kernel⟩
theorem b_do_basis : BindsP "do_basis" "do_basis" s_do_basis ["hand", "numbers", "rows"] := fun _ _ _ _ _ _ us hl => match us, hl with | [_, _, _], _ => rfl
theorem ok_do_basis (T : Txt K mg c) : Ok P w K mg base (L2.CX P w) 7 "do_basis" ["hand", "numbers", "rows"] (spDeed c 14) := by
  refine T.do_basis.okX sc_do_basis b_do_basis (fun vs H Q E h => ?_) (fun f cdv A outer s H vs Q E hr h => ⟨_, (pss_cons (ps_set (i := 3) sc_do_basis.nd rfl (.inl rfl) (pe_lst pa_nil))
      (pss_cons (ps_for (passes_of rfl) rfl (pi_list (pcall (ok_basis_of T) (hr.mono (by decide)) rfl pass0 (pa_cons (pcall (ok_graph_of T) (hr.mono (by decide)) rfl pass0 (pa_cons (pe_fld (pv 0) rfl) pa_nil)) (pa_cons (pe_fld (pv 0) rfl) pa_nil)))) (pg_name (i := 4) sc_do_basis.nd rfl (.inl rfl)) (pss_one (ps_set (i := 3) sc_do_basis.nd rfl (.inl rfl) (pe_op op_cat (pe_op op_cat (pv 3) (pe_lst (pa_cons (pconst T.SEMICOLON rfl) pa_nil))) (pcall (ok_letters_of T) (hr.mono (by decide)) rfl pass0 (pa_cons (pv 4) pa_nil))))))
      (pss_one (ps_ret (pe_slice sl_list (pv 3) (po_some pe_int) po_none))))), ?_⟩)
  · obtain ⟨p, S, xs, rs, nv, rv, rfl, _⟩ := h; rfl
  · obtain ⟨p, S, xs, rs, nv, rv, rfl, hA, ok, rn, rr, hask, q, x⟩ := h
    obtain ⟨rfl, rfl⟩ := ask14 hask
    have st : VbcjaiNeutral.step S [[14]] = (S, 0 :: Vbcjai.ints (Vbcjai.plural (Vbcjai.basis S.n (Vbcjai.graphOf S.n S.moves)))) := rfl
    rw [st] at q
    have mt := ok.mt
    refine st_seq (st_asg er_nil fun tv H1 e1 rt => ?_)
    dsimp only
    have hA1 := hA.mono e1
    refine st_seq (st_src (R := fun v H => Cords (Vbcjai.basis S.n (Vbcjai.graphOf S.n S.moves)) v H ∧ (∀ w ∈ Vbcjai.basis S.n (Vbcjai.graphOf S.n S.moves), w.length ≤ 500) ∧ (Vbcjai.basis S.n (Vbcjai.graphOf S.n S.moves)).length ≤ 2000) (er_srcC (er_graph hA1 T.Hand.cl T.hM rfl (show total S.moves ≤ 100000 by omega)) fun v H2 e2 ⟨G, fo, nd, lG, rG⟩ => ?_) fun bv H2 e2 ⟨rb, hb1, hb2⟩ => ?_)
    · obtain ⟨P1, Q1, K1, B⟩ := moves_both ok fo
      have bth : Bth G S.n := ⟨_, _, _, _, B⟩
      refine (er_call (G, S.n) (ea2 (er_cR (LstOf TriR G) rG) (er_fing (hA1.mono e2) (er_ref rfl) T.Hand.cl T.hF)) ⟨bth, by dsimp only; omega, ok.n6⟩).imp fun v H3 e3 ⟨N, O, kN, hO, r3⟩ => ?_
      dsimp only at kN hO r3
      rw [B.basis kN hO]
      have wk := walk_ok (stepT G) S.n N.length
      have lw := wok_len wk fo.2 kN
      have lN := knots_few kN
      have fl := free_len (T := G) (n := S.n) (O := O) (walkTo (stepT G) S.n N.length)
      have fl2 : (walkTo (stepT G) S.n N.length).length * S.n ≤ 201 * 6 := Nat.mul_le_mul (by omega) ok.n6
      refine ⟨r3, fun w hw => ?_, ?_⟩
      · have := basis_len (walk_len (stepT G) S.n N.length) w hw
        omega
      · unfold basisT
        rw [List.length_map]
        change (freeT G S.n O (walkTo (stepT G) S.n N.length)).length ≤ _ at fl
        omega
    · generalize Vbcjai.basis S.n (Vbcjai.graphOf S.n S.moves) = bs at q rb hb1 hb2
      have fl : ∀ i, ((bs.take i).flatMap fun w => 59 :: Vbcjai.written w).length ≤ 501 * 2000 := by
        intro i
        have k : ∀ l : List (List Nat), (∀ w ∈ l, w.length ≤ 500) → (l.flatMap fun w => 59 :: Vbcjai.written w).length ≤ 501 * l.length := by
          intro l
          induction l with
          | nil => simp
          | cons a l ih =>
            intro h
            rw [List.flatMap_cons, List.length_append, List.length_cons, List.length_cons]
            have h1 := h a List.mem_cons_self
            have h2 := ih fun w hw => h w (List.mem_cons_of_mem _ hw)
            have h3 : (Vbcjai.written a).length = a.length := List.length_map _
            omega
        have z := k (bs.take i) fun w hw => hb1 w (List.mem_of_mem_take hw)
        rw [List.length_take] at z
        omega
      refine st_listX (S := fun w : List Nat => IsN w) (bs := bs) (er_cR (Cords bs) rb) (fun H3 i σ' H' => ∃ tv o, σ' = [some (.ref p), some nv, some rv, some tv, o] ∧ Ex H3 H' ∧ IsN ((bs.take i).flatMap fun w => 59 :: Vbcjai.written w) tv H')
        (fun H3 e3 => ⟨tv, _, rfl, Ex.rfl, rmono (IsN []) (e2.trans e3) rt⟩) (fun _ _ _ _ ⟨_, _, _, e, _⟩ => e) (fun H3 i b x σ' H' e3 hb hx hJ => ?_) fun H3 σ' H' e3 hJ => ?_
      · obtain ⟨tv, o, rfl, ex, rt⟩ := hJ
        have l1 := fl i
        have l2 := hb1 b (List.mem_of_getElem? hb)
        have l3 : (Vbcjai.written b).length = b.length := List.length_map _
        have tk : (bs.take (i + 1)).flatMap (fun w => 59 :: Vbcjai.written w) = ((bs.take i).flatMap fun w => 59 :: Vbcjai.written w) ++ [59] ++ Vbcjai.written b := by
          rw [List.take_add_one, hb, List.flatMap_append, List.append_assoc]
          congr 1
          show [b].flatMap _ = _
          rw [List.flatMap_cons, List.flatMap_nil, List.append_nil]
          rfl
        generalize ((bs.take i).flatMap fun w => 59 :: Vbcjai.written w) = acc at rt l1 tk
        refine st_asg (er_catN (er_catN (er_vN rt rfl) (er_oneN (n := 59) er_c) (by simp; omega)) (er_call b (ea1 (er_vN hx rfl)) (show b.length ≤ 1000000 by omega)) (by rw [List.length_append]; simp; omega)) fun v H4 e4 r4 => ⟨v, _, rfl, ex.trans e4, ?_⟩
        rw [tk]
        exact r4
      · obtain ⟨tv, o, rfl, ex, rt⟩ := hJ
        rw [List.take_length] at rt
        dsimp only
        rw [plural_is] at q
        refine fin_basis (bs.flatMap fun w => 59 :: Vbcjai.written w) rt fun v H4 e4 r4 => q _ v H4 rfl (.of ((((e1.trans e2).trans e3).trans ex).trans e4)) (hA1.mono (((e2.trans e3).trans ex).trans e4)) (by rw [ints_iv]; exact r4)
abbrev s_do_turn : Stmt := (top 105)
abbrev N_do_turn : List Str := ["hand", "numbers", "rows", "cord"]
theorem sc_do_turn : FnScope ["hand", "numbers", "rows", "cord"] ["hand", "numbers", "rows"] (defScope s_do_turn) := ⟨rfl, rfl, rfl, by decide +kernel, rfl, by decide +kernel, by decide +kernel⟩
theorem b_do_turn : BindsP "do_turn" "do_turn" s_do_turn ["hand", "numbers", "rows"] := fun _ _ _ _ _ _ us hl => match us, hl with | [_, _, _], _ => rfl
theorem ok_do_turn (T : Txt K mg c) : Ok P w K mg base (L2.CX P w) 6 "do_turn" ["hand", "numbers", "rows"] (spDeed c 17) := by
  refine T.do_turn.okX sc_do_turn b_do_turn (fun vs H Q E h => ?_) (fun f cdv A outer s H vs Q E hr h => ⟨_, (pss_cons (ps_if (pt_not (pt_chain op_le op_le pe_int (pe_ix (r := rIxL K) ix_list (pv 1) pe_int (fun _ _ => rfl)) (pconst T.MOST_TIMES rfl))) (pss_one (praise T hr (takes_of rfl rfl rfl rfl) (pa_cons (pconst T.OUT_OF_RANGE rfl) pa_nil))) pss_nil)
      (pss_cons (ps_set (i := 3) sc_do_turn.nd rfl (.inl rfl) (pcall (ok_cord_read T) (hr.mono (by decide)) rfl (passes_call (takes_of rfl rfl rfl rfl) (fun _ _ _ _ z => z)) (pa_cons (pe_ix (r := rIxL K) ix_list (pv 2) pe_int (fun _ _ => rfl)) (pa_cons (pe_fld (pv 0) rfl) pa_nil))))
      (pss_one (ps_ret (pcall (ok_letters_of T) (hr.mono (by decide)) rfl pass0 (pa_cons (pcall (ok_exchanged_often T) (hr.mono (by decide)) rfl (passes_call (takes_of rfl rfl rfl rfl) (fun _ _ _ _ z => z)) (pa_cons (pv 3) (pa_cons (pe_fld (pv 0) rfl) (pa_cons (pe_ix (r := rIxL K) ix_list (pv 1) pe_int (fun _ _ => rfl)) pa_nil)))) pa_nil)))))), ?_⟩)
  · obtain ⟨p, S, xs, rs, nv, rv, rfl, _⟩ := h; rfl
  · obtain ⟨p, S, xs, rs, nv, rv, rfl, hA, ok, rn, rr, hask, q, x⟩ := h
    obtain ⟨m, rfl, t, rfl, ht⟩ := ask17 hask
    have st : VbcjaiNeutral.step S [[17, m], natRow t] = if m < 0 ∨ 64 < m then (S, [-2]) else (match readNo S.n [] t with | some k => (S, [k]) | none => (match Vbcjai.swappedOften S.swap m.toNat (Vbcjai.taut (t.map (turnAt S.n))) with | none => (S, [-6]) | some u => (S, 0 :: Vbcjai.ints (Vbcjai.written u)))) := by
      show (if m < 0 ∨ 64 < m then (S, [-2]) else Vbcjai.ofCord S (VbcjaiNeutral.nats (natRow t)) fun w => (match Vbcjai.swappedOften S.swap m.toNat (Vbcjai.taut w) with | none => (S, [-6]) | some u => (S, 0 :: Vbcjai.ints (Vbcjai.written u)))) = _
      (rw [nats_of, ofCord_is]) <;> (cases readNo S.n [] t <;> rfl)
    rw [st] at q x
    refine st_seq (st_if (Evl.et_not (et_test (er_chain (i := 0) (j := m) (k := 64) er_c (er_num0 rn rfl) er_c rfl rfl))) (fun hb H1 e1 => ?_) fun hb H1 e1 => ?_)
    · have ne : m < 0 ∨ 64 < m := by
        by_cases h1 : (0 : Int) ≤ m
        · by_cases h2 : m ≤ 64
          · rw [decide_eq_true h1, decide_eq_true h2] at hb; cases hb
          · omega
        · omega
      exact st_raise er_c ((x (-2) (if_pos ne)).mono e1)
    · have ye : 0 ≤ m ∧ m ≤ 64 := by
        by_cases h1 : (0 : Int) ≤ m
        · by_cases h2 : m ≤ 64
          · exact ⟨h1, h2⟩
          · rw [decide_eq_false h2, Bool.and_false] at hb; cases hb
        · rw [decide_eq_false h1] at hb; cases hb
      rw [if_neg (by omega)] at q x
      obtain ⟨n, rfl⟩ : ∃ n : Nat, m = (n : Int) := ⟨m.toNat, by omega⟩
      rw [Int.toNat_natCast] at q x
      unfold tNext
      dsimp only
      have hA1 := hA.mono e1
      refine st_seq (st_cord (nv := nv) hA1 T.Hand.cl T.hF (rmono (LstOf RowR [natRow t]) e1 rr) ht (fun m hm => (x m (by rw [hm])).mono e1) rfl rfl fun hno y H2 e2 ry => ?_)
      rw [hno] at q x
      dsimp only at q x
      obtain ⟨tl, lt⟩ := cord_lt hno
      have wl : (t.map (turnAt S.n)).length ≤ 2000 := by rw [List.length_map]; exact tl
      generalize t.map (turnAt S.n) = ws at ry q x wl lt
      have twl := taut_length ws
      dsimp only
      have hA2 := hA1.mono e2
      have sl := ok.sl
      have sst := ok.st
      have cond : ws.length ≤ 2000 ∧ (∀ x ∈ ws, x / 2 < S.swap.length) ∧ (∀ c ∈ S.swap, c.length ≤ 100 ∧ ∀ x ∈ c, x / 2 < S.swap.length) ∧ n ≤ 1000 :=
        ⟨wl, fun x hx => by have := lt x hx; omega, fun d hd => ⟨Nat.le_trans (total_mem hd) sst, fun x hx => by have := ok.si d hd x hx; omega⟩, by omega⟩
      have en := (ea_cons (er_vN ry rfl) (ea2 (er_exch hA2 (er_ref rfl) T.Hand.cl T.hE) (er_num0 (rmono (IsL _) (e1.trans e2) rn) rfl)) : EA (tCons (tVar 3) (tCons (tFld K (tVar 0) "exchange") (tCons (tOp (rIxL K) (tVar 1) (tC (.int 0))) tNil))) [some (V.ref p), some nv, some rv, some y] H2 [IsN ws, Cords S.swap, IsI (n : Int)])
      cases ho : Vbcjai.swappedOften S.swap n (Vbcjai.taut ws) with
      | none =>
        rw [ho] at x
        refine st_ret (er_abs1 ((er_callX (ws, S.swap, n) en cond fun z hz => ?_).imp fun v H3 e3 r3 => ?_)) fun _ _ _ r => False.elim r
        · dsimp only at hz
          rw [ho] at hz
          cases hz
          exact (x (-6) rfl).mono (e1.trans e2)
        · have := r3.1
          dsimp only at this
          rw [ho] at this
          cases this
      | some u =>
        rw [ho] at q
        have ul := often_len ho
        refine st_ret (er_call u (ea1 ((er_callX' (ws, S.swap, n) en cond fun z hz => ?_).imp fun v H3 e3 r3 => ?_)) (show u.length ≤ 1000000 by omega)) fun v H3 e3 r3 => q _ v H3 rfl (.of ((e1.trans e2).trans e3)) (hA2.mono e3) (by rw [ints_iv]; exact r3)
        · dsimp only at hz
          rw [ho] at hz
          cases hz
        · dsimp only at r3
          rw [ho] at r3
          exact r3
abbrev s_do_onto : Stmt := (top 106)
abbrev N_do_onto : List Str := ["hand", "numbers", "rows", "threads"]
theorem sc_do_onto : FnScope ["hand", "numbers", "rows", "threads"] ["hand", "numbers", "rows"] (defScope s_do_onto) := ⟨rfl, rfl, rfl, by decide +kernel, rfl, by decide +kernel, by decide +kernel⟩
theorem b_do_onto : BindsP "do_onto" "do_onto" s_do_onto ["hand", "numbers", "rows"] := fun _ _ _ _ _ _ us hl => match us, hl with | [_, _, _], _ => rfl
theorem ok_do_onto (T : Txt K mg c) : Ok P w K mg base (L2.CX P w) 6 "do_onto" ["hand", "numbers", "rows"] (spDeed c 18) := by
  refine T.do_onto.okX sc_do_onto b_do_onto (fun vs H Q E h => ?_) (fun f cdv A outer s H vs Q E hr h => ⟨_, (pss_cons (ps_set (i := 3) sc_do_onto.nd rfl (.inl rfl) (pcall (ok_graph_of T) (hr.mono (by decide)) rfl pass0 (pa_cons (pe_fld (pv 0) rfl) pa_nil)))
      (pss_one (ps_ret (pe_lst (pa_cons (pe_callTy call_int1 (by rfl) T.int boot_int (pa_cons (pe_and (pe_cmpR op_eq (pe_callB (r := Evl.rLenS K) call_len_seq (by rfl) T.len PySem.boot_len (pa_cons (pcall (ok_knots_of T) (hr.mono (by decide)) rfl pass0 (pa_cons (pv 3) pa_nil)) pa_nil)) pe_int (nomark _)) (pe_one (pcall (ok_is_full T) (hr.mono (by decide)) rfl pass0 (pa_cons (pv 3) (pa_cons (pe_fld (pv 0) rfl) pa_nil))))) pa_nil)) pa_nil))))), ?_⟩)
  · obtain ⟨p, S, xs, rs, nv, rv, rfl, _⟩ := h; rfl
  · obtain ⟨p, S, xs, rs, nv, rv, rfl, hA, ok, rn, rr, hask, q, x⟩ := h
    obtain ⟨rfl, rfl⟩ := ask18 hask
    have st : VbcjaiNeutral.step S [[18]] = (S, [0, Vbcjai.bit ((List.range S.n).all fun i => Vbcjai.isMade (Vbcjai.graphOf S.n S.swap) [2 * i])]) := rfl
    rw [st] at q
    have mt := ok.st
    refine st_seq (st_asg (er_call S.swap (ea1 (er_exch hA (er_ref rfl) T.Hand.cl T.hE)) (show total S.swap ≤ 100000 by omega)) fun gv H1 e1 ⟨G, fo, nd, lG, rG⟩ => ?_)
    obtain ⟨P1, Q1, K1, B⟩ := swap_both ok fo
    dsimp only
    have hA1 := hA.mono e1
    -- its knots, once
    have ks : ∃ N, KnotsOf G N := by
      have z := knots_ex G
      exact z
    obtain ⟨N, kN⟩ := ks
    rw [B.onto kN] at q
    refine st_ret (er_bits (er_andV ((er_I0eq (er_lenK (er_call G (ea1 (er_var (R := LstOf TriR G) rG rfl)) (show G.length ≤ 400000 by omega))) kN)) fun _ => (er_call (G, S.n) (ea2 (er_var (R := LstOf TriR G) rG rfl) (er_fing hA1 (er_ref rfl) T.Hand.cl T.hF)) ⟨fo.2, by dsimp only; omega, by have := ok.n6; dsimp only; omega⟩).imp fun v H4 e4 ⟨N2, kN2, ev⟩ => ?_)) fun v H3 e3 r3 => q _ v H3 rfl (.of (e1.trans e3)) (hA1.mono e3) r3
    show v = _
    rw [ev, full_same kN2 kN]
end
end Fc
set_option maxRecDepth 100000
set_option maxHeartbeats 2000000
namespace Fc
open PySem PySem.Spec PyProof.Rows L2
/-! ### a call of a local that holds one of several defs, in a try -/
structure HeldX (P : Program) (w : World) (K : PySem.W.Frag) (mg : Str → Option Value) (base : Heap) (CX : CXT) (k : Nat) (f : Addr) (sp : Sp) : Prop where
  ex : ∃ (fd : FuncData) (ps : List Str), FnOk P w K mg base CX k f fd ps sp ∧ PySem.W.keepIn K (.ref f) = true ∧ Binds K fd ps []
def tCallLS (i : Nat) (S : Addr → Sp → Prop) (E : L2.St → XK) (t : TA) : TE := fun σ H Q => ∃ f sp, σ[i]? = some (some (.ref f)) ∧ S f sp ∧ t σ H fun vs H1 => sp vs H1 Q (E σ)
theorem pe_callLS {X : Cx} {CX : CXT} {k i : Nat} {E : L2.St → XK} {x : Str} {p pos : Pos} {e : Expr} {es : List Expr} {t : TA} {S : Addr → Sp → Prop} (A : ∀ f sp, S f sp → HeldX X.prog X.w X.K X.mg X.base CX k f sp) (hr : Room k X.A) (hN : X.N[i]? = some x) (hv : Vis X.env.scope x) (hx : ∀ σ, PassesAt CX X σ (E σ)) (ha : PA X (e :: es) t)
    (hdb : (x == ("__debug__" : Str)) = false := by decide) (hcd : (x == ("__classdict__" : Str)) = false := by decide)
    (he : starEach (e :: es) X.env = (false, eval e X.env) :: starEach es X.env := by rfl) (hpl : (backTo pos (starEach es X.env)).any (·.1) = false := by rfl) : PE X (.Call (.Name x p) (e :: es) [] pos) (tCallLS i S E t) := by
  refine ⟨fun pins s σ H Q I h => ?_⟩
  obtain ⟨f, sp, hs, hS, ht⟩ := h
  obtain ⟨fd, ps, F, hk, hb⟩ := (A f sp hS).ex
  refine wpAny_Call_Name_kw (thn ((pe_var (pos := p) hN hv hdb hcd).run pins s σ H (fun v H1 => v = .ref f ∧ H1 = H) I ⟨.ref f, hs, rfl, rfl⟩) fun u s1 ⟨v, H1, I1, r1, q1⟩ => ?_)
  obtain ⟨rfl, rfl⟩ := q1
  cases r1
  refine PySem.W.callWith_K (h₀ := X.base) I.ok.mod.kin hk (thn (ha.run pos pins s1 σ _ _ I1 ht) fun us s2 ⟨vs, H2, I2, r, q⟩ => ⟨I2.kIn, ?_⟩) he hpl
  exact run_fnS F hr hb (hx σ) I2 r q
/-! ### the list that's handed in -/
def IsQ (K : PySem.W.Frag) (xs : List V) : Rel := fun v H => ∃ p, v = .ref p ∧ SqL K H p xs
instance (K : PySem.W.Frag) (xs : List V) : Mono (IsQ K xs) := ⟨fun e ⟨p, a, b⟩ => ⟨p, a, Evl.ex_l e b⟩⟩
section
variable {K : PySem.W.Frag} {σ : L2.St} {H H' : Hp} {ta tb te tc tl ty tv t1 t2 t3 tp : TE} {tr : TA} {t u : TT} {x y z v : V} {R Ra Rb : Rel} {D : Ends} {tu tw : TS}
theorem er_ixQ {xs : List V} {i : Int} (ha : ER ta σ H (IsQ K xs)) (hb : ER tb σ H (IsI i)) (h : atI xs i = some v) : ER (tOp (rIxL K) ta tb) σ H (IsV v) := fun H1 e Q q =>
  ha H1 e _ fun a H2 e2 ⟨p, ep, hp⟩ => hb H2 (e.trans e2) _ fun b H3 e3 rb => ⟨p, xs, i, v, ep, rb, Evl.ex_l e3 hp, h, q _ H3 (e2.trans e3) rfl⟩
theorem er_lenQ {xs : List V} (ha : ER ta σ H (IsQ K xs)) : ER (tCB (Evl.rLenS K) (tCons ta tNil)) σ H (IsI (xs.length : Int)) := fun H1 e Q q =>
  ha H1 e _ fun a H2 e2 ⟨p, ep, hp⟩ => ⟨p, xs, by rw [ep], .inl hp, q _ H2 e2 rfl⟩
theorem cut_midV (xs : List V) {a b : Nat} (ha : a ≤ xs.length) (hb : b ≤ xs.length) : cutV xs (some (a : Int)) (some (b : Int)) = (xs.drop a).take (b - a) := by
  unfold cutV
  rw [HT.sIx_nat, HT.sIx_nat, Nat.min_eq_left ha, Nat.min_eq_left hb]
theorem er_cutQ {xs : List V} {j k : Nat} (h : ER te σ H (IsQ K xs)) (h1 : ER ta σ H (IsI (j : Int))) (h2 : ER tb σ H (IsI (k : Int))) (hj : j ≤ xs.length) (hk : k ≤ xs.length) : ER (tSl (rSlL K) te (tPart ta) (tPart tb)) σ H (IsL ((xs.drop j).take (k - j))) := fun H1 e Q q =>
  h H1 e _ fun a H2 e2 ⟨p, ep, hp⟩ => (eo_some h1) H2 (e.trans e2) _ fun H3 e3 => (eo_some h2) H3 ((e.trans e2).trans e3) _ fun H4 e4 =>
    ⟨p, xs, ep, Evl.ex_l (e3.trans e4) hp, fun n hn => q _ _ (((e2.trans e3).trans e4).trans (Evl.Ex.new hn)) (by rw [cut_midV xs hj hk]; exact new_isL)⟩
theorem st_zero {i : Nat} (k : ∀ pz H1, Ex H H1 → H1 pz = some (.lst [.int 0]) → te σ H1 fun y H2 => rCat (.ref pz) y H2 fun z H3 => gName i z σ H3 D.nx) : tAsg (tOp rCat (tLst (tCons (tC (.int 0)) tNil)) te) (gName i) D σ H :=
  show (tLst (tCons (tC (.int 0)) tNil)) σ H fun x H1 => te σ H1 fun y H2 => rCat x y H2 fun z H3 => gName i z σ H3 D.nx from
  (er_lst (xs := [.int 0]) (ea1 er_c) (show 1 ≤ 1000 by decide)) H Ex.rfl _ fun v H1 e1 ⟨p, ep, hp⟩ => by
    subst ep
    exact k p H1 e1 hp
/-- l.append(xs[j:k]) -/
theorem st_appendCut {l : Addr} {ys xs : List V} {j k : Nat} (hl : H l = some (.lst ys)) (ha : ER tp σ H (IsV (.ref l))) (h : ER te σ H (IsQ K xs)) (h1 : ER ta σ H (IsI (j : Int))) (h2 : ER tb σ H (IsI (k : Int))) (hj : j ≤ xs.length) (hk : k ≤ xs.length) (hz : ys.length ≤ 16000000)
    (kk : ∀ q H1, Ex H H1 → H q = none → H1 q = some (.lst ((xs.drop j).take (k - j))) → D.nx σ (upd H1 l (.lst (ys ++ [.ref q])))) :
    tDrop (tBM K "list" rAppend tp (tCons (tSl (rSlL K) te (tPart ta) (tPart tb)) tNil)) D σ H := ha H Ex.rfl _ fun a H1 e1 ra => by
  have ea : a = .ref l := ra
  subst ea
  refine ⟨.inl ⟨rfl, ys, .of (e1 l _ hl)⟩, h H1 e1 _ fun v H2 e2 ⟨p, ep, hp⟩ => (eo_some h1) H2 (e1.trans e2) _ fun H3 e3 => (eo_some h2) H3 ((e1.trans e2).trans e3) _ fun H4 e4 => ⟨p, xs, ep, Evl.ex_l (e3.trans e4) hp, fun n hn => ?_⟩⟩
  have e5 := ((e1.trans e2).trans e3).trans e4
  refine ⟨l, ys, _, rfl, rfl, by rw [upd_ne (ne_of_none (e5 _ _ hl) hn)]; exact e5 _ _ hl, Nat.lt_of_le_of_lt hz (by decide), kk n _ (e5.trans (Evl.Ex.new hn)) (Evl.fresh_back e5 hn) ?_⟩
  rw [upd_same, cut_midV xs hj hk]
end
/-- lists of whole numbers at these addresses -/
abbrev RowsAt (H : Hp) (rs : List (List Int)) (ps : List Addr) : Prop := Paired (fun r a => H a = some (.lst (r.map V.int))) rs ps
theorem rowsAt_ex {H H' : Hp} (e : Ex H H') : ∀ {rs : List (List Int)} {ps : List Addr}, RowsAt H rs ps → RowsAt H' rs ps
  | _, _, .nil => .nil
  | _, _, .cons r t => .cons (e _ _ r) (rowsAt_ex e t)
theorem rowsAt_upd {H : Hp} {q : Addr} {o : HO} : ∀ {rs : List (List Int)} {ps : List Addr}, RowsAt H rs ps → q ∉ ps → RowsAt (upd H q o) rs ps
  | _, _, .nil, _ => .nil
  | _, _, .cons r t, h => .cons (by rw [upd_ne (fun e => h (by rw [e]; exact List.mem_cons_self))]; exact r) (rowsAt_upd t fun z => h (List.mem_cons_of_mem _ z))
theorem rowsAt_rel {H : Hp} : ∀ {rs : List (List Int)} {ps : List Addr}, RowsAt H rs ps → Paired (fun r x => RowR r x H) rs (ps.map V.ref)
  | _, _, .nil => .nil
  | _, _, .cons r t => .cons ⟨_, rfl, r⟩ (rowsAt_rel t)
/-! ### the calls of a line -/
theorem row_some {r x s : List Int} (h : PyFlat.row r = some (x, s)) : ∃ (n : Nat) (r' : List Int), r = (n : Int) :: r' ∧ n ≤ r'.length ∧ x = r'.take n ∧ s = r'.drop n := by
  cases r with
  | nil => cases h
  | cons z r' =>
    unfold PyFlat.row at h
    dsimp only at h
    by_cases c : 0 ≤ z ∧ z.toNat ≤ r'.length
    · rw [if_pos c] at h
      injection h with h
      injection h with h1 h2
      obtain ⟨n, rfl⟩ : ∃ n : Nat, z = (n : Int) := ⟨z.toNat, by omega⟩
      rw [Int.toNat_natCast] at h1 h2 c
      exact ⟨n, r', rfl, c.2, h1.symm, h2.symm⟩
    · rw [if_neg c] at h; cases h
theorem rows_succ {k : Nat} {r : List Int} {rs : List (List Int)} {t : List Int} (h : PyFlat.rows (k + 1) r = some (rs, t)) : ∃ (n : Nat) (r' : List Int) (rs' : List (List Int)), r = (n : Int) :: r' ∧ n ≤ r'.length ∧ rs = r'.take n :: rs' ∧ PyFlat.rows k (r'.drop n) = some (rs', t) := by
  unfold PyFlat.rows at h
  cases e : PyFlat.row r with
  | none => rw [e] at h; cases h
  | some z =>
    obtain ⟨x, s⟩ := z
    rw [e] at h
    obtain ⟨n, r', h1, h2, rfl, rfl⟩ := row_some e
    dsimp only at h
    cases e2 : PyFlat.rows k (r'.drop n) with
    | none => rw [e2] at h; cases h
    | some z2 =>
      obtain ⟨xs, t2⟩ := z2
      rw [e2] at h
      injection h with h
      injection h with h3 h4
      exact ⟨n, r', xs, h1, h2, h3.symm, by rw [e2, h4]⟩
theorem drop_cons {α : Type} {l : List α} {i : Nat} {a : α} {r : List α} (h : l.drop i = a :: r) : l[i]? = some a ∧ r = l.drop (i + 1) ∧ i < l.length := by
  have hi : i < l.length := by
    have := congrArg List.length h
    rw [List.length_drop, List.length_cons] at this
    omega
  have e := List.drop_eq_getElem_cons hi
  rw [h] at e
  injection e with e1 e2
  exact ⟨by rw [List.getElem?_eq_getElem hi, e1], e2, hi⟩
section
variable {P : Program} {w : World} {K : PySem.W.Frag} {mg : Str → Option Value} {base : Heap} {c : Cl3}
abbrev s_rows_from : Stmt := (top 114)
abbrev N_rows_from : List Str := ["calls", "place", "many", "rows", "at", "turn", "begin"]
theorem sc_rows_from : FnScope ["calls", "place", "many", "rows", "at", "turn", "begin"] ["calls", "place", "many"] (defScope s_rows_from) := ⟨rfl, rfl, rfl, by decide +kernel, rfl, by decide +kernel, by decide +kernel⟩
theorem b_rows_from : BindsP "rows_from" "rows_from" s_rows_from ["calls", "place", "many"] := fun _ _ _ _ _ _ us hl => match us, hl with | [_, _, _], _ => rfl
theorem ok_rows_from (T : Txt K mg c) : Ok P w K mg base CX0 1 "rows_from" ["calls", "place", "many"] (spF (fun p : List Int × Nat × Nat × List (List Int) × Nat => [IsQ K (p.1.map V.int), IsI (p.2.1 : Int), IsI (p.2.2.1 : Int)]) (fun p => PyFlat.rows p.2.2.1 (p.1.drop p.2.1) = some (p.2.2.2.1, p.1.drop p.2.2.2.2) ∧ p.2.1 ≤ p.1.length ∧ p.2.2.2.2 ≤ p.1.length ∧ p.1.length ≤ 1000000 ∧ p.2.2.1 ≤ 100)
    (fun p => TupOf [LstOf RowR p.2.2.2.1, IsI (p.2.2.2.2 : Int)])) := by
  refine T.rows_from.ok sc_rows_from b_rows_from (fun vs H Q E h => ?_) (fun f cdv A outer s H vs Q E hr h => ⟨_, (pss_cons (ps_par (i := 3) (j := 4) rfl sc_rows_from.nd rfl rfl (by decide) rfl rfl (pa_cons (pe_lst pa_nil) (pa_cons (pv 1) pa_nil)) (by rfl))
      (pss_cons (ps_for PassesOwn.never rfl (pi_range1 (by rfl) T.range (pa_cons (pv 2) pa_nil)) (pg_name (i := 5) sc_rows_from.nd rfl (.inl rfl)) (pss_cons (ps_set (i := 6) sc_rows_from.nd rfl (.inl rfl) (pe_op op_add (pv 4) pe_int))
      (pss_cons (ps_set (i := 4) sc_rows_from.nd rfl (.inl rfl) (pe_op op_add (pv 6) (pe_ix (r := rIxL K) ix_list (pv 0) (pv 4) (fun _ _ => rfl))))
      (pss_one (ps_expr (pe_bm PySem.F.plainAttrs_list PySem.F.slot_list_append PySem.F.type_list_append mt_append (pv 3) (pa_cons (pe_slice sl_list (pv 0) (po_some (pv 6)) (po_some (pv 4))) pa_nil)))))))
      (pss_one (ps_ret (pe_tup (pa_cons (pv 3) (pa_cons (pv 4) pa_nil))))))), ?_⟩)
  · obtain ⟨n, _, r, _⟩ := h; exact all_len r
  · obtain ⟨⟨ls, pl, m, rs, at2⟩, ⟨hrs, hpl, hat, hz, hm⟩, ra, q⟩ := h
    dsimp only at ra q hrs hpl hat hz hm
    obtain ⟨v1, v2, v3, rfl, r1, r2, r3⟩ := all3 ra
    cases r2; cases r3
    refine st_seq (show tPar 3 4 _ _ _ _ from ⟨Nat.zero_le _, fun l hn => ⟨_, rfl, _, _, rfl, ?_⟩⟩)
    have e1 : Ex H (upd H l (.lst [])) := Evl.Ex.new hn
    have hl : (upd H l (.lst [])) l = some (.lst []) := upd_same
    dsimp only
    generalize (upd H l (.lst [])) = H1 at e1 hl
    have exb : ∀ H', ExB [l] H1 H' → Ex H H' := fun H' bx => ExB.ex e1 bx fun l' m => by rw [List.mem_singleton.mp m]; exact hn
    refine st_seq (st_range1 (n := m) (ea1 (er_n m rfl)) (by omega) (fun i σ' H' => ∃ (o5 o6 : Option V) (a : Nat) (done rest : List (List Int)) (ps : List Addr), σ' = [some v1, some (.int (pl : Int)), some (.int (m : Int)), some (.ref l), some (.int (a : Int)), o5, o6] ∧ ExB [l] H1 H' ∧ H' l = some (.lst (ps.map V.ref)) ∧ l ∉ ps ∧ RowsAt H' done ps ∧
        rs = done ++ rest ∧ PyFlat.rows (m - i) (ls.drop a) = some (rest, ls.drop at2) ∧ a ≤ ls.length ∧ ps.length ≤ i)
      (fun H2 e2 => ⟨_, _, pl, [], rs, [], rfl, .of e2, e2 _ _ hl, by simp, .nil, rfl, hrs, hpl, Nat.le_refl _⟩) (fun i σ' H' hi hP => ?_) fun σ' H' hP => ?_)
    · obtain ⟨o5, o6, a, done, rest, ps, rfl, bx, hl', nps, pr, ers, hrw, ha, lp⟩ := hP
      rw [show m - i = (m - (i + 1)) + 1 by omega] at hrw
      obtain ⟨n, r', rest', hd, hn2, rfl, hrw2⟩ := rows_succ hrw
      obtain ⟨g1, rfl, g2⟩ := drop_cons hd
      rw [List.length_drop] at hn2
      rw [List.drop_drop] at hrw2
      have rq : ∀ H2, Ex H' H2 → IsQ K (ls.map V.int) v1 H2 := fun H2 e2 => rmono (IsQ K (ls.map V.int)) ((exb _ bx).trans e2) r1
      refine st_seq (st_asg (er_add (er_n a rfl) er_c) fun bv H2 e2 rb => ?_)
      have eb : bv = .int ((a + 1 : Nat) : Int) := rb
      subst eb
      dsimp only
      refine st_seq (st_asg (er_add (er_n (a + 1) rfl) (er_ixQ (v := .int (n : Int)) (er_var (R := IsQ K (ls.map V.int)) (rq _ e2) rfl) (er_n a rfl) (atI_nat (by rw [List.getElem?_map, g1]; rfl)))) fun av H3 e3 rav => ?_)
      have ea : av = .int ((a + 1 + n : Nat) : Int) := rav
      subst ea
      dsimp only
      refine st_appendCut (xs := ls.map V.int) (j := a + 1) (k := a + 1 + n) (e3 _ _ (e2 _ _ hl')) (er_ref rfl) (er_var (R := IsQ K (ls.map V.int)) (rq _ (e2.trans e3)) rfl) (er_n (a + 1) rfl) (er_n (a + 1 + n) rfl) (by rw [List.length_map]; omega) (by rw [List.length_map]; omega) (by rw [List.length_map]; omega) fun q' H4 e4 nq hq => ?_
      have lq : q' ≠ l := fun e => by rw [e, e3 _ _ (e2 _ _ hl')] at nq; cases nq
      refine ⟨_, _, a + 1 + n, done ++ [(ls.drop (a + 1)).take n], rest', ps ++ [q'], rfl, (bx.more ((e2.trans e3).trans e4)).trans (.upd (by simp)), by rw [upd_same, List.map_append]; rfl, ?_, ?_, by rw [ers, List.append_assoc]; rfl, hrw2, by omega, by rw [List.length_append]; simp; exact lp⟩
      · rw [List.mem_append, List.mem_singleton]
        rintro (m | m)
        · exact nps m
        · exact lq m.symm
      · refine paired_snoc2 (rowsAt_upd (rowsAt_ex ((e2.trans e3).trans e4) pr) nps) ?_
        rw [upd_ne lq, hq, ← List.map_drop, ← List.map_take]
        congr 3
        congr 1
        omega
    · obtain ⟨o5, o6, a, done, rest, ps, rfl, bx, hl', nps, pr, ers, hrw, ha, lp⟩ := hP
      rw [Nat.sub_self] at hrw
      have hrw : some (([] : List (List Int)), ls.drop a) = some (rest, ls.drop at2) := hrw
      injection hrw with hrw
      injection hrw with h1 h2
      have ea : a = at2 := by
        have := congrArg List.length h2
        rw [List.length_drop, List.length_drop] at this
        omega
      subst ea
      subst h1
      rw [List.append_nil] at ers
      subst ers
      refine st_ret (er_tup (Rs := [LstOf RowR rs, IsI (a : Int)]) (ea2 (er_var (R := LstOf RowR rs) ⟨l, _, rfl, hl', rowsAt_rel pr⟩ rfl) (er_n a rfl)) (show 2 ≤ 1000 by decide)) fun v H2 e2 r2 => q v H2 ((exb _ bx).trans e2) r2
/-- what a call is answered -/
def spAnswered (c : Cl3) : Sp := fun vs H Q _ => ∃ (p : Addr) (S : Vbcjai.State) (k : Nat) (xs : List Int) (rs : List (List Int)) (nv rv : V), vs = [.ref p, .int (k : Int), nv, rv] ∧ k < 19 ∧ HandAt c.H H p S ∧ SOk S ∧ IsL (xs.map V.int) nv H ∧ LstOf RowR rs rv H ∧ VbcjaiNeutral.asked1 (((k : Int) :: xs) :: rs) = true ∧
  (VbcjaiNeutral.step S (((k : Int) :: xs) :: rs)).2.length ≤ 15000000 ∧
  ∀ v H', ExB [p] H H' → HandAt c.H H' p (VbcjaiNeutral.step S (((k : Int) :: xs) :: rs)).1 → (∃ q, v = .ref q ∧ H q = none ∧ H' q = some (.lst ((VbcjaiNeutral.step S (((k : Int) :: xs) :: rs)).2.map V.int))) → Q v H'
theorem held_of {g : Str} {k L : Nat} {ps : List Str} {sp : Sp} {f : Addr} (h : Ok P w K mg base (L2.CX P w) k g ps sp) (hk : k ≤ L) (hg : mg g = some (.ref f)) : HeldX P w K mg base (L2.CX P w) L f sp := by
  obtain ⟨f', fd, F, e, kp, b⟩ := h.ex
  rw [hg] at e
  cases e
  exact ⟨fd, ps, F.mono hk, kp, b⟩
theorem deed_held {fs : List Addr} (T : Txt K mg c) (hnm : (["do_fingers", "do_taut", "do_falls", "do_sets", "do_make", "do_fits", "do_ring", "do_alike", "do_root", "do_commute", "do_join", "do_moves", "do_member", "do_size", "do_basis", "do_write", "do_exchange", "do_turn", "do_onto"] : List Str).map mg = fs.map fun f => some (.ref f)) {k : Nat} {f : Addr} (hk : fs[k]? = some f) : HeldX P w K mg base (L2.CX P w) 7 f (spDeed c k) := by
  have at_ : ∀ g : Str, (["do_fingers", "do_taut", "do_falls", "do_sets", "do_make", "do_fits", "do_ring", "do_alike", "do_root", "do_commute", "do_join", "do_moves", "do_member", "do_size", "do_basis", "do_write", "do_exchange", "do_turn", "do_onto"] : List Str)[k]? = some g → mg g = some (.ref f) := fun g hg => by
    have z := congrArg (fun l => l[k]?) hnm
    rw [List.getElem?_map, List.getElem?_map, hg, hk] at z
    exact Option.some.inj z
  match k, at_ with
  | 0, at_ => exact held_of (ok_do_fingers T) (by decide) (at_ "do_fingers" rfl)
  | 1, at_ => exact held_of (ok_do_taut T) (by decide) (at_ "do_taut" rfl)
  | 2, at_ => exact held_of (ok_do_falls T) (by decide) (at_ "do_falls" rfl)
  | 3, at_ => exact held_of (ok_do_sets T) (by decide) (at_ "do_sets" rfl)
  | 4, at_ => exact held_of (ok_do_make T) (by decide) (at_ "do_make" rfl)
  | 5, at_ => exact held_of (ok_do_fits T) (by decide) (at_ "do_fits" rfl)
  | 6, at_ => exact held_of (ok_do_ring T) (by decide) (at_ "do_ring" rfl)
  | 7, at_ => exact held_of (ok_do_alike T) (by decide) (at_ "do_alike" rfl)
  | 8, at_ => exact held_of (ok_do_root T) (by decide) (at_ "do_root" rfl)
  | 9, at_ => exact held_of (ok_do_commute T) (by decide) (at_ "do_commute" rfl)
  | 10, at_ => exact held_of (ok_do_join T) (by decide) (at_ "do_join" rfl)
  | 11, at_ => exact held_of (ok_do_moves T) (by decide) (at_ "do_moves" rfl)
  | 12, at_ => exact held_of (ok_do_member T) (by decide) (at_ "do_member" rfl)
  | 13, at_ => exact held_of (ok_do_size T) (by decide) (at_ "do_size" rfl)
  | 14, at_ => exact held_of (ok_do_basis T) (by decide) (at_ "do_basis" rfl)
  | 15, at_ => exact held_of (ok_do_write T) (by decide) (at_ "do_write" rfl)
  | 16, at_ => exact held_of (ok_do_exchange T) (by decide) (at_ "do_exchange" rfl)
  | 17, at_ => exact held_of (ok_do_turn T) (by decide) (at_ "do_turn" rfl)
  | 18, at_ => exact held_of (ok_do_onto T) (by decide) (at_ "do_onto" rfl)
  | n + 19, at_ =>
    have z := congrArg List.length hnm
    have y := (List.getElem?_eq_some_iff.mp hk).1
    rw [List.length_map] at z
    simp at z
    omega
abbrev s_answered : Stmt := (top 115)
abbrev N_answered : List Str := ["hand", "call", "numbers", "rows", "deed", "told", "e"]
theorem sc_answered : FnScope ["hand", "call", "numbers", "rows", "deed", "told", "e"] ["hand", "call", "numbers", "rows"] (defScope s_answered) := ⟨rfl, rfl, rfl, by decide +kernel, rfl, by decide +kernel, by decide +kernel⟩
theorem b_answered : BindsP "answered" "answered" s_answered ["hand", "call", "numbers", "rows"] := fun _ _ _ _ _ _ us hl => match us, hl with | [_, _, _, _], _ => rfl
theorem ok_answered (T : Txt K mg c) : Ok P w K mg base CX0 8 "answered" ["hand", "call", "numbers", "rows"] (spAnswered c) := by
  obtain ⟨dD, fs, hmDEEDS, hsD, hnm⟩ := T.DEEDS
  refine T.answered.ok sc_answered b_answered (fun vs H Q E h => ?_) (fun f cdv A outer s H vs Q E hr h => ⟨_, pss_cons (ps_set (i := 4) sc_answered.nd rfl (.inl rfl) (pe_ix (r := rIxT K) ix_tup (pkept hmDEEDS rfl) (pv 1) (fun _ _ => rfl)))
    (pss_cons (ps_try_as (i := 6) (tb := fun W => tAsg (tOp rCat (tLst (tCons (tC (.int 0)) tNil)) (tCallLS 4 (fun f sp => ∃ k : Nat, fs[k]? = some f ∧ sp = spDeed c k) (WE W) (tCons (tVar 0) (tCons (tVar 2) (tCons (tVar 3) tNil))))) (gName 5))
        (ts := fun a cls d => tAsg (tLst (tCons (tXf a cls d c.R "number" (tVar 6)) tNil)) (gName 5)) (Wout := fun _ _ _ _ => False) rfl rfl sc_answered.nd rfl rfl ⟨rfl, by decide, .inl T.Refused.g⟩ takes0
      (fun W pn xe tk _ => pss_one (ps_set (i := 5) sc_answered.nd rfl (.inl rfl) (pe_op op_cat (pe_lst (pa_cons pe_int pa_nil)) (pe_callLS (X := Cx.tr _ pn xe) (k := 7) (fun f sp ⟨k, hk, e⟩ => by rw [e]; exact deed_held T hnm hk) (hr.mono (by decide)) rfl (.inl rfl) (fun σ => passAt tk σ) (pa_cons (pv 0) (pa_cons (pv 2) (pa_cons (pv 3) pa_nil)))))))
      (fun a oe cls d pn hz hf => pss_one (ps_set (i := 5) sc_answered.nd rfl (.inl rfl) (pe_lst (pa_cons (pe_xf T.Refused.fld T.Refused.no hz hf (pv 6)) pa_nil)))))
    (pss_one (ps_ret (pv 5)))), ?_⟩)
  · obtain ⟨p, S, k, xs, rs, nv, rv, rfl, _⟩ := h; rfl
  · obtain ⟨p, S, k, xs, rs, nv, rv, rfl, hk, hA, ok, rn, rr, hask, hlen, q⟩ := h
    have lfs : fs.length = 19 := by have := congrArg List.length hnm; simpa using this.symm
    have hf : fs[k]? = some fs[k] := List.getElem?_eq_getElem (by omega)
    generalize fs[k] = fk at hf
    refine st_seq (st_asg (er_ixK (v := .ref fk) hsD er_c (er_n k rfl) (atI_nat (by rw [List.getElem?_map, hf]; rfl))) fun dv H1 e1 rd => ?_)
    have ed : dv = .ref fk := rd
    subst ed
    dsimp only
    refine st_seq (st_zero fun pz H2 e2 hz => ?_)
    refine ⟨fk, spDeed c k, rfl, ⟨k, hf, rfl⟩, (ea_cons (er_ref rfl) (ea2 (er_var (R := IsL (xs.map V.int)) (rmono (IsL _) (e1.trans e2) rn) rfl) (er_var (R := LstOf RowR rs) (rmono (LstOf RowR rs) (e1.trans e2) rr) rfl))) H2 Ex.rfl _ fun vs H3 e3 r3 => ?_⟩
    obtain ⟨a1, a2, a3, rfl, r1, r2, r3'⟩ := all3 r3
    cases r1
    have e13 := (e1.trans e2).trans e3
    have pzp : pz ≠ p := by
      obtain ⟨_, _, _, hp, _⟩ := hA.mono (e1.trans e2)
      exact ne_of hz hp (fun z => nomatch z)
    refine ⟨p, S, xs, rs, a2, a3, rfl, hA.mono e13, ok, r2, r3', hask, fun rest v H4 hst bx hA4 r4 => ?_, fun n hst d H4 e4 hd => ?_⟩
    · obtain ⟨pv', rfl, hpv⟩ := r4
      rw [hst] at q hlen
      have sz : (15000001 : Nat) ≤ sizeLine := by decide
      have l1 : rest.length ≤ 15000000 := by rw [List.length_cons] at hlen; omega
      refine ⟨pz, pv', [.int 0], rest.map V.int, rfl, rfl, bx _ _ (by simp [pzp]) (e3 _ _ hz), hpv, by rw [List.length_map]; simp only [List.length_cons, List.length_nil]; omega, fun n hn => ?_⟩
      dsimp only
      have hn0 : H n = none := by
        cases e : H n with
        | none => rfl
        | some o =>
          by_cases np : n = p
          · obtain ⟨_, _, _, hp4, _⟩ := hA4
            rw [np, hp4] at hn
            cases hn
          · have z := bx n o (by simp [np]) (e13 _ _ e)
            rw [z] at hn
            cases hn
      refine st_ret (er_ref rfl) fun v H5 e5 r5 => q v H5 (((ExB.of e13).trans bx).more ((Evl.Ex.new hn).trans e5)) (hA4.mono ((Evl.Ex.new hn).trans e5)) ⟨n, r5, hn0, e5 _ _ upd_same⟩
    · refine ⟨true, T.Refused.self, fun _ a na => ?_, fun z => nomatch z⟩
      rw [hst] at q
      refine ⟨_, rfl, rfl, rfl, d, _, _, rfl, hd, rfl, Nat.le_trans (show 1 ≤ 1000 by decide) (by decide), fun m hm => ?_⟩
      dsimp only
      refine st_ret (er_ref rfl) fun v H5 e5 r5 => q v H5 (.of ((e13.trans e4).trans ((Evl.Ex.new hm).trans e5))) (hA.mono ((e13.trans e4).trans ((Evl.Ex.new hm).trans e5))) ⟨m, r5, Evl.fresh_back (e13.trans e4) hm, e5 _ _ upd_same⟩
end
end Fc
set_option maxRecDepth 100000
set_option maxHeartbeats 2000000
namespace Fc
open PySem PySem.Spec PyProof.Rows L2
/-! ### a line's calls -/
abbrev NUMS : List Nat := [1, 0, 1, 0, 0, 0, 0, 0, 0, 0, 0, 0, 0, 0, 0, 0, 0, 1, 0]
abbrev ROWN : List Nat := [0, 1, 1, 1, 1, 2, 1, 2, 1, 2, 2, 1, 1, 0, 0, 1, 1, 1, 0]
theorem shape_is {p : Int} {n k : Nat} (h : PyVbcjai.shape p = some (n, k)) : ∃ m : Nat, m < 19 ∧ p = (m : Int) ∧ NUMS[m]? = some n ∧ ROWN[m]? = some k := by
  unfold PyVbcjai.shape at h
  by_cases c0 : p = 0
  · rw [if_pos c0] at h; cases h; exact ⟨0, by decide, c0, rfl, rfl⟩
  rw [if_neg c0] at h
  by_cases c1 : p = 1
  · rw [if_pos c1] at h; cases h; exact ⟨1, by decide, c1, rfl, rfl⟩
  rw [if_neg c1] at h
  by_cases c2 : p = 2
  · rw [if_pos c2] at h; cases h; exact ⟨2, by decide, c2, rfl, rfl⟩
  rw [if_neg c2] at h
  by_cases c3 : p = 3
  · rw [if_pos c3] at h; cases h; exact ⟨3, by decide, c3, rfl, rfl⟩
  rw [if_neg c3] at h
  by_cases c4 : p = 4
  · rw [if_pos c4] at h; cases h; exact ⟨4, by decide, c4, rfl, rfl⟩
  rw [if_neg c4] at h
  by_cases c5 : p = 5
  · rw [if_pos c5] at h; cases h; exact ⟨5, by decide, c5, rfl, rfl⟩
  rw [if_neg c5] at h
  by_cases c6 : p = 6
  · rw [if_pos c6] at h; cases h; exact ⟨6, by decide, c6, rfl, rfl⟩
  rw [if_neg c6] at h
  by_cases c7 : p = 7
  · rw [if_pos c7] at h; cases h; exact ⟨7, by decide, c7, rfl, rfl⟩
  rw [if_neg c7] at h
  by_cases c8 : p = 8
  · rw [if_pos c8] at h; cases h; exact ⟨8, by decide, c8, rfl, rfl⟩
  rw [if_neg c8] at h
  by_cases c9 : p = 9
  · rw [if_pos c9] at h; cases h; exact ⟨9, by decide, c9, rfl, rfl⟩
  rw [if_neg c9] at h
  by_cases c10 : p = 10
  · rw [if_pos c10] at h; cases h; exact ⟨10, by decide, c10, rfl, rfl⟩
  rw [if_neg c10] at h
  by_cases c11 : p = 11
  · rw [if_pos c11] at h; cases h; exact ⟨11, by decide, c11, rfl, rfl⟩
  rw [if_neg c11] at h
  by_cases c12 : p = 12
  · rw [if_pos c12] at h; cases h; exact ⟨12, by decide, c12, rfl, rfl⟩
  rw [if_neg c12] at h
  by_cases c13 : p = 13
  · rw [if_pos c13] at h; cases h; exact ⟨13, by decide, c13, rfl, rfl⟩
  rw [if_neg c13] at h
  by_cases c14 : p = 14
  · rw [if_pos c14] at h; cases h; exact ⟨14, by decide, c14, rfl, rfl⟩
  rw [if_neg c14] at h
  by_cases c15 : p = 15
  · rw [if_pos c15] at h; cases h; exact ⟨15, by decide, c15, rfl, rfl⟩
  rw [if_neg c15] at h
  by_cases c16 : p = 16
  · rw [if_pos c16] at h; cases h; exact ⟨16, by decide, c16, rfl, rfl⟩
  rw [if_neg c16] at h
  by_cases c17 : p = 17
  · rw [if_pos c17] at h; cases h; exact ⟨17, by decide, c17, rfl, rfl⟩
  rw [if_neg c17] at h
  by_cases c18 : p = 18
  · rw [if_pos c18] at h; cases h; exact ⟨18, by decide, c18, rfl, rfl⟩
  rw [if_neg c18] at h
  cases h
theorem whole_id (c : List (List Int)) : PyVbcjai.whole c = c := by
  unfold PyVbcjai.whole
  split <;> rfl
theorem whole_ids (cs : List (List (List Int))) : cs.map PyVbcjai.whole = cs := by
  rw [show PyVbcjai.whole = id from funext whole_id, List.map_id]
theorem asked_is {l : List Int} (h : PyVbcjai.answers_asked l = true) : ∃ raw, PyFlat.calls PyVbcjai.shape l.length l = some raw ∧ (∀ c ∈ raw, VbcjaiNeutral.asked1 c = true) ∧ (PyVbcjai.answers l).length ≤ 10000000 ∧ PyVbcjai.answers l = PyFlat.told (PyFlat.played VbcjaiNeutral.step VbcjaiNeutral.start raw) := by
  unfold PyVbcjai.answers_asked at h
  cases e : PyFlat.calls PyVbcjai.shape l.length l with
  | none => rw [e] at h; cases h
  | some raw =>
    rw [e] at h
    dsimp only at h
    rw [whole_ids, Bool.and_eq_true, Bool.and_eq_true] at h
    obtain ⟨⟨_, h1⟩, h2⟩ := h
    unfold VbcjaiNeutral.asked at h1
    rw [Bool.and_eq_true, List.all_eq_true] at h1
    refine ⟨raw, rfl, h1.1, of_decide_eq_true h2, ?_⟩
    unfold PyVbcjai.answers PyVbcjai.calls
    rw [e]
    dsimp only
    rw [whole_ids]
theorem rows_drop {l : List Int} : ∀ {k a : Nat} {xs : List (List Int)} {t : List Int}, PyFlat.rows k (l.drop a) = some (xs, t) → a ≤ l.length → ∃ b, t = l.drop b ∧ a ≤ b ∧ b ≤ l.length
  | 0, a, xs, t, h, ha => by
    have h : some (([] : List (List Int)), l.drop a) = some (xs, t) := h
    injection h with h
    injection h with _ h2
    exact ⟨a, h2.symm, Nat.le_refl _, ha⟩
  | k + 1, a, xs, t, h, ha => by
    obtain ⟨n, r', rs', e, hn, _, h2⟩ := rows_succ h
    obtain ⟨_, rfl, g2⟩ := drop_cons e
    rw [List.length_drop] at hn
    rw [List.drop_drop] at h2
    obtain ⟨b, e1, e2, e3⟩ := rows_drop h2 (by omega)
    exact ⟨b, e1, by omega, e3⟩
theorem call_is {p : Int} {r : List Int} {c : List (List Int)} {t : List Int} (h : PyFlat.call PyVbcjai.shape (p :: r) = some (c, t)) : ∃ (m n k : Nat) (xs : List (List Int)), m < 19 ∧ p = (m : Int) ∧ NUMS[m]? = some n ∧ ROWN[m]? = some k ∧ n ≤ r.length ∧ PyFlat.rows k (r.drop n) = some (xs, t) ∧ c = ((m : Int) :: r.take n) :: xs := by
  unfold PyFlat.call at h
  dsimp only at h
  cases e : PyVbcjai.shape p with
  | none => rw [e] at h; cases h
  | some z =>
    obtain ⟨n, k⟩ := z
    rw [e] at h
    dsimp only at h
    obtain ⟨m, h1, rfl, h2, h3⟩ := shape_is e
    by_cases g : r.length < n
    · rw [if_pos g] at h; cases h
    · rw [if_neg g] at h
      cases e2 : PyFlat.rows k (r.drop n) with
      | none => rw [e2] at h; cases h
      | some z2 =>
        obtain ⟨xs, t2⟩ := z2
        rw [e2] at h
        dsimp only at h
        injection h with h
        injection h with h4 h5
        exact ⟨m, n, k, xs, h1, rfl, h2, h3, by omega, by rw [e2, h5], h4.symm⟩
theorem calls_cons {f : Nat} {p : Int} {r : List Int} {cs : List (List (List Int))} (h : PyFlat.calls PyVbcjai.shape f (p :: r) = some cs) : ∃ f' c t cs', PyFlat.call PyVbcjai.shape (p :: r) = some (c, t) ∧ PyFlat.calls PyVbcjai.shape f' t = some cs' ∧ cs = c :: cs' := by
  cases f with
  | zero => cases h
  | succ f =>
    unfold PyFlat.calls at h
    cases e : PyFlat.call PyVbcjai.shape (p :: r) with
    | none => rw [e] at h; cases h
    | some z =>
      obtain ⟨c, t⟩ := z
      rw [e] at h
      dsimp only at h
      cases e2 : PyFlat.calls PyVbcjai.shape f t with
      | none => rw [e2] at h; cases h
      | some cs' =>
        rw [e2] at h
        injection h with h
        exact ⟨f, c, t, cs', rfl, e2, h.symm⟩
theorem calls_nil {f : Nat} {cs : List (List (List Int))} (h : PyFlat.calls PyVbcjai.shape f [] = some cs) : cs = [] := by
  cases f with
  | zero => exact (Option.some.inj h).symm
  | succ f => exact (Option.some.inj h).symm
/-! ### each state is as it should be -/
theorem ofCord_fst {S : Vbcjai.State} {t : List Nat} {f : Vbcjai.Cord → Vbcjai.State × Vbcjai.Ans} (h : ∀ w, (f w).1 = S) : (Vbcjai.ofCord S t f).1 = S := by
  rw [ofCord_is]
  cases readNo S.n [] t with
  | some m => rfl
  | none => exact h _
theorem own_total (n : Nat) : total (Vbcjai.own n) = n := by
  unfold Vbcjai.own
  have k : ∀ l : List Nat, total (l.map fun i => [2 * i]) = l.length := by
    intro l
    induction l with
    | nil => rfl
    | cons a l ih => rw [List.map_cons, total_cons, ih]; simp; omega
  rw [k, List.length_range]
theorem sok_own {n : Nat} (h1 : 1 ≤ n) (h6 : n ≤ 6) : SOk ⟨n, [], Vbcjai.own n⟩ where
  n1 := h1
  n6 := h6
  ml := Nat.zero_le _
  mt := Nat.zero_le _
  mi := fun w hw => nomatch hw
  sl := by show (Vbcjai.own n).length = n; unfold Vbcjai.own; rw [List.length_map, List.length_range]
  st := by show total (Vbcjai.own n) ≤ 100; rw [own_total]; omega
  si := fun w hw x hx => by
    have hw : w ∈ Vbcjai.own n := hw
    unfold Vbcjai.own at hw
    obtain ⟨i, hi, rfl⟩ := List.mem_map.mp hw
    have hi := List.mem_range.mp hi
    have hx : x = 2 * i := by simpa using hx
    show x < 2 * n
    omega
theorem sok_step {S : Vbcjai.State} (ok : SOk S) (c : List (List Int)) : SOk (VbcjaiNeutral.step S c).1 := by
  unfold VbcjaiNeutral.step
  cases VbcjaiNeutral.callOf c with
  | none => exact ok
  | some x =>
    dsimp only
    have same : ∀ r : Vbcjai.State × Vbcjai.Ans, r.1 = S → SOk r.1 := fun r h => by rw [h]; exact ok
    cases x with
    | fingers n =>
      show SOk (if n < 1 ∨ 6 < n then (S, [-2]) else (⟨n.toNat, [], Vbcjai.own n.toNat⟩, [0]) : Vbcjai.State × Vbcjai.Ans).1
      by_cases g : n < 1 ∨ 6 < n
      · rw [if_pos g]; exact ok
      · rw [if_neg g]; exact sok_own (by omega) (by omega)
    | taut t => exact same _ (ofCord_fst fun _ => rfl)
    | falls m t =>
      refine same _ ?_
      show (if m < 0 ∨ Int.ofNat (2 ^ S.n) ≤ m then (S, [-2]) else Vbcjai.ofCord S t _ : Vbcjai.State × Vbcjai.Ans).1 = S
      split
      · rfl
      · exact ofCord_fst fun _ => rfl
    | sets t => exact same _ (ofCord_fst fun _ => rfl)
    | make l =>
      refine same _ ?_
      unfold Vbcjai.step
      dsimp only
      split <;> rfl
    | fits l t =>
      refine same _ ?_
      unfold Vbcjai.step
      dsimp only
      split
      · rfl
      · exact ofCord_fst fun _ => rfl
    | ring t => exact same _ (ofCord_fst fun _ => rfl)
    | alike t u => exact same _ (ofCord_fst fun _ => ofCord_fst fun _ => rfl)
    | root t => exact same _ (ofCord_fst fun _ => rfl)
    | commute t u => exact same _ (ofCord_fst fun _ => ofCord_fst fun _ => rfl)
    | join t u => exact same _ (ofCord_fst fun _ => ofCord_fst fun _ => rfl)
    | moves t =>
      rw [show Vbcjai.step S (.moves t) = _ from ofCords_is ok.n6 t _]
      cases hno : readNo S.n [59] t with
      | some m => exact ok
      | none =>
        have lt := cords_lt hno
        dsimp only
        generalize t.foldl (pieceStep S.n) [[]] = l at lt
        by_cases g : Vbcjai.MOVES < l.length ∨ Vbcjai.TOGETHER < (l.map List.length).foldr (fun a b => a + b) 0
        · rw [if_pos g]; exact ok
        · rw [if_neg g]
          have g : ¬ (6 < l.length ∨ 100 < total l) := g
          exact { ok with ml := (by show l.length ≤ 6; omega), mt := (by show total l ≤ 100; omega), mi := lt }
    | member t => exact same _ (ofCord_fst fun _ => rfl)
    | size => exact ok
    | basis => exact ok
    | write t =>
      refine same _ (ofCord_fst fun w => ?_)
      dsimp only
      split <;> rfl
    | exchange t =>
      rw [show Vbcjai.step S (.exchange t) = _ from ofCords_is ok.n6 t _]
      cases hno : readNo S.n [59] t with
      | some m => exact ok
      | none =>
        have lt := cords_lt hno
        dsimp only
        generalize t.foldl (pieceStep S.n) [[]] = l at lt
        by_cases g : l.length ≠ S.n ∨ Vbcjai.TOGETHER < (l.map List.length).foldr (fun a b => a + b) 0
        · rw [if_pos g]; exact ok
        · rw [if_neg g]
          have g : ¬ (l.length ≠ S.n ∨ 100 < total l) := g
          exact { ok with sl := (by show l.length = S.n; omega), st := (by show total l ≤ 100; omega), si := lt }
    | turn k t =>
      refine same _ ?_
      show (if k < 0 ∨ 64 < k then (S, [-2]) else Vbcjai.ofCord S t _ : Vbcjai.State × Vbcjai.Ans).1 = S
      split
      · rfl
      · refine ofCord_fst fun w => ?_
        split <;> rfl
    | onto => exact ok
/-! ### one thing left out of sight -/
section
variable {K : PySem.W.Frag} {H H' : Hp} {l : Addr} {o o' : HO}
theorem del_none : del H l l = none := by unfold del; rw [if_pos rfl]
theorem del_le (e : Ex H H') : Ex (del H l) H' := fun a u h => by
  by_cases c : a = l
  · rw [c, del_none] at h; cases h
  · rw [del_ne c] at h; exact e _ _ h
theorem del_ex (e : Ex H H') : Ex (del H l) (del H' l) := fun a u h => by
  by_cases c : a = l
  · rw [c, del_none] at h; cases h
  · rw [del_ne c] at h ⊢; exact e _ _ h
theorem del_into : Ex (del H l) (upd H l o) := fun a u h => by
  by_cases c : a = l
  · rw [c, del_none] at h; cases h
  · rw [del_ne c] at h; rw [upd_ne c]; exact h
theorem ex_del' {H0 : Hp} (e : Ex (del H0 l) H) : Ex (del H0 l) (del H l) := fun a u h => by
  by_cases c : a = l
  · rw [c, del_none] at h; cases h
  · rw [del_ne c]; exact e _ _ h
theorem del_upd : del (upd H l o) l = del H l := by
  funext a
  by_cases c : a = l
  · rw [c, del_none, del_none]
  · rw [del_ne c, del_ne c, upd_ne c]
theorem ex_del {H0 : Hp} (e : Ex H0 H) (n : H0 l = none) : Ex H0 (del H l) := fun a u h => by
  rw [del_ne (ne_of_none h n)]
  exact e _ _ h
theorem lst_del {ob : Obj} {u : HO} (hl : H l = some (.frz ob u)) {a : Addr} {xs : List V} (h : H a = some (.lst xs)) : del H l a = some (.lst xs) := by
  rw [del_ne (ne_of h hl (fun z => nomatch z))]; exact h
theorem isL_del {ob : Obj} {u : HO} (hl : H l = some (.frz ob u)) {v : V} {xs : List V} (r : IsL xs v H) : IsL xs v (del H l) := by
  obtain ⟨q, e, h⟩ := r
  exact ⟨q, e, lst_del hl h⟩
theorem lstOf_del {β : Type} {f : β → List V} {ob : Obj} {u : HO} (hl : H l = some (.frz ob u)) {v : V} {rs : List β} (r : LstOf (fun b => IsL (f b)) rs v H) : LstOf (fun b => IsL (f b)) rs v (del H l) := by
  obtain ⟨q, xs, e, h, pr⟩ := r
  exact ⟨q, xs, e, lst_del hl h, paired_stay pr fun b x r => isL_del hl r⟩
theorem hand_del {C p : Addr} {S : Vbcjai.State} {ob : Obj} {u : HO} (hl : H l = some (.frz ob u)) (h : HandAt C H p S) : HandAt C (del H l) p S := by
  obtain ⟨dx, a, b, hp, r1, r2⟩ := h
  exact ⟨dx, a, b, by rw [del_ne (ne_of hp hl (fun z => nomatch z))]; exact hp, lstOf_del hl r1, lstOf_del hl r2⟩
end
theorem st_answered {σ : L2.St} {H : Hp} {D : Ends} {c : Cl3} {i : Nat} {E : XK} {ta : TA} {p : Addr} {S : Vbcjai.State} {k : Nat} {xs : List Int} {rs : List (List Int)} (h : EA ta σ H [IsV (.ref p), IsI (k : Int), IsL (xs.map V.int), LstOf RowR rs]) (hk : k < 19) (hA : HandAt c.H H p S) (ok : SOk S)
    (hask : VbcjaiNeutral.asked1 (((k : Int) :: xs) :: rs) = true) (hl : (VbcjaiNeutral.step S (((k : Int) :: xs) :: rs)).2.length ≤ 15000000)
    (kk : ∀ q H', ExB [p] H H' → HandAt c.H H' p (VbcjaiNeutral.step S (((k : Int) :: xs) :: rs)).1 → H' q = some (.lst ((VbcjaiNeutral.step S (((k : Int) :: xs) :: rs)).2.map V.int)) → D.nx (σ.set i (some (.ref q))) H') : tAsg (tCall (spAnswered c) [] E ta) (gName i) D σ H := h H Ex.rfl _ fun vs H7 e7 r7 => by
  obtain ⟨a1, a2, a3, a4, rfl, ra1, ra2, ra3, ra4⟩ := all4 r7
  cases ra1
  cases ra2
  refine ⟨p, S, k, xs, rs, a3, a4, rfl, hk, hA.mono e7, ok, ra3, ra4, hask, hl, fun v H8 bx8 hA8 ⟨q8, ev, _, hq⟩ => ?_⟩
  subst ev
  exact kk q8 H8 ((ExB.of e7).trans bx8) hA8 hq
/-! ### the answers -/
def spAns (K : PySem.W.Frag) : Sp := fun vs H Q _ => ∃ (a : Addr) (ns : List Int), vs = [.ref a] ∧ SqL K H a (ns.map V.int) ∧ ns.length ≤ 17000 ∧ PyVbcjai.answers_asked ns = true ∧ ∀ (H' : Hp) (p : Addr), H' p = some (.lst ((PyVbcjai.answers ns).map V.int)) → Q (.ref p) H'
section
variable {P : Program} {w : World} {K : PySem.W.Frag} {mg : Str → Option Value} {base : Heap} {c : Cl3}
abbrev s_answers : Stmt := (top 116)
abbrev N_answers : List Str := ["calls", "hand", "found", "place", "call", "behind", "rows", "place_behind", "told"]
theorem sc_answers : FnScope ["calls", "hand", "found", "place", "call", "behind", "rows", "place_behind", "told"] ["calls"] (defScope s_answers) := ⟨rfl, rfl, rfl, by decide +kernel, rfl, by decide +kernel, by decide +kernel⟩
theorem b_answers : BindsP "answers" "answers" s_answers ["calls"] := fun _ _ _ _ _ _ us hl => match us, hl with | [_], _ => rfl
theorem ok_answersF {fa : Addr} {fda : FuncData} (F : Fun K "answers" "answers" s_answers fa fda) (T : Txt K mg c) : FnOk P w K mg base CX0 9 fa fda ["calls"] (spAns K) := by
  obtain ⟨dN, hmNUMBERS, hsN⟩ := T.NUMBERS
  obtain ⟨dR, hmROWS, hsR⟩ := T.ROWS
  refine F.ok sc_answers (fun vs H Q E h => ?_) (fun cdv A outer s H vs Q E hr h => ⟨_, (pss_cons (ps_set (i := 1) sc_answers.nd rfl (.inl rfl) (pmake0 (E := E) T.Hand (ok_hand_init T) (hr.mono (by decide)) rfl))
      (pss_cons (ps_par (i := 2) (j := 3) rfl sc_answers.nd rfl rfl (by decide) rfl rfl (pa_cons (pe_lst pa_nil) (pa_cons pe_int pa_nil)) (by rfl))
      (pss_cons (ps_while PassesOwn.never (pt_cmpR op_lt (pv 3) (pe_callB (r := Evl.rLenS K) call_len_seq (by rfl) T.len PySem.boot_len (pa_cons (pv 0) pa_nil)) (nomark _)) (pss_cons (ps_set (i := 4) sc_answers.nd rfl (.inl rfl) (pe_ix (r := rIxL K) ix_list (pv 0) (pv 3) (fun _ _ => rfl)))
      (pss_cons (ps_set (i := 5) sc_answers.nd rfl (.inl rfl) (pe_op op_add (pe_op op_add (pv 3) pe_int) (pe_ix (r := rIxT K) ix_tup (pkept hmNUMBERS rfl) (pv 4) (fun _ _ => rfl))))
      (pss_cons (ps_lock (ps_asg (pcall (ok_rows_from T) (hr.mono (by decide)) rfl pass0 (pa_cons (pv 0) (pa_cons (pv 5) (pa_cons (pe_ix (r := rIxT K) ix_tup (pkept hmROWS rfl) (pv 4) (fun _ _ => rfl)) pa_nil)))) (pg_tupK (K := K) (n := 2) rfl rfl (pgs_cons (pg_name (i := 6) sc_answers.nd rfl (.inl rfl)) (pgs_cons (pg_name (i := 7) sc_answers.nd rfl (.inl rfl)) pgs_nil)))))
      (pss_cons (ps_lock (ps_set (i := 8) sc_answers.nd rfl (.inl rfl) (pcall (ok_answered T) (hr.mono (by decide)) rfl pass0 (pa_cons (pv 1) (pa_cons (pv 4) (pa_cons (pe_slice sl_list (pv 0) (po_some (pe_op op_add (pv 3) pe_int)) (po_some (pv 5))) (pa_cons (pv 6) pa_nil)))))))
      (pss_cons (ps_expr (pe_bm PySem.F.plainAttrs_list PySem.F.slot_list_append PySem.F.type_list_append mt_append (pv 2) (pa_cons (pe_callB (r := Evl.rLenS K) call_len_seq (by rfl) T.len PySem.boot_len (pa_cons (pv 8) pa_nil)) pa_nil)))
      (pss_cons (ps_expr (pe_bm PySem.F.plainAttrs_list PySem.F.slot_list_extend PySem.F.type_list_extend mt_extend (pv 2) (pa_cons (pv 8) pa_nil)))
      (pss_one (ps_set (i := 3) sc_answers.nd rfl (.inl rfl) (pv 7))))))))))
      (pss_one (ps_ret (pv 2)))))), ?_⟩)
  · obtain ⟨a, ns, rfl, _⟩ := h; rfl
  · obtain ⟨a0, ls, rfl, hS, hz, hask, q⟩ := h
    obtain ⟨raw, hraw, hcs, hlen, hans⟩ := asked_is hask
    rw [hans] at q hlen
    have rq : IsQ K (ls.map V.int) (.ref a0) H := ⟨a0, rfl, hS⟩
    generalize V.ref a0 = v0 at rq
    refine st_seq (show tAsg _ (gName 1) _ _ _ from fun p dx np ndx nep => ?_)
    refine ⟨p, dx, rfl, upd_same, fun H1 kp hA1 => ⟨rfl, ?_⟩⟩
    have e1 : Ex H H1 := fun x o h => kp x o (by rw [upd_ne (ne_of_none h np), upd_ne (ne_of_none h ndx)]; exact h) (ne_of_none h np)
    dsimp only
    refine st_seq (show tPar 2 3 _ _ _ _ from ⟨Nat.zero_le _, fun l hn => ⟨_, _, rfl, ?_⟩⟩)
    have e2 : Ex H1 (upd H1 l (.lst [])) := Evl.Ex.new hn
    have hl : (upd H1 l (.lst [])) l = some (.lst (([] : List Int).map V.int)) := upd_same
    dsimp only
    generalize (upd H1 l (.lst [])) = H2 at e2 hl
    have nl : H l = none := Evl.fresh_back e1 hn
    have pl : p ≠ l := by
      obtain ⟨_, _, _, hp, _⟩ := hA1
      exact ne_of_none hp hn
    have hA2 : HandAt c.H (del H2 l) p Vbcjai.start := hA1.mono (ex_del e2 hn)
    have eH2 : Ex H (del H2 l) := ex_del (e1.trans e2) nl
    refine st_seq (Evl.s_while (fun m σ' H' => ∃ (at_ : Nat) (o4 o5 o6 o7 o8 : Option V) (S : Vbcjai.State) (acc : List Int) (f : Nat) (cs : List (List (List Int))), σ' = [some v0, some (.ref p), some (.ref l), some (.int (at_ : Int)), o4, o5, o6, o7, o8] ∧ Ex H (del H' l) ∧ HandAt c.H (del H' l) p S ∧ SOk S ∧ H' l = some (.lst (acc.map V.int)) ∧
        PyFlat.calls PyVbcjai.shape f (ls.drop at_) = some cs ∧ (∀ d ∈ cs, VbcjaiNeutral.asked1 d = true) ∧ PyFlat.told (PyFlat.played VbcjaiNeutral.step VbcjaiNeutral.start raw) = acc ++ PyFlat.told (PyFlat.played VbcjaiNeutral.step S cs) ∧ at_ ≤ ls.length ∧ m + at_ = ls.length) ls.length
      ⟨0, _, _, _, _, _, Vbcjai.start, [], ls.length, raw, rfl, eH2, hA2, sok_own (by decide) (by decide), hl, hraw, hcs, rfl, Nat.zero_le _, rfl⟩ (fun m σ' H' hW => ?_))
    obtain ⟨at_, o4, o5, o6, o7, o8, S, acc, f, cs, rfl, eH, hA, ok, hl', hcalls, hask', htold, hat, hm⟩ := hW
    have rq' : ∀ H3, Ex (del H' l) H3 → IsQ K (ls.map V.int) v0 H3 := fun H3 e3 => rmono (IsQ K (ls.map V.int)) (eH.trans e3) rq
    refine ⟨decide (at_ < ls.length), et_is (et_test (er_I0 (er_n at_ rfl) (er_lenQ (er_var (R := IsQ K (ls.map V.int)) (rq' _ (del_le .rfl)) rfl)))) ?_, fun hb H3 e3 => ?_, fun hb H3 e3 => ?_⟩
    · rw [List.length_map]
      exact decide_eq_decide.mpr (by omega)
    · have hlt := of_decide_eq_true hb
      obtain ⟨z, r, hd⟩ : ∃ z r, ls.drop at_ = z :: r := ⟨_, _, List.drop_eq_getElem_cons hlt⟩
      rw [hd] at hcalls
      obtain ⟨f', d, t, cs', hcall, hcalls', rfl⟩ := calls_cons hcalls
      obtain ⟨k, n, nr, xs, hk, rfl, hkn, hkr, hnl, hrows, rfl⟩ := call_is hcall
      obtain ⟨g1, rfl, _⟩ := drop_cons hd
      rw [List.drop_drop] at hrows
      rw [List.length_drop] at hnl
      obtain ⟨b, rfl, hb1, hb2⟩ := rows_drop hrows (by omega)
      have hd1 := hask' _ List.mem_cons_self
      have told_step : PyFlat.told (PyFlat.played VbcjaiNeutral.step S ((((k : Int) :: (ls.drop (at_ + 1)).take n) :: xs) :: cs')) = ((((VbcjaiNeutral.step S (((k : Int) :: (ls.drop (at_ + 1)).take n) :: xs)).2.length : Nat) : Int) :: (VbcjaiNeutral.step S (((k : Int) :: (ls.drop (at_ + 1)).take n) :: xs)).2) ++ PyFlat.told (PyFlat.played VbcjaiNeutral.step (VbcjaiNeutral.step S (((k : Int) :: (ls.drop (at_ + 1)).take n) :: xs)).1 cs') := rfl
      rw [told_step] at htold
      have okn := sok_step ok (((k : Int) :: (ls.drop (at_ + 1)).take n) :: xs)
      have nr2 : nr ≤ 100 := by
        have : ∀ m, m < 19 → ∀ r, ROWN[m]? = some r → r ≤ 100 := fun m hm r hr => by
          have z : ∀ x ∈ ROWN, x ≤ 100 := by decide
          exact z r (List.mem_of_getElem? hr)
        exact this k hk nr hkr
      have la : acc.length + 1 + (VbcjaiNeutral.step S (((k : Int) :: (ls.drop (at_ + 1)).take n) :: xs)).2.length ≤ 10000000 := by
        have z := hlen
        rw [htold, List.length_append, List.length_append, List.length_cons] at z
        omega
      refine ⟨_, fun σ2 H2 h => h, ?_⟩
      refine st_seq (st_asg (er_ixQ (v := .int (k : Int)) (er_var (R := IsQ K (ls.map V.int)) (rq' _ (del_le e3)) rfl) (er_n at_ rfl) (atI_nat (by rw [List.getElem?_map, g1]; rfl))) fun kv H4 e4 rk => ?_)
      have ek : kv = .int (k : Int) := rk
      subst ek
      dsimp only
      refine st_seq (st_asg (er_add (er_add (er_n at_ rfl) er_c) (er_ixK (v := .int (n : Int)) hsN er_c (er_n k rfl) (atI_nat (show (iv NUMS)[k]? = _ by unfold iv; rw [List.getElem?_map, hkn]; rfl)))) fun bv H5 e5 rb => ?_)
      have eb : bv = .int ((at_ + 1 + n : Nat) : Int) := rb
      subst eb
      dsimp only
      have e35 := (e3.trans e4).trans e5
      have hl5 := e35 _ _ hl'
      -- the rows
      refine st_seq (show tLock _ _ _ _ from ⟨l, .lst (acc.map V.int), hl5, trivial, fun od => ?_⟩)
      have ef : Ex (del H' l) (upd H5 l (.frz od (.lst (acc.map V.int)))) := (del_ex e35).trans del_into
      have hlf : (upd H5 l (.frz od (.lst (acc.map V.int)))) l = some (.frz od (.lst (acc.map V.int))) := upd_same
      generalize (upd H5 l (.frz od (.lst (acc.map V.int)))) = Hf at ef hlf
      refine st_pair (er_call (ls, at_ + 1 + n, nr, xs, b) (ea_cons (er_var (R := IsQ K (ls.map V.int)) (rq' _ ef) rfl) (ea2 (er_n (at_ + 1 + n) rfl) (er_ixK (v := .int (nr : Int)) hsR er_c (er_n k rfl) (atI_nat (show (iv ROWN)[k]? = _ by unfold iv; rw [List.getElem?_map, hkr]; rfl))))) ⟨hrows, by dsimp only; omega, hb2, by dsimp only; omega, nr2⟩) fun rv pv H6 e6 rr rp => ?_
      have ep : pv = .int (b : Int) := rp
      subst ep
      dsimp only at rr
      dsimp only
      have hl6 := e6 _ _ hlf
      refine ⟨hl6, ?_⟩
      have e6' : Ex (del H' l) (del H6 l) := (ex_del' ef).trans (del_ex e6)
      have rr6 : LstOf RowR xs rv (del H6 l) := lstOf_del hl6 rr
      -- the answer
      refine st_seq (show tLock _ _ _ _ from ⟨l, .lst (acc.map V.int), upd_same, trivial, fun od2 => ?_⟩)
      have eg : Ex (del H6 l) (upd (upd H6 l (.lst (acc.map V.int))) l (.frz od2 (.lst (acc.map V.int)))) := by
        have := del_into (H := upd H6 l (.lst (acc.map V.int))) (l := l) (o := .frz od2 (.lst (acc.map V.int)))
        rw [del_upd] at this
        exact this
      have hlg : (upd (upd H6 l (.lst (acc.map V.int))) l (.frz od2 (.lst (acc.map V.int)))) l = some (.frz od2 (.lst (acc.map V.int))) := upd_same
      generalize (upd (upd H6 l (.lst (acc.map V.int))) l (.frz od2 (.lst (acc.map V.int)))) = Hg at eg hlg
      have e0g := e6'.trans eg
      have cut := er_cutQ (K := K) (H := Hg) (te := tVar 0) (ta := tOp (rI0 fun i j => .int (i + j)) (tVar 3) (tC (.int 1))) (tb := tVar 5) (σ := [some v0, some (V.ref p), some (V.ref l), some (.int (at_ : Int)), some (.int (k : Int)), some (.int ((at_ + 1 + n : Nat) : Int)), some rv, some (.int (b : Int)), o8]) (xs := ls.map V.int) (j := at_ + 1) (k := at_ + 1 + n) (er_var (R := IsQ K (ls.map V.int)) (rq' _ e0g) rfl) (er_add (er_n at_ rfl) er_c) (er_n (at_ + 1 + n) rfl) (by rw [List.length_map]; omega) (by rw [List.length_map]; omega)
      have ecut : ((ls.map V.int).drop (at_ + 1)).take (at_ + 1 + n - (at_ + 1)) = ((ls.drop (at_ + 1)).take n).map V.int := by
        rw [← List.map_drop, ← List.map_take]
        congr 2
        omega
      rw [ecut] at cut
      refine st_answered (ea_cons (er_ref rfl) (ea_cons (er_n k rfl) (ea2 cut (er_var (R := LstOf RowR xs) (rmono (LstOf RowR xs) eg rr6) rfl)))) hk (hA.mono e0g) ok hd1 (by omega) fun q8 H8 bx8 hA8 hq => ?_
      have hl8 : H8 l = some (.frz od2 (.lst (acc.map V.int))) := bx8 _ _ (by simp [pl.symm]) hlg
      dsimp only
      refine ⟨hl8, ?_⟩
      have e8 : Ex H (del H8 l) := ex_del (ExB.ex (eH.trans e0g) bx8 fun l' m => by rw [List.mem_singleton.mp m]; exact np) nl
      generalize VbcjaiNeutral.step S (((k : Int) :: (ls.drop (at_ + 1)).take n) :: xs) = st at hA8 hq okn la htold
      have hA8' := hand_del hl8 hA8
      have hq8 := lst_del hl8 hq
      have i8 : Ex (del H8 l) (upd H8 l (.lst (acc.map V.int))) := del_into
      have d8 : del (upd H8 l (.lst (acc.map V.int))) l = del H8 l := del_upd
      have hl9 : (upd H8 l (.lst (acc.map V.int))) l = some (.lst (acc.map V.int)) := upd_same
      generalize (upd H8 l (.lst (acc.map V.int))) = H9 at i8 d8 hl9
      rw [← d8] at e8 hA8' hq8
      refine st_seq (st_append (R := IsI ((st.2.length : Nat) : Int)) hl9 (er_ref rfl) (er_lenI (er_at (er_ref rfl) (del_le .rfl _ _ hq8)) (by rw [List.length_map])) (by rw [List.length_map]; omega) fun v H10 e10 r10 => ?_)
      have hl11 : (upd H10 l (.lst (acc.map V.int ++ [v]))) l = some (.lst ((acc ++ [((st.2.length : Nat) : Int)]).map V.int)) := by
        rw [upd_same, List.map_append, show v = _ from r10]
        rfl
      have d11 : Ex (del H9 l) (del (upd H10 l (.lst (acc.map V.int ++ [v]))) l) := by rw [del_upd]; exact del_ex e10
      dsimp only
      generalize (upd H10 l (.lst (acc.map V.int ++ [v]))) = H11 at hl11 d11
      refine st_seq (st_extend (ys := st.2.map V.int) hl11 (er_ref rfl) (er_at (er_ref rfl) (del_le .rfl _ _ (d11 _ _ hq8))) (by rw [List.length_map, List.length_map, List.length_append]; simp; omega) fun H12 e12 => ?_)
      have hl13 : (upd H12 l (.lst ((acc ++ [((st.2.length : Nat) : Int)]).map V.int ++ st.2.map V.int))) l = some (.lst ((acc ++ [((st.2.length : Nat) : Int)] ++ st.2).map V.int)) := by rw [upd_same, ← List.map_append]
      have d13 : Ex (del H11 l) (del (upd H12 l (.lst ((acc ++ [((st.2.length : Nat) : Int)]).map V.int ++ st.2.map V.int))) l) := by rw [del_upd]; exact del_ex e12
      dsimp only
      generalize (upd H12 l (.lst ((acc ++ [((st.2.length : Nat) : Int)]).map V.int ++ st.2.map V.int))) = H13 at hl13 d13
      have d14 := d11.trans d13
      refine st_asg (er_n b rfl) fun v2 H14 e14 r14 => ⟨m - (b - at_), by omega, b, some (.int (k : Int)), some (.int ((at_ + 1 + n : Nat) : Int)), some rv, some (.int (b : Int)), some (.ref q8), st.1, acc ++ [((st.2.length : Nat) : Int)] ++ st.2, f', cs', ?_, (e8.trans d14).trans (del_ex e14), (hA8'.mono d14).mono (del_ex e14), okn, e14 _ _ hl13, hcalls', fun d hd => hask' d (List.mem_cons_of_mem _ hd), ?_, hb2, by omega⟩
      · rw [show v2 = _ from r14]
        rfl
      · rw [htold]
        simp
    · have hge := of_decide_eq_false hb
      rw [show at_ = ls.length by omega, List.drop_length] at hcalls
      have ec := calls_nil hcalls
      subst ec
      have htold : PyFlat.told (PyFlat.played VbcjaiNeutral.step VbcjaiNeutral.start raw) = acc ++ [] := htold
      rw [List.append_nil] at htold
      refine st_ret (er_ref rfl) fun v H4 e4 r4 => ?_
      rw [show v = _ from r4]
      refine q H4 l ?_
      rw [htold]
      exact (e3.trans e4) _ _ hl'
end
end Fc
set_option maxRecDepth 100000
set_option maxHeartbeats 4000000
namespace Fc
open PySem PySem.Spec PyProof.Rows L2
/-! ### what the program's top leaves -/
section
variable {K : PySem.W.Frag} {h : Heap} {mg : Str → Option Value} {g x qual m : Str} {st : Stmt} {f C : Addr} {oc : Value} {od an : Option Addr} {osl : Array (Option Value)} {kV doc pm cdv ct : Value}
def DefF (K : PySem.W.Frag) (g x qual : Str) (st : Stmt) : Prop := ∃ (f : Addr) (fd : FuncData), Fun K x qual st f fd ∧ PySem.W.nsIn K mainGlobals g = some (some (.ref f))
theorem def_mk (a : PySem.W.nsIn K mainGlobals g = some (some (.ref f))) (l : K.lookup f = some ⟨oc, od, .func (PySem.W.fnOf x qual (defArgs st) (defBody st) (defScope st) .none kV doc pm an cdv ct), osl⟩) (c : PySem.W.codeIn K cdv qual = true) (k : PySem.W.keepIn K (.ref f) = true) : DefF K g x qual st := ⟨f, _, fun_mk l c k, a⟩
theorem def_has (X : K.In h) (G : h.Ns mainGlobals mg) (d : DefF K g x qual st) : Has K mg g x qual st := let ⟨f, fd, F, e⟩ := d; ⟨f, fd, F, PySem.W.mg_of X G e⟩
theorem meth_mk (a : PySem.W.findIn K (.ref C) m = some (some (.ref f))) (i : PySem.W.isFn K (.ref f) = true) (l : K.lookup f = some ⟨oc, od, .func (PySem.W.fnOf m qual (defArgs st) (defBody st) (defScope st) .none kV doc pm an cdv ct), osl⟩) (c : PySem.W.codeIn K cdv qual = true) (k : PySem.W.keepIn K (.ref f) = true) : MHas K C m qual st := ⟨f, _, fun_mk l c k, a, i⟩
def InitF (K : PySem.W.Frag) (C : Addr) (m qual : Str) (st : Stmt) : Prop := ∃ (f : Addr) (fd : FuncData), Fun K m qual st f fd ∧ PySem.W.findIn K (.ref C) m = some (some (.ref f)) ∧ PySem.W.typeIn K (.ref f) = some (.type "function")
theorem init_mk (a : PySem.W.findIn K (.ref C) m = some (some (.ref f))) (t : PySem.W.typeIn K (.ref f) = some (.type "function")) (l : K.lookup f = some ⟨oc, od, .func (PySem.W.fnOf m qual (defArgs st) (defBody st) (defScope st) .none kV doc pm an cdv ct), osl⟩) (c : PySem.W.codeIn K cdv qual = true) (k : PySem.W.keepIn K (.ref f) = true) : InitF K C m qual st := ⟨f, _, fun_mk l c k, a, t⟩
theorem exc_mk {nm q : Str} {N : Addr} {bs : List Value} {sn : List Str} {sub : List Value} {ab : Bool} {col : Option Bool} {dd : Option Addr} {k0 k1 k2 k3 k5 : Option Value} (l : K.lookup C = some (excClassObj nm q C N bs PySem.ESX.exTail true sn sub ab col dd k0 k1 k2 k3 k5 "Exception.__new__")) :
    ∃ nm q N bs sn sub ab col dd k0 k1 k2 k3 k5, K.lookup C = some (excClassObj nm q C N bs PySem.ESX.exTail true sn sub ab col dd k0 k1 k2 k3 k5 "Exception.__new__") := ⟨_, _, _, _, _, _, _, _, _, _, _, _, _, _, l⟩
theorem exm_self {S : Addr} (h1 : PySem.W.subIn K (.ref S) (.type "BaseException") = some true) (h2 : PySem.W.isClsIn K S = true) (h3 : PySem.W.typeIn K (.ref S) = some (.type "type")) (h4 : PySem.W.subIn K (.ref S) (.ref S) = some true) :
    PySem.W.exmOne K (.ref S) (.ref S) = some true := by
  have e1 : (PySem.W.subIn K (.ref S) (.type "BaseException") == some true) = true := by rw [h1] <;> rfl
  have e2 : ((PySem.W.clsIn K S).isSome && PySem.W.typeIn K (.ref S) == some (.type "type")) = true := by
    have h2' : (PySem.W.clsIn K S).isSome = true := h2
    rw [h2', h3] <;> rfl
  show (if (PySem.W.subIn K (.ref S) (.type "BaseException") == some true) = true then (if ((PySem.W.clsIn K S).isSome && PySem.W.typeIn K (.ref S) == some (.type "type")) = true then PySem.W.subIn K (.ref S) (.ref S) else none) else none) = some true
  rw [if_pos e1, if_pos e2]
  exact h4
theorem const_mk {i : Int} {t : Nat} (e : PySem.W.nsIn K mainGlobals g = some (some (.int i t))) : ∃ t, PySem.W.nsIn K mainGlobals g = some (some (.int i t)) := ⟨t, e⟩
def valsB : List V → List Value → Bool
  | [], [] => true
  | .int i :: xs, .int j _ :: us => i == j && valsB xs us
  | _, _ => false
theorem vals_of : ∀ {xs : List V} {us : List Value}, valsB xs us = true → Vals xs us
  | [], [], _ => .nil
  | .int i :: xs, .int j t :: us, h => by
    have q := Bool.and_eq_true_iff.mp (show (i == j && valsB xs us) = true from h)
    have e : i = j := by simpa using q.1
    subst e
    exact .cons ⟨t, rfl⟩ (vals_of q.2)
def TupF (K : PySem.W.Frag) (g : Str) (xs : List V) : Prop := ∃ d, PySem.W.nsIn K mainGlobals g = some (some (.ref d)) ∧ ∀ H, SqT K H d xs
theorem tup_mk {d : Addr} {dd : Option Addr} {its : Array Value} {n : Nat} {xs : List V} (a : PySem.W.nsIn K mainGlobals g = some (some (.ref d))) (l : K.lookup d = some ⟨.type "tuple", dd, .seq its n, osl⟩) (v : (decide (its.size ≤ 1000) && valsB xs its.toList) = true) : TupF K g xs := by
  have q := Bool.and_eq_true_iff.mp v
  exact ⟨d, a, fun H => .inr ⟨_, its, n, l, rfl, rfl, Nat.le_trans (of_decide_eq_true q.1) (by decide), vals_of q.2⟩⟩
theorem tup_has {xs : List V} (X : K.In h) (G : h.Ns mainGlobals mg) (t : TupF K g xs) : ∃ d, mg g = some (.ref d) ∧ ∀ H, SqT K H d xs := let ⟨d, e, q⟩ := t; ⟨d, PySem.W.mg_of X G e, q⟩
/-- a tuple of defs, by their names -/
def deedB (K : PySem.W.Frag) : List Str → List Value → Option (List Addr)
  | [], [] => some []
  | g :: gs, .ref a :: us => match PySem.W.nsIn K mainGlobals g with
    | some (some (.ref b)) => if a = b then (deedB K gs us).map (a :: ·) else none
    | _ => none
  | _, _ => none
theorem deed_of : ∀ {gs : List Str} {us : List Value} {fs : List Addr}, deedB K gs us = some fs → Vals (fs.map V.ref) us ∧ gs.map (PySem.W.nsIn K mainGlobals) = fs.map fun f => some (some (.ref f))
  | [], [], fs, h => by
    cases h
    exact ⟨.nil, rfl⟩
  | g :: gs, .ref a :: us, fs, h => by
    have h : (match PySem.W.nsIn K mainGlobals g with
      | some (some (.ref b)) => if a = b then (deedB K gs us).map (a :: ·) else none
      | _ => none) = some fs := h
    split at h
    · rename_i b e
      by_cases c : a = b
      · rw [if_pos c] at h
        subst c
        obtain ⟨fs', h1, rfl⟩ := Option.map_eq_some_iff.mp h
        obtain ⟨q1, q2⟩ := deed_of h1
        exact ⟨.cons rfl q1, by rw [List.map_cons, List.map_cons, q2, e]⟩
      · rw [if_neg c] at h; cases h
    · cases h
def DeedF (K : PySem.W.Frag) (gs : List Str) : Prop := ∃ (d : Addr) (fs : List Addr), PySem.W.nsIn K mainGlobals "DEEDS" = some (some (.ref d)) ∧ (∀ H, SqT K H d (fs.map V.ref)) ∧ gs.map (PySem.W.nsIn K mainGlobals) = fs.map fun f => some (some (.ref f))
theorem deed_mk {d : Addr} {dd : Option Addr} {its : Array Value} {n : Nat} {gs : List Str} (a : PySem.W.nsIn K mainGlobals "DEEDS" = some (some (.ref d))) (l : K.lookup d = some ⟨.type "tuple", dd, .seq its n, osl⟩) (v : (decide (its.size ≤ 1000) && (deedB K gs its.toList).isSome) = true) : DeedF K gs := by
  have q := Bool.and_eq_true_iff.mp v
  obtain ⟨fs, e⟩ := Option.isSome_iff_exists.mp q.2
  obtain ⟨q1, q2⟩ := deed_of e
  exact ⟨d, fs, a, fun H => .inr ⟨_, its, n, l, rfl, rfl, Nat.le_trans (of_decide_eq_true q.1) (by decide), q1⟩, q2⟩
theorem mg_all (X : K.In h) (G : h.Ns mainGlobals mg) : ∀ {gs : List Str} {fs : List Addr}, gs.map (PySem.W.nsIn K mainGlobals) = fs.map (fun f => some (some (Value.ref f))) → gs.map mg = fs.map fun f => some (.ref f)
  | [], [], _ => rfl
  | [], _ :: _, e => by cases e
  | _ :: _, [], e => by cases e
  | g :: gs, f :: fs, e => by
    rw [List.map_cons, List.map_cons] at e
    injection e with e1 e2
    rw [List.map_cons, List.map_cons, PySem.W.mg_of X G e1, mg_all X G e2]
theorem deed_has {gs : List Str} (X : K.In h) (G : h.Ns mainGlobals mg) (t : DeedF K gs) : ∃ (d : Addr) (fs : List Addr), mg "DEEDS" = some (.ref d) ∧ (∀ H, SqT K H d (fs.map V.ref)) ∧ gs.map mg = fs.map fun f => some (.ref f) := let ⟨d, fs, e, q, r⟩ := t; ⟨d, fs, PySem.W.mg_of X G e, q, mg_all X G r⟩
end
theorem all_mk {P : Program} {w : World} {K : PySem.W.Frag} {h : Heap} {mg : Str → Option Value} {fa cR cH cW : Addr} (X : K.In h) (G : h.Ns mainGlobals mg) (hfa : mg "answers" = some (.ref fa))
    (gR : PySem.W.nsIn K mainGlobals "Refused" = some (some (.ref cR)))
    (gH : PySem.W.nsIn K mainGlobals "Hand" = some (some (.ref cH)))
    (gW : PySem.W.nsIn K mainGlobals "Ways" = some (some (.ref cW)))
    (d_undo : DefF K "undo" "undo" "undo" (top 12))
    (d_finger_of : DefF K "finger_of" "finger_of" "finger_of" (top 13))
    (d_small_turn : DefF K "small_turn" "small_turn" "small_turn" (top 14))
    (d_turn_read : DefF K "turn_read" "turn_read" "turn_read" (top 15))
    (d_letter_of : DefF K "letter_of" "letter_of" "letter_of" (top 16))
    (d_letters_of : DefF K "letters_of" "letters_of" "letters_of" (top 17))
    (d_pulled_taut : DefF K "pulled_taut" "pulled_taut" "pulled_taut" (top 18))
    (d_turned_back : DefF K "turned_back" "turned_back" "turned_back" (top 19))
    (d_thread_of : DefF K "thread_of" "thread_of" "thread_of" (top 21))
    (d_loop_of : DefF K "loop_of" "loop_of" "loop_of" (top 22))
    (d_loops_of : DefF K "loops_of" "loops_of" "loops_of" (top 23))
    (d_unlike : DefF K "unlike" "unlike" "unlike" (top 24))
    (d_clash : DefF K "clash" "clash" "clash" (top 25))
    (d_put_for_graphs : DefF K "put_for_graphs" "put_for" "put_for" (top 26))
    (d_put_for_swaps : DefF K "put_for_swaps" "put_for" "put_for" (top 63))
    (d_made_one : DefF K "made_one" "made_one" "made_one" (top 28))
    (d_graph_of : DefF K "graph_of" "graph_of" "graph_of" (top 29))
    (d_leads_of : DefF K "leads_of" "leads_of" "leads_of" (top 30))
    (d_end_of : DefF K "end_of" "end_of" "end_of" (top 31))
    (d_is_made : DefF K "is_made" "is_made" "is_made" (top 32))
    (d_knots_of : DefF K "knots_of" "knots_of" "knots_of" (top 33))
    (d_leads_on : DefF K "leads_on" "leads_on" "leads_on" (top 34))
    (d_is_full : DefF K "is_full" "is_full" "is_full" (top 35))
    (d_sets_of : DefF K "sets_of" "sets_of" "sets_of" (top 38))
    (d_has_finger : DefF K "has_finger" "has_finger" "has_finger" (top 39))
    (d_fingers_in : DefF K "fingers_in" "fingers_in" "fingers_in" (top 40))
    (d_falls : DefF K "falls" "falls" "falls" (top 41))
    (d_want_let_go : DefF K "want_let_go" "want_let_go" "want_let_go" (top 42))
    (d_in_order : DefF K "in_order" "in_order" "in_order" (top 43))
    (d_lies_within : DefF K "lies_within" "lies_within" "lies_within" (top 44))
    (d_least_sets : DefF K "least_sets" "least_sets" "least_sets" (top 45))
    (d_want_sets : DefF K "want_sets" "want_sets" "want_sets" (top 46))
    (d_part_for : DefF K "part_for" "part_for" "part_for" (top 47))
    (d_cord_made : DefF K "cord_made" "cord_made" "cord_made" (top 48))
    (d_meets_all : DefF K "meets_all" "meets_all" "meets_all" (top 49))
    (d_fits : DefF K "fits" "fits" "fits" (top 50))
    (d_off_at_ends : DefF K "off_at_ends" "off_at_ends" "off_at_ends" (top 52))
    (d_middle_of : DefF K "middle_of" "middle_of" "middle_of" (top 53))
    (d_first_of_all : DefF K "first_of_all" "first_of_all" "first_of_all" (top 54))
    (d_one_form : DefF K "one_form" "one_form" "one_form" (top 55))
    (d_are_alike : DefF K "are_alike" "are_alike" "are_alike" (top 56))
    (d_are_the_same : DefF K "are_the_same" "are_the_same" "are_the_same" (top 57))
    (d_shortest_part : DefF K "shortest_part" "shortest_part" "shortest_part" (top 58))
    (d_root_of : DefF K "root_of" "root_of" "root_of" (top 59))
    (d_own_letters : DefF K "own_letters" "own_letters" "own_letters" (top 62))
    (d_exchanged : DefF K "exchanged" "exchanged" "exchanged" (top 65))
    (d_exchanged_often : DefF K "exchanged_often" "exchanged_often" "exchanged_often" (top 66))
    (d_want_short : DefF K "want_short" "want_short" "want_short" (top 70))
    (d_want_letters : DefF K "want_letters" "want_letters" "want_letters" (top 71))
    (d_cord_read : DefF K "cord_read" "cord_read" "cord_read" (top 72))
    (d_cords_read : DefF K "cords_read" "cords_read" "cords_read" (top 73))
    (d_turns_together : DefF K "turns_together" "turns_together" "turns_together" (top 74))
    (d_passed : DefF K "passed" "passed" "passed" (top 77))
    (d_ways_of : DefF K "ways_of" "ways_of" "ways_of" (top 78))
    (d_free_threads : DefF K "free_threads" "free_threads" "free_threads" (top 79))
    (d_basis_of : DefF K "basis_of" "basis_of" "basis_of" (top 80))
    (d_told_by_basis : DefF K "told_by_basis" "told_by_basis" "told_by_basis" (top 81))
    (d_two_read : DefF K "two_read" "two_read" "two_read" (top 87))
    (d_do_fingers : DefF K "do_fingers" "do_fingers" "do_fingers" (top 88))
    (d_do_taut : DefF K "do_taut" "do_taut" "do_taut" (top 89))
    (d_do_falls : DefF K "do_falls" "do_falls" "do_falls" (top 90))
    (d_do_sets : DefF K "do_sets" "do_sets" "do_sets" (top 91))
    (d_do_make : DefF K "do_make" "do_make" "do_make" (top 92))
    (d_do_fits : DefF K "do_fits" "do_fits" "do_fits" (top 93))
    (d_do_ring : DefF K "do_ring" "do_ring" "do_ring" (top 94))
    (d_do_alike : DefF K "do_alike" "do_alike" "do_alike" (top 95))
    (d_do_root : DefF K "do_root" "do_root" "do_root" (top 96))
    (d_do_commute : DefF K "do_commute" "do_commute" "do_commute" (top 97))
    (d_do_join : DefF K "do_join" "do_join" "do_join" (top 98))
    (d_do_moves : DefF K "do_moves" "do_moves" "do_moves" (top 99))
    (d_do_member : DefF K "do_member" "do_member" "do_member" (top 100))
    (d_do_size : DefF K "do_size" "do_size" "do_size" (top 101))
    (d_do_basis : DefF K "do_basis" "do_basis" "do_basis" (top 102))
    (d_do_write : DefF K "do_write" "do_write" "do_write" (top 103))
    (d_do_exchange : DefF K "do_exchange" "do_exchange" "do_exchange" (top 104))
    (d_do_turn : DefF K "do_turn" "do_turn" "do_turn" (top 105))
    (d_do_onto : DefF K "do_onto" "do_onto" "do_onto" (top 106))
    (d_rows_from : DefF K "rows_from" "rows_from" "rows_from" (top 114))
    (d_answered : DefF K "answered" "answered" "answered" (top 115))
    (d_answers : DefF K "answers" "answers" "answers" (top 116))
    (m_hand_init : MHas K cH "__init__" "Hand.__init__" (inClass (top 109) 0))
    (m_hand_begin : MHas K cH "begin" "Hand.begin" (inClass (top 109) 1))
    (m_ways_init : MHas K cW "__init__" "Ways.__init__" (inClass (top 76) 0))
    (m_ways_find : MHas K cW "find" "Ways.find" (inClass (top 76) 1))
    (b_len : PySem.W.nsIn K mainGlobals "len" = some none)
    (b_int : PySem.W.nsIn K mainGlobals "int" = some none)
    (b_list : PySem.W.nsIn K mainGlobals "list" = some none)
    (b_dict : PySem.W.nsIn K mainGlobals "dict" = some none)
    (b_set : PySem.W.nsIn K mainGlobals "set" = some none)
    (b_sorted : PySem.W.nsIn K mainGlobals "sorted" = some none)
    (b_any : PySem.W.nsIn K mainGlobals "any" = some none)
    (b_all : PySem.W.nsIn K mainGlobals "all" = some none)
    (b_sum : PySem.W.nsIn K mainGlobals "sum" = some none)
    (b_max : PySem.W.nsIn K mainGlobals "max" = some none)
    (b_min : PySem.W.nsIn K mainGlobals "min" = some none)
    (b_range : PySem.W.nsIn K mainGlobals "range" = some none)
    (b_reversed : PySem.W.nsIn K mainGlobals "reversed" = some none)
    (b_Exception : PySem.W.nsIn K mainGlobals "Exception" = some none)
    (c_OUT_OF_RANGE : ∃ t, PySem.W.nsIn K mainGlobals "OUT_OF_RANGE" = some (some (.int (-2) t)))
    (c_NO_SETS : ∃ t, PySem.W.nsIn K mainGlobals "NO_SETS" = some (some (.int (-3) t)))
    (c_TOO_MANY : ∃ t, PySem.W.nsIn K mainGlobals "TOO_MANY" = some (some (.int (-4) t)))
    (c_NOT_MADE : ∃ t, PySem.W.nsIn K mainGlobals "NOT_MADE" = some (some (.int (-5) t)))
    (c_TOO_LONG : ∃ t, PySem.W.nsIn K mainGlobals "TOO_LONG" = some (some (.int (-6) t)))
    (c_TEXT_TOO_LONG : ∃ t, PySem.W.nsIn K mainGlobals "TEXT_TOO_LONG" = some (some (.int (-8) t)))
    (c_FAULT : ∃ t, PySem.W.nsIn K mainGlobals "FAULT" = some (some (.int (-1000) t)))
    (c_SMALL : ∃ t, PySem.W.nsIn K mainGlobals "SMALL" = some (some (.int (97) t)))
    (c_GREAT : ∃ t, PySem.W.nsIn K mainGlobals "GREAT" = some (some (.int (65) t)))
    (c_MOST_SETS : ∃ t, PySem.W.nsIn K mainGlobals "MOST_SETS" = some (some (.int (12) t)))
    (c_MOST_TURNS : ∃ t, PySem.W.nsIn K mainGlobals "MOST_TURNS" = some (some (.int (2000) t)))
    (c_LONGEST : ∃ t, PySem.W.nsIn K mainGlobals "LONGEST" = some (some (.int (2000) t)))
    (c_SEMICOLON : ∃ t, PySem.W.nsIn K mainGlobals "SEMICOLON" = some (some (.int (59) t)))
    (c_MOST_FINGERS : ∃ t, PySem.W.nsIn K mainGlobals "MOST_FINGERS" = some (some (.int (6) t)))
    (c_MOST_MOVES : ∃ t, PySem.W.nsIn K mainGlobals "MOST_MOVES" = some (some (.int (6) t)))
    (c_MOST_TOLD : ∃ t, PySem.W.nsIn K mainGlobals "MOST_TOLD" = some (some (.int (100) t)))
    (c_MOST_TIMES : ∃ t, PySem.W.nsIn K mainGlobals "MOST_TIMES" = some (some (.int (64) t)))
    (c_AT_FIRST : ∃ t, PySem.W.nsIn K mainGlobals "AT_FIRST" = some (some (.int (3) t)))
    (pgH : PySem.W.plainGet K cH Str.empty = true)
    (hdH : PySem.W.hasDictIn K cH = true)
    (poH : PySem.W.plainOver K cH = true)
    (saH : PySem.W.findIn K (.ref cH) "__setattr__" = some (some (.builtin "object.__setattr__")))
    (mkH : PySem.W.makesIn K cH = true)
    (kcH : PySem.W.keepIn K (.ref cH) = true)
    (pgW : PySem.W.plainGet K cW Str.empty = true)
    (hdW : PySem.W.hasDictIn K cW = true)
    (poW : PySem.W.plainOver K cW = true)
    (saW : PySem.W.findIn K (.ref cW) "__setattr__" = some (some (.builtin "object.__setattr__")))
    (mkW : PySem.W.makesIn K cW = true)
    (kcW : PySem.W.keepIn K (.ref cW) = true)
    (hF : PySem.W.findIn K (.ref cH) "fingers" = some none)
    (hM : PySem.W.findIn K (.ref cH) "moves" = some none)
    (hE : PySem.W.findIn K (.ref cH) "exchange" = some none)
    (wF : PySem.W.findIn K (.ref cW) "found" = some none)
    (wT : PySem.W.findIn K (.ref cW) "way_to" = some none)
    (wO : PySem.W.findIn K (.ref cW) "on_ways" = some none)
    (rL : ∃ nm q N bs sn sub ab col dd k0 k1 k2 k3 k5, K.lookup cR = some (excClassObj nm q cR N bs PySem.ESX.exTail true sn sub ab col dd k0 k1 k2 k3 k5 "Exception.__new__"))
    (rsa : PySem.W.findIn K (.ref cR) "__setattr__" = some (some (.builtin "object.__setattr__")))
    (rga : PySem.W.findIn K (.ref cR) "__getattribute__" = some (some (.builtin "BaseException.__getattribute__")))
    (rgg : PySem.W.findIn K (.ref cR) "__getattr__" = some none)
    (rno : PySem.W.findIn K (.ref cR) "number" = some none)
    (rex : PySem.W.subIn K (.ref cR) (.type "BaseException") = some true)
    (rty : PySem.W.typeIn K (.ref cR) = some (.type "type"))
    (rkp : PySem.W.keepIn K (.ref cR) = true)
    (rhd : PySem.W.hasDictIn K cR = true)
    (ric : PySem.W.isClsIn K cR = true)
    (rse : PySem.W.subIn K (.ref cR) (.ref cR) = some true)
    (rba : PySem.W.findCls K (.type "Exception") (.type "type") "__init__" = some (.val (.builtin "Exception.__init__")))
    (rin : InitF K cR "__init__" "Refused.__init__" (inClass (top 8) 0))
    (tN : TupF K "NUMBERS" (iv [1, 0, 1, 0, 0, 0, 0, 0, 0, 0, 0, 0, 0, 0, 0, 0, 0, 1, 0]))
    (tR : TupF K "ROWS" (iv [0, 1, 1, 1, 1, 2, 1, 2, 1, 2, 2, 1, 1, 0, 0, 1, 1, 1, 0]))
    (tD : DeedF K ["do_fingers", "do_taut", "do_falls", "do_sets", "do_make", "do_fits", "do_ring", "do_alike", "do_root", "do_commute", "do_join", "do_moves", "do_member", "do_size", "do_basis", "do_write", "do_exchange", "do_turn", "do_onto"]) :
    ∃ fd : FuncData, (∀ (s : Shared) (us : List Value), us.length = (["calls"] : List Str).length → BindsTo s fd ⟨us, []⟩ ((["calls"] : List Str).zip us)) ∧ ∀ base : Heap, K.In base → base.Ns mainGlobals mg → FnOk P w K mg base CX0 9 fa fd ["calls"] (spAns K) := by
  have T : Txt K mg ⟨cR, cH, cW⟩ := {
    undo := def_has X G d_undo
    finger_of := def_has X G d_finger_of
    small_turn := def_has X G d_small_turn
    turn_read := def_has X G d_turn_read
    letter_of := def_has X G d_letter_of
    letters_of := def_has X G d_letters_of
    pulled_taut := def_has X G d_pulled_taut
    turned_back := def_has X G d_turned_back
    thread_of := def_has X G d_thread_of
    loop_of := def_has X G d_loop_of
    loops_of := def_has X G d_loops_of
    unlike := def_has X G d_unlike
    clash := def_has X G d_clash
    put_for_graphs := def_has X G d_put_for_graphs
    put_for_swaps := def_has X G d_put_for_swaps
    made_one := def_has X G d_made_one
    graph_of := def_has X G d_graph_of
    leads_of := def_has X G d_leads_of
    end_of := def_has X G d_end_of
    is_made := def_has X G d_is_made
    knots_of := def_has X G d_knots_of
    leads_on := def_has X G d_leads_on
    is_full := def_has X G d_is_full
    sets_of := def_has X G d_sets_of
    has_finger := def_has X G d_has_finger
    fingers_in := def_has X G d_fingers_in
    falls := def_has X G d_falls
    want_let_go := def_has X G d_want_let_go
    in_order := def_has X G d_in_order
    lies_within := def_has X G d_lies_within
    least_sets := def_has X G d_least_sets
    want_sets := def_has X G d_want_sets
    part_for := def_has X G d_part_for
    cord_made := def_has X G d_cord_made
    meets_all := def_has X G d_meets_all
    fits := def_has X G d_fits
    off_at_ends := def_has X G d_off_at_ends
    middle_of := def_has X G d_middle_of
    first_of_all := def_has X G d_first_of_all
    one_form := def_has X G d_one_form
    are_alike := def_has X G d_are_alike
    are_the_same := def_has X G d_are_the_same
    shortest_part := def_has X G d_shortest_part
    root_of := def_has X G d_root_of
    own_letters := def_has X G d_own_letters
    exchanged := def_has X G d_exchanged
    exchanged_often := def_has X G d_exchanged_often
    want_short := def_has X G d_want_short
    want_letters := def_has X G d_want_letters
    cord_read := def_has X G d_cord_read
    cords_read := def_has X G d_cords_read
    turns_together := def_has X G d_turns_together
    passed := def_has X G d_passed
    ways_of := def_has X G d_ways_of
    free_threads := def_has X G d_free_threads
    basis_of := def_has X G d_basis_of
    told_by_basis := def_has X G d_told_by_basis
    two_read := def_has X G d_two_read
    do_fingers := def_has X G d_do_fingers
    do_taut := def_has X G d_do_taut
    do_falls := def_has X G d_do_falls
    do_sets := def_has X G d_do_sets
    do_make := def_has X G d_do_make
    do_fits := def_has X G d_do_fits
    do_ring := def_has X G d_do_ring
    do_alike := def_has X G d_do_alike
    do_root := def_has X G d_do_root
    do_commute := def_has X G d_do_commute
    do_join := def_has X G d_do_join
    do_moves := def_has X G d_do_moves
    do_member := def_has X G d_do_member
    do_size := def_has X G d_do_size
    do_basis := def_has X G d_do_basis
    do_write := def_has X G d_do_write
    do_exchange := def_has X G d_do_exchange
    do_turn := def_has X G d_do_turn
    do_onto := def_has X G d_do_onto
    rows_from := def_has X G d_rows_from
    answered := def_has X G d_answered
    answers := def_has X G d_answers
    len := PySem.W.mg_none_of X G b_len
    int := PySem.W.mg_none_of X G b_int
    list := PySem.W.mg_none_of X G b_list
    dict := PySem.W.mg_none_of X G b_dict
    set := PySem.W.mg_none_of X G b_set
    sorted := PySem.W.mg_none_of X G b_sorted
    any := PySem.W.mg_none_of X G b_any
    all := PySem.W.mg_none_of X G b_all
    sum := PySem.W.mg_none_of X G b_sum
    max := PySem.W.mg_none_of X G b_max
    min := PySem.W.mg_none_of X G b_min
    range := PySem.W.mg_none_of X G b_range
    reversed := PySem.W.mg_none_of X G b_reversed
    Exception := PySem.W.mg_none_of X G b_Exception
    OUT_OF_RANGE := let ⟨t, e⟩ := c_OUT_OF_RANGE; ⟨t, PySem.W.mg_of X G e⟩
    NO_SETS := let ⟨t, e⟩ := c_NO_SETS; ⟨t, PySem.W.mg_of X G e⟩
    TOO_MANY := let ⟨t, e⟩ := c_TOO_MANY; ⟨t, PySem.W.mg_of X G e⟩
    NOT_MADE := let ⟨t, e⟩ := c_NOT_MADE; ⟨t, PySem.W.mg_of X G e⟩
    TOO_LONG := let ⟨t, e⟩ := c_TOO_LONG; ⟨t, PySem.W.mg_of X G e⟩
    TEXT_TOO_LONG := let ⟨t, e⟩ := c_TEXT_TOO_LONG; ⟨t, PySem.W.mg_of X G e⟩
    FAULT := let ⟨t, e⟩ := c_FAULT; ⟨t, PySem.W.mg_of X G e⟩
    SMALL := let ⟨t, e⟩ := c_SMALL; ⟨t, PySem.W.mg_of X G e⟩
    GREAT := let ⟨t, e⟩ := c_GREAT; ⟨t, PySem.W.mg_of X G e⟩
    MOST_SETS := let ⟨t, e⟩ := c_MOST_SETS; ⟨t, PySem.W.mg_of X G e⟩
    MOST_TURNS := let ⟨t, e⟩ := c_MOST_TURNS; ⟨t, PySem.W.mg_of X G e⟩
    LONGEST := let ⟨t, e⟩ := c_LONGEST; ⟨t, PySem.W.mg_of X G e⟩
    SEMICOLON := let ⟨t, e⟩ := c_SEMICOLON; ⟨t, PySem.W.mg_of X G e⟩
    MOST_FINGERS := let ⟨t, e⟩ := c_MOST_FINGERS; ⟨t, PySem.W.mg_of X G e⟩
    MOST_MOVES := let ⟨t, e⟩ := c_MOST_MOVES; ⟨t, PySem.W.mg_of X G e⟩
    MOST_TOLD := let ⟨t, e⟩ := c_MOST_TOLD; ⟨t, PySem.W.mg_of X G e⟩
    MOST_TIMES := let ⟨t, e⟩ := c_MOST_TIMES; ⟨t, PySem.W.mg_of X G e⟩
    AT_FIRST := let ⟨t, e⟩ := c_AT_FIRST; ⟨t, PySem.W.mg_of X G e⟩
    Refused := ⟨⟨rL, rsa, rex, rty, rkp⟩, PySem.W.mg_of X G gR, rno, rin, rba, ⟨rga, rgg, rex, rhd⟩, exm_self rex ric rty rse⟩
    Hand := ⟨⟨pgH, hdH, poH, saH⟩, PySem.W.mg_of X G gH, mkH, kcH⟩
    Ways := ⟨⟨pgW, hdW, poW, saW⟩, PySem.W.mg_of X G gW, mkW, kcW⟩
    hand_init := m_hand_init
    hand_begin := m_hand_begin
    ways_init := m_ways_init
    ways_find := m_ways_find
    hF := hF
    hM := hM
    hE := hE
    wF := wF
    wT := wT
    wO := wO
    NUMBERS := tup_has X G tN
    ROWS := tup_has X G tR
    DEEDS := deed_has X G tD }
  obtain ⟨f, fd, F, e⟩ := d_answers
  have e2 := hfa.symm.trans (PySem.W.mg_of X G e)
  cases e2
  refine ⟨fd, ?_, fun base _ _ => ok_answersF F T⟩
  obtain ⟨_, _, _, _, _, _, _, _, _, rfl, _, _⟩ := F.ex
  exact fun s us hu => match us, hu with | [_], _ => .of_eq rfl
end Fc
open PySem PySem.W PyProof.Rows
set_option maxRecDepth 100000 in
set_option maxHeartbeats 0 in
theorem PySem.Challenge.cw_fingercord_s01_answers_holds : PySem.Challenge.rw_fingercord_s01_answers.Holds := by
  w_on; k_headS; (case hw => exact ⟨[.list [.int 0, .int 3]], by decide +kernel, by decide +kernel⟩)
  k_fillS
  refine L2.walk_specK (r := PySem.Challenge.rw_fingercord_s01_answers) (k := 9) (CX := L2.CX0) (ps := ["calls"]) (sp := Fc.spAns) (by decide +kernel) rfl rfl ⟨rfl, by decide, by decide⟩ (fun w h Y => PySem.W.kIn_of Y) ?F ?S (fun _ _ _ _ z => z)
  case F =>
    intro w mg fa h Y KX G hmg
    refine' Fc.all_mk KX G hmg ?gR ?gH ?gW ?d_undo ?d_finger_of ?d_small_turn ?d_turn_read ?d_letter_of ?d_letters_of ?d_pulled_taut ?d_turned_back ?d_thread_of ?d_loop_of ?d_loops_of ?d_unlike ?d_clash ?d_put_for_graphs ?d_put_for_swaps ?d_made_one ?d_graph_of ?d_leads_of ?d_end_of ?d_is_made ?d_knots_of ?d_leads_on ?d_is_full ?d_sets_of ?d_has_finger ?d_fingers_in ?d_falls ?d_want_let_go ?d_in_order ?d_lies_within ?d_least_sets ?d_want_sets ?d_part_for ?d_cord_made ?d_meets_all ?d_fits ?d_off_at_ends ?d_middle_of ?d_first_of_all ?d_one_form ?d_are_alike ?d_are_the_same ?d_shortest_part ?d_root_of ?d_own_letters ?d_exchanged ?d_exchanged_often ?d_want_short ?d_want_letters ?d_cord_read ?d_cords_read ?d_turns_together ?d_passed ?d_ways_of ?d_free_threads ?d_basis_of ?d_told_by_basis ?d_two_read ?d_do_fingers ?d_do_taut ?d_do_falls ?d_do_sets ?d_do_make ?d_do_fits ?d_do_ring ?d_do_alike ?d_do_root ?d_do_commute ?d_do_join ?d_do_moves ?d_do_member ?d_do_size ?d_do_basis ?d_do_write ?d_do_exchange ?d_do_turn ?d_do_onto ?d_rows_from ?d_answered ?d_answers ?m_hand_init ?m_hand_begin ?m_ways_init ?m_ways_find ?b_len ?b_int ?b_list ?b_dict ?b_set ?b_sorted ?b_any ?b_all ?b_sum ?b_max ?b_min ?b_range ?b_reversed ?b_Exception ?c_OUT_OF_RANGE ?c_NO_SETS ?c_TOO_MANY ?c_NOT_MADE ?c_TOO_LONG ?c_TEXT_TOO_LONG ?c_FAULT ?c_SMALL ?c_GREAT ?c_MOST_SETS ?c_MOST_TURNS ?c_LONGEST ?c_SEMICOLON ?c_MOST_FINGERS ?c_MOST_MOVES ?c_MOST_TOLD ?c_MOST_TIMES ?c_AT_FIRST ?pgH ?hdH ?poH ?saH ?mkH ?kcH ?pgW ?hdW ?poW ?saW ?mkW ?kcW ?hF ?hM ?hE ?wF ?wT ?wO ?rL ?rsa ?rga ?rgg ?rno ?rex ?rty ?rkp ?rhd ?ric ?rse ?rba ?rin ?tN ?tR ?tD
    (case gR => k_is)
    (case gH => k_is)
    (case gW => k_is)
    (case d_undo => refine' Fc.def_mk ?a ?l ?c ?k; (case a => k_is); (case l => k_is); (case c => k_is); (case k => k_is))
    (case d_finger_of => refine' Fc.def_mk ?a ?l ?c ?k; (case a => k_is); (case l => k_is); (case c => k_is); (case k => k_is))
    (case d_small_turn => refine' Fc.def_mk ?a ?l ?c ?k; (case a => k_is); (case l => k_is); (case c => k_is); (case k => k_is))
    (case d_turn_read => refine' Fc.def_mk ?a ?l ?c ?k; (case a => k_is); (case l => k_is); (case c => k_is); (case k => k_is))
    (case d_letter_of => refine' Fc.def_mk ?a ?l ?c ?k; (case a => k_is); (case l => k_is); (case c => k_is); (case k => k_is))
    (case d_letters_of => refine' Fc.def_mk ?a ?l ?c ?k; (case a => k_is); (case l => k_is); (case c => k_is); (case k => k_is))
    (case d_pulled_taut => refine' Fc.def_mk ?a ?l ?c ?k; (case a => k_is); (case l => k_is); (case c => k_is); (case k => k_is))
    (case d_turned_back => refine' Fc.def_mk ?a ?l ?c ?k; (case a => k_is); (case l => k_is); (case c => k_is); (case k => k_is))
    (case d_thread_of => refine' Fc.def_mk ?a ?l ?c ?k; (case a => k_is); (case l => k_is); (case c => k_is); (case k => k_is))
    (case d_loop_of => refine' Fc.def_mk ?a ?l ?c ?k; (case a => k_is); (case l => k_is); (case c => k_is); (case k => k_is))
    (case d_loops_of => refine' Fc.def_mk ?a ?l ?c ?k; (case a => k_is); (case l => k_is); (case c => k_is); (case k => k_is))
    (case d_unlike => refine' Fc.def_mk ?a ?l ?c ?k; (case a => k_is); (case l => k_is); (case c => k_is); (case k => k_is))
    (case d_clash => refine' Fc.def_mk ?a ?l ?c ?k; (case a => k_is); (case l => k_is); (case c => k_is); (case k => k_is))
    (case d_put_for_graphs => refine' Fc.def_mk ?a ?l ?c ?k; (case a => k_is); (case l => k_is); (case c => k_is); (case k => k_is))
    (case d_put_for_swaps => refine' Fc.def_mk ?a ?l ?c ?k; (case a => k_is); (case l => k_is); (case c => k_is); (case k => k_is))
    (case d_made_one => refine' Fc.def_mk ?a ?l ?c ?k; (case a => k_is); (case l => k_is); (case c => k_is); (case k => k_is))
    (case d_graph_of => refine' Fc.def_mk ?a ?l ?c ?k; (case a => k_is); (case l => k_is); (case c => k_is); (case k => k_is))
    (case d_leads_of => refine' Fc.def_mk ?a ?l ?c ?k; (case a => k_is); (case l => k_is); (case c => k_is); (case k => k_is))
    (case d_end_of => refine' Fc.def_mk ?a ?l ?c ?k; (case a => k_is); (case l => k_is); (case c => k_is); (case k => k_is))
    (case d_is_made => refine' Fc.def_mk ?a ?l ?c ?k; (case a => k_is); (case l => k_is); (case c => k_is); (case k => k_is))
    (case d_knots_of => refine' Fc.def_mk ?a ?l ?c ?k; (case a => k_is); (case l => k_is); (case c => k_is); (case k => k_is))
    (case d_leads_on => refine' Fc.def_mk ?a ?l ?c ?k; (case a => k_is); (case l => k_is); (case c => k_is); (case k => k_is))
    (case d_is_full => refine' Fc.def_mk ?a ?l ?c ?k; (case a => k_is); (case l => k_is); (case c => k_is); (case k => k_is))
    (case d_sets_of => refine' Fc.def_mk ?a ?l ?c ?k; (case a => k_is); (case l => k_is); (case c => k_is); (case k => k_is))
    (case d_has_finger => refine' Fc.def_mk ?a ?l ?c ?k; (case a => k_is); (case l => k_is); (case c => k_is); (case k => k_is))
    (case d_fingers_in => refine' Fc.def_mk ?a ?l ?c ?k; (case a => k_is); (case l => k_is); (case c => k_is); (case k => k_is))
    (case d_falls => refine' Fc.def_mk ?a ?l ?c ?k; (case a => k_is); (case l => k_is); (case c => k_is); (case k => k_is))
    (case d_want_let_go => refine' Fc.def_mk ?a ?l ?c ?k; (case a => k_is); (case l => k_is); (case c => k_is); (case k => k_is))
    (case d_in_order => refine' Fc.def_mk ?a ?l ?c ?k; (case a => k_is); (case l => k_is); (case c => k_is); (case k => k_is))
    (case d_lies_within => refine' Fc.def_mk ?a ?l ?c ?k; (case a => k_is); (case l => k_is); (case c => k_is); (case k => k_is))
    (case d_least_sets => refine' Fc.def_mk ?a ?l ?c ?k; (case a => k_is); (case l => k_is); (case c => k_is); (case k => k_is))
    (case d_want_sets => refine' Fc.def_mk ?a ?l ?c ?k; (case a => k_is); (case l => k_is); (case c => k_is); (case k => k_is))
    (case d_part_for => refine' Fc.def_mk ?a ?l ?c ?k; (case a => k_is); (case l => k_is); (case c => k_is); (case k => k_is))
    (case d_cord_made => refine' Fc.def_mk ?a ?l ?c ?k; (case a => k_is); (case l => k_is); (case c => k_is); (case k => k_is))
    (case d_meets_all => refine' Fc.def_mk ?a ?l ?c ?k; (case a => k_is); (case l => k_is); (case c => k_is); (case k => k_is))
    (case d_fits => refine' Fc.def_mk ?a ?l ?c ?k; (case a => k_is); (case l => k_is); (case c => k_is); (case k => k_is))
    (case d_off_at_ends => refine' Fc.def_mk ?a ?l ?c ?k; (case a => k_is); (case l => k_is); (case c => k_is); (case k => k_is))
    (case d_middle_of => refine' Fc.def_mk ?a ?l ?c ?k; (case a => k_is); (case l => k_is); (case c => k_is); (case k => k_is))
    (case d_first_of_all => refine' Fc.def_mk ?a ?l ?c ?k; (case a => k_is); (case l => k_is); (case c => k_is); (case k => k_is))
    (case d_one_form => refine' Fc.def_mk ?a ?l ?c ?k; (case a => k_is); (case l => k_is); (case c => k_is); (case k => k_is))
    (case d_are_alike => refine' Fc.def_mk ?a ?l ?c ?k; (case a => k_is); (case l => k_is); (case c => k_is); (case k => k_is))
    (case d_are_the_same => refine' Fc.def_mk ?a ?l ?c ?k; (case a => k_is); (case l => k_is); (case c => k_is); (case k => k_is))
    (case d_shortest_part => refine' Fc.def_mk ?a ?l ?c ?k; (case a => k_is); (case l => k_is); (case c => k_is); (case k => k_is))
    (case d_root_of => refine' Fc.def_mk ?a ?l ?c ?k; (case a => k_is); (case l => k_is); (case c => k_is); (case k => k_is))
    (case d_own_letters => refine' Fc.def_mk ?a ?l ?c ?k; (case a => k_is); (case l => k_is); (case c => k_is); (case k => k_is))
    (case d_exchanged => refine' Fc.def_mk ?a ?l ?c ?k; (case a => k_is); (case l => k_is); (case c => k_is); (case k => k_is))
    (case d_exchanged_often => refine' Fc.def_mk ?a ?l ?c ?k; (case a => k_is); (case l => k_is); (case c => k_is); (case k => k_is))
    (case d_want_short => refine' Fc.def_mk ?a ?l ?c ?k; (case a => k_is); (case l => k_is); (case c => k_is); (case k => k_is))
    (case d_want_letters => refine' Fc.def_mk ?a ?l ?c ?k; (case a => k_is); (case l => k_is); (case c => k_is); (case k => k_is))
    (case d_cord_read => refine' Fc.def_mk ?a ?l ?c ?k; (case a => k_is); (case l => k_is); (case c => k_is); (case k => k_is))
    (case d_cords_read => refine' Fc.def_mk ?a ?l ?c ?k; (case a => k_is); (case l => k_is); (case c => k_is); (case k => k_is))
    (case d_turns_together => refine' Fc.def_mk ?a ?l ?c ?k; (case a => k_is); (case l => k_is); (case c => k_is); (case k => k_is))
    (case d_passed => refine' Fc.def_mk ?a ?l ?c ?k; (case a => k_is); (case l => k_is); (case c => k_is); (case k => k_is))
    (case d_ways_of => refine' Fc.def_mk ?a ?l ?c ?k; (case a => k_is); (case l => k_is); (case c => k_is); (case k => k_is))
    (case d_free_threads => refine' Fc.def_mk ?a ?l ?c ?k; (case a => k_is); (case l => k_is); (case c => k_is); (case k => k_is))
    (case d_basis_of => refine' Fc.def_mk ?a ?l ?c ?k; (case a => k_is); (case l => k_is); (case c => k_is); (case k => k_is))
    (case d_told_by_basis => refine' Fc.def_mk ?a ?l ?c ?k; (case a => k_is); (case l => k_is); (case c => k_is); (case k => k_is))
    (case d_two_read => refine' Fc.def_mk ?a ?l ?c ?k; (case a => k_is); (case l => k_is); (case c => k_is); (case k => k_is))
    (case d_do_fingers => refine' Fc.def_mk ?a ?l ?c ?k; (case a => k_is); (case l => k_is); (case c => k_is); (case k => k_is))
    (case d_do_taut => refine' Fc.def_mk ?a ?l ?c ?k; (case a => k_is); (case l => k_is); (case c => k_is); (case k => k_is))
    (case d_do_falls => refine' Fc.def_mk ?a ?l ?c ?k; (case a => k_is); (case l => k_is); (case c => k_is); (case k => k_is))
    (case d_do_sets => refine' Fc.def_mk ?a ?l ?c ?k; (case a => k_is); (case l => k_is); (case c => k_is); (case k => k_is))
    (case d_do_make => refine' Fc.def_mk ?a ?l ?c ?k; (case a => k_is); (case l => k_is); (case c => k_is); (case k => k_is))
    (case d_do_fits => refine' Fc.def_mk ?a ?l ?c ?k; (case a => k_is); (case l => k_is); (case c => k_is); (case k => k_is))
    (case d_do_ring => refine' Fc.def_mk ?a ?l ?c ?k; (case a => k_is); (case l => k_is); (case c => k_is); (case k => k_is))
    (case d_do_alike => refine' Fc.def_mk ?a ?l ?c ?k; (case a => k_is); (case l => k_is); (case c => k_is); (case k => k_is))
    (case d_do_root => refine' Fc.def_mk ?a ?l ?c ?k; (case a => k_is); (case l => k_is); (case c => k_is); (case k => k_is))
    (case d_do_commute => refine' Fc.def_mk ?a ?l ?c ?k; (case a => k_is); (case l => k_is); (case c => k_is); (case k => k_is))
    (case d_do_join => refine' Fc.def_mk ?a ?l ?c ?k; (case a => k_is); (case l => k_is); (case c => k_is); (case k => k_is))
    (case d_do_moves => refine' Fc.def_mk ?a ?l ?c ?k; (case a => k_is); (case l => k_is); (case c => k_is); (case k => k_is))
    (case d_do_member => refine' Fc.def_mk ?a ?l ?c ?k; (case a => k_is); (case l => k_is); (case c => k_is); (case k => k_is))
    (case d_do_size => refine' Fc.def_mk ?a ?l ?c ?k; (case a => k_is); (case l => k_is); (case c => k_is); (case k => k_is))
    (case d_do_basis => refine' Fc.def_mk ?a ?l ?c ?k; (case a => k_is); (case l => k_is); (case c => k_is); (case k => k_is))
    (case d_do_write => refine' Fc.def_mk ?a ?l ?c ?k; (case a => k_is); (case l => k_is); (case c => k_is); (case k => k_is))
    (case d_do_exchange => refine' Fc.def_mk ?a ?l ?c ?k; (case a => k_is); (case l => k_is); (case c => k_is); (case k => k_is))
    (case d_do_turn => refine' Fc.def_mk ?a ?l ?c ?k; (case a => k_is); (case l => k_is); (case c => k_is); (case k => k_is))
    (case d_do_onto => refine' Fc.def_mk ?a ?l ?c ?k; (case a => k_is); (case l => k_is); (case c => k_is); (case k => k_is))
    (case d_rows_from => refine' Fc.def_mk ?a ?l ?c ?k; (case a => k_is); (case l => k_is); (case c => k_is); (case k => k_is))
    (case d_answered => refine' Fc.def_mk ?a ?l ?c ?k; (case a => k_is); (case l => k_is); (case c => k_is); (case k => k_is))
    (case d_answers => refine' Fc.def_mk ?a ?l ?c ?k; (case a => k_is); (case l => k_is); (case c => k_is); (case k => k_is))
    (case m_hand_init => refine' Fc.meth_mk ?a ?i ?l ?c ?k; (case a => k_is); (case i => k_is); (case l => k_is); (case c => k_is); (case k => k_is))
    (case m_hand_begin => refine' Fc.meth_mk ?a ?i ?l ?c ?k; (case a => k_is); (case i => k_is); (case l => k_is); (case c => k_is); (case k => k_is))
    (case m_ways_init => refine' Fc.meth_mk ?a ?i ?l ?c ?k; (case a => k_is); (case i => k_is); (case l => k_is); (case c => k_is); (case k => k_is))
    (case m_ways_find => refine' Fc.meth_mk ?a ?i ?l ?c ?k; (case a => k_is); (case i => k_is); (case l => k_is); (case c => k_is); (case k => k_is))
    (case b_len => k_is)
    (case b_int => k_is)
    (case b_list => k_is)
    (case b_dict => k_is)
    (case b_set => k_is)
    (case b_sorted => k_is)
    (case b_any => k_is)
    (case b_all => k_is)
    (case b_sum => k_is)
    (case b_max => k_is)
    (case b_min => k_is)
    (case b_range => k_is)
    (case b_reversed => k_is)
    (case b_Exception => k_is)
    (case c_OUT_OF_RANGE => refine' Fc.const_mk ?e; (case e => k_is))
    (case c_NO_SETS => refine' Fc.const_mk ?e; (case e => k_is))
    (case c_TOO_MANY => refine' Fc.const_mk ?e; (case e => k_is))
    (case c_NOT_MADE => refine' Fc.const_mk ?e; (case e => k_is))
    (case c_TOO_LONG => refine' Fc.const_mk ?e; (case e => k_is))
    (case c_TEXT_TOO_LONG => refine' Fc.const_mk ?e; (case e => k_is))
    (case c_FAULT => refine' Fc.const_mk ?e; (case e => k_is))
    (case c_SMALL => refine' Fc.const_mk ?e; (case e => k_is))
    (case c_GREAT => refine' Fc.const_mk ?e; (case e => k_is))
    (case c_MOST_SETS => refine' Fc.const_mk ?e; (case e => k_is))
    (case c_MOST_TURNS => refine' Fc.const_mk ?e; (case e => k_is))
    (case c_LONGEST => refine' Fc.const_mk ?e; (case e => k_is))
    (case c_SEMICOLON => refine' Fc.const_mk ?e; (case e => k_is))
    (case c_MOST_FINGERS => refine' Fc.const_mk ?e; (case e => k_is))
    (case c_MOST_MOVES => refine' Fc.const_mk ?e; (case e => k_is))
    (case c_MOST_TOLD => refine' Fc.const_mk ?e; (case e => k_is))
    (case c_MOST_TIMES => refine' Fc.const_mk ?e; (case e => k_is))
    (case c_AT_FIRST => refine' Fc.const_mk ?e; (case e => k_is))
    (case pgH => k_is)
    (case hdH => k_is)
    (case poH => k_is)
    (case saH => k_is)
    (case mkH => k_is)
    (case kcH => k_is)
    (case pgW => k_is)
    (case hdW => k_is)
    (case poW => k_is)
    (case saW => k_is)
    (case mkW => k_is)
    (case kcW => k_is)
    (case hF => k_is)
    (case hM => k_is)
    (case hE => k_is)
    (case wF => k_is)
    (case wT => k_is)
    (case wO => k_is)
    (case rL => refine' Fc.exc_mk ?l; (case l => k_is))
    (case rsa => k_is)
    (case rga => k_is)
    (case rgg => k_is)
    (case rno => k_is)
    (case rex => k_is)
    (case rty => k_is)
    (case rkp => k_is)
    (case rhd => k_is)
    (case ric => k_is)
    (case rse => first | rfl | k_is)
    (case rba => k_is)
    (case rin => refine' Fc.init_mk ?a ?t ?l ?c ?k; (case a => k_is); (case t => k_is); (case l => k_is); (case c => k_is); (case k => k_is))
    (case tN => refine' Fc.tup_mk ?a ?l ?v; (case a => k_is); (case l => k_is); (case v => kernel_rfl))
    (case tR => refine' Fc.tup_mk ?a ?l ?v; (case a => k_is); (case l => k_is); (case v => kernel_rfl))
    (case tD => refine' Fc.deed_mk ?a ?l ?v; (case a => k_is); (case l => k_is); (case v => kernel_rfl))
  case S =>
    intro K H xs a hO hwi hask hx
    cases hx with
    | cons h1 h2 =>
      cases h2
      cases h1 with
      | lst hs ha =>
        have e := L2.ints_dw a.1 _ ha
        subst e
        have q : ((Codec.inLen 0 17000 a.1 && a.1.all (Codec.inInt (-1000000000000000000) 1000000000000000000)) && true) = true := hwi
        rw [Bool.and_eq_true, Bool.and_eq_true] at q
        exact ⟨_, a.1, rfl, hs, (Codec.inNat_iff.mp q.1.1).2, hask, fun H' p hp => .lst (L2.SqL.of hp) (L2.dw_ints _)⟩
#print axioms PySem.Challenge.cw_fingercord_s01_answers_holds
