import PyProof.Rows.All
import Wide.All
import OpenK.AllK
import Wide.FinOn
import HandS.ForMost
import HandS.Exc
import HandS.ExcOwn
import HandS.WordsExc
import HandS.ExcInit
import HandS.ExcField
import HandS.ExcIs
import HandS.TryMany
import HandS.IsInst
import HandS.Flow
import HandS.Style
import HandS.Rev
import HandS.FStr
import HandS.TupAny
import HandS.Small
import HandS.Defaults
import HandS.Evl
import KE.KExcIs
import KE.KDictZip
import KE.KTurns
import HandS.ListItems
import PySem.Challenge.RW_stoodthere_k16_whole_texts_of_trees
set_option Elab.async false
set_option linter.all false
set_option maxRecDepth 100000
set_option maxHeartbeats 8000000
/-! the mathematics: rows of symbols, their texts, the reader -/
namespace Kx
abbrev Sy := List Nat × Nat
def lowL : List Nat := [97, 98, 99, 100, 101, 102, 103, 104, 105, 106, 107, 108, 109, 110, 111, 112, 113, 114, 115, 116, 117, 118, 119, 120, 121, 122]
def othL : List Nat := [48, 49, 50, 51, 52, 53, 54, 55, 56, 57, 45]
def goes (c : Nat) : Bool := decide (c ∈ lowL) || decide (c ∈ othL)
/-- n trees in a row -/
def forest : Nat → List Sy → Prop
  | n, [] => n = 0
  | 0, _ :: _ => False
  | n + 1, s :: r => forest (n + s.2) r
/-- how many symbols n trees take -/
def far : Nat → List Sy → Nat
  | 0, _ => 0
  | _ + 1, [] => 0
  | n + 1, s :: r => 1 + far (n + s.2) r
def join (sep : List Nat) : List (List Nat) → List Nat
  | [] => []
  | [a] => a
  | a :: b :: r => a ++ sep ++ join sep (b :: r)
/-- one symbol's step in showing, from behind -/
def push (s : Sy) (st : List (List Nat)) : List (List Nat) :=
  (if 0 < s.2 then s.1 ++ [40] ++ join [44] (st.take s.2) ++ [41] else s.1) :: st.drop s.2
def stack (row : List Sy) : List (List Nat) := row.foldr push []
def show_ (row : List Sy) : List Nat := (stack row).headD []

theorem stack_cons (s : Sy) (r : List Sy) : stack (s :: r) = push s (stack r) := rfl
theorem forest_nil : forest 0 [] := rfl
theorem forest_cons {n : Nat} {s : Sy} {r : List Sy} (h : forest (n + s.2) r) : forest (n + 1) (s :: r) := h
theorem forest_zero {r : List Sy} (h : forest 0 r) : r = [] := by
  cases r with
  | nil => rfl
  | cons s r => exact h.elim
theorem forest_append : ∀ {a b : List Sy} {n m : Nat}, forest n a → forest m b → forest (n + m) (a ++ b)
  | [], b, n, m, ha, hb => by
    have e : n = 0 := ha
    subst e
    rw [Nat.zero_add]
    exact hb
  | s :: a, b, 0, m, ha, hb => ha.elim
  | s :: a, b, n + 1, m, ha, hb => by
    have ih := forest_append (a := a) (b := b) (n := n + s.2) (m := m) ha hb
    rw [show n + 1 + m = (n + m) + 1 by omega]
    show forest (n + m + s.2) (a ++ b)
    rw [show n + m + s.2 = n + s.2 + m by omega]
    exact ih
theorem forest_split : ∀ {r : List Sy} {n m : Nat}, forest (n + m) r → ∃ a b, r = a ++ b ∧ forest n a ∧ forest m b
  | r, 0, m, h => ⟨[], r, rfl, rfl, by rw [Nat.zero_add] at h; exact h⟩
  | [], n + 1, m, h => by
    have e : n + 1 + m = 0 := h
    omega
  | s :: r, n + 1, m, h => by
    rw [show n + 1 + m = (n + m) + 1 by omega] at h
    have h' : forest (n + m + s.2) r := h
    rw [show n + m + s.2 = (n + s.2) + m by omega] at h'
    obtain ⟨a, b, e, ha, hb⟩ := forest_split (r := r) (n := n + s.2) (m := m) h'
    exact ⟨s :: a, b, by rw [e]; rfl, ha, hb⟩
theorem forest_ne {n : Nat} {r : List Sy} (h : forest (n + 1) r) : r ≠ [] := fun e => by
  subst e
  have z : n + 1 = 0 := h
  omega
theorem stack_length : ∀ {r : List Sy} {n : Nat}, forest n r → (stack r).length = n
  | [], n, h => by
    have e : n = 0 := h
    subst e
    rfl
  | s :: r, 0, h => h.elim
  | s :: r, n + 1, h => by
    have ih := stack_length (r := r) (n := n + s.2) h
    rw [stack_cons]
    show ((stack r).drop s.2).length + 1 = n + 1
    rw [List.length_drop, ih]
    omega
theorem foldr_push : ∀ {a : List Sy} {n : Nat} (st : List (List Nat)), forest n a → a.foldr push st = stack a ++ st
  | [], n, st, h => rfl
  | s :: a, 0, st, h => h.elim
  | s :: a, n + 1, st, h => by
    have ih := foldr_push (a := a) (n := n + s.2) st h
    have hl := stack_length (r := a) (n := n + s.2) h
    show push s (a.foldr push st) = push s (stack a) ++ st
    rw [ih]
    unfold push
    rw [List.take_append_of_le_length (by omega), List.drop_append_of_le_length (by omega)]
    rfl
theorem stack_append {a b : List Sy} {n : Nat} (h : forest n a) : stack (a ++ b) = stack a ++ stack b := by
  show (a ++ b).foldr push [] = _
  rw [List.foldr_append]
  exact foldr_push _ h
theorem stack_one {t : List Sy} (h : forest 1 t) : stack t = [show_ t] := by
  have hl := stack_length h
  unfold show_
  cases e : stack t with
  | nil => rw [e] at hl; cases hl
  | cons x r =>
    rw [e] at hl
    have : r = [] := List.length_eq_zero_iff.mp (by simpa using hl)
    subst this
    rfl
theorem show_node {w : List Nat} {m : Nat} {r : List Sy} (h : forest (m + 1) r) : show_ ((w, m + 1) :: r) = w ++ [40] ++ join [44] (stack r) ++ [41] := by
  have hl := stack_length h
  unfold show_
  rw [stack_cons]
  unfold push
  rw [if_pos (Nat.succ_pos m)]
  show w ++ [40] ++ join [44] ((stack r).take (m + 1)) ++ [41] = _
  rw [List.take_of_length_le (by omega)]
theorem show_leaf {w : List Nat} {r : List Sy} : show_ ((w, 0) :: r) = w := rfl
theorem forest_tree {w : List Nat} {m : Nat} {r : List Sy} (h : forest m r) : forest 1 ((w, m) :: r) := by
  show forest (0 + m) r
  rw [Nat.zero_add]
  exact h
theorem far_forest : ∀ {a : List Sy} {n : Nat} (b : List Sy), forest n a → far n (a ++ b) = a.length
  | [], n, b, h => by
    have e : n = 0 := h
    subst e
    cases b <;> rfl
  | s :: a, 0, b, h => h.elim
  | s :: a, n + 1, b, h => by
    have ih := far_forest (a := a) (n := n + s.2) b h
    show 1 + far (n + s.2) (a ++ b) = a.length + 1
    rw [ih, Nat.add_comm]
theorem join_cons (x : List Nat) {l : List (List Nat)} (h : l ≠ []) : join [44] (x :: l) = x ++ [44] ++ join [44] l := by
  cases l with
  | nil => exact absurd rfl h
  | cons y r => rfl
theorem join_append_one : ∀ (l : List (List Nat)) (x : List Nat), join [44] (l ++ [x]) = (l.map (· ++ [44])).flatten ++ x
  | [], x => rfl
  | a :: l, x => by
    have ih := join_append_one l x
    rw [List.cons_append, join_cons a (by simp), ih]
    simp
/-! ### the length of a text -/
def wgt (row : List Sy) : Nat := (row.map fun s => s.1.length + 2).sum
def stw (st : List (List Nat)) : Nat := (st.map fun t => t.length + 1).sum
theorem stw_append (a b : List (List Nat)) : stw (a ++ b) = stw a + stw b := by
  unfold stw
  rw [List.map_append, List.sum_append_nat]
theorem join_length : ∀ (l : List (List Nat)), (join [44] l).length ≤ stw l
  | [] => Nat.le_refl 0
  | [a] => by
    show a.length ≤ stw [a]
    unfold stw
    simp
  | a :: b :: r => by
    have ih := join_length (b :: r)
    have e : join [44] (a :: b :: r) = a ++ [44] ++ join [44] (b :: r) := rfl
    rw [e]
    have q : stw (a :: b :: r) = (a.length + 1) + stw (b :: r) := rfl
    rw [q, List.length_append, List.length_append, List.length_singleton]
    omega
theorem join_length1 : ∀ (l : List (List Nat)), l ≠ [] → (join [44] l).length + 1 ≤ stw l
  | [], h => absurd rfl h
  | [a], _ => by
    show a.length + 1 ≤ stw [a]
    unfold stw
    simp
  | a :: b :: r, _ => by
    have ih := join_length1 (b :: r) (by simp)
    have e : join [44] (a :: b :: r) = a ++ [44] ++ join [44] (b :: r) := rfl
    rw [e]
    have q : stw (a :: b :: r) = (a.length + 1) + stw (b :: r) := rfl
    rw [q, List.length_append, List.length_append, List.length_singleton]
    omega
theorem push_weight (s : Sy) (st : List (List Nat)) : stw (push s st) ≤ s.1.length + 3 + stw st := by
  have e : stw st = stw (st.take s.2) + stw (st.drop s.2) := by rw [← stw_append, List.take_append_drop]
  have j := join_length (st.take s.2)
  unfold push
  show ((if 0 < s.2 then s.1 ++ [40] ++ join [44] (st.take s.2) ++ [41] else s.1).length + 1) + stw (st.drop s.2) ≤ _
  by_cases h : 0 < s.2
  · rw [if_pos h, List.length_append, List.length_append, List.length_append, List.length_singleton, List.length_singleton]
    omega
  · rw [if_neg h]
    omega
theorem stack_weight : ∀ (row : List Sy), stw (stack row) ≤ (row.map fun s => s.1.length + 3).sum
  | [] => Nat.le_refl 0
  | s :: r => by
    have ih := stack_weight r
    have p := push_weight s (stack r)
    rw [stack_cons, List.map_cons, List.sum_cons]
    omega
theorem sum_le_mul {B : Nat} : ∀ (row : List Sy), (∀ s ∈ row, s.1.length ≤ B) → (row.map fun s => s.1.length + 3).sum ≤ (B + 3) * row.length
  | [], _ => Nat.zero_le _
  | s :: r, h => by
    have ih := sum_le_mul r fun x hx => h x (List.mem_cons_of_mem _ hx)
    have h0 := h s (List.mem_cons_self ..)
    rw [List.map_cons, List.sum_cons, List.length_cons, Nat.mul_add, Nat.mul_one]
    omega
theorem stw_bound {row : List Sy} {B : Nat} (h : ∀ s ∈ row, s.1.length ≤ B) : stw (stack row) ≤ (B + 3) * row.length := Nat.le_trans (stack_weight row) (sum_le_mul row h)
theorem mem_stw {t : List Nat} : ∀ {st : List (List Nat)}, t ∈ st → t.length + 1 ≤ stw st
  | [], h => by cases h
  | a :: st, h => by
    have q : stw (a :: st) = (a.length + 1) + stw st := rfl
    rcases List.mem_cons.mp h with rfl | h
    · omega
    · have ih := mem_stw h
      omega
theorem show_le {row : List Sy} : (show_ row).length ≤ stw (stack row) := by
  unfold show_
  cases e : stack row with
  | nil => exact Nat.zero_le _
  | cons x r =>
    have := mem_stw (t := x) (st := x :: r) (List.mem_cons_self ..)
    show x.length ≤ _
    omega
end Kx

/-! the reader as a machine over signs -/
namespace Kx
/-- an open node: its word, how many parts are whole, their rows -/
abbrev Fr := List Nat × Nat × List Sy
structure Z where
  fs : List Fr
  cur : List Sy
  st : Nat
def z0 : Z := ⟨[], [], 0⟩
def wrd (cur : List Sy) : List Nat := (cur.headD ([], 0)).1
def cls (c : Nat) (cur : List Sy) : List Fr → Option Z
  | [] => none
  | (w, n, kr) :: r => if c = 44 ∧ n < 3 then some ⟨(w, n + 1, kr ++ cur) :: r, [], 0⟩ else if c = 41 then some ⟨r, (w, n + 1) :: (kr ++ cur), 2⟩ else none
def step (h : Bool) (z : Z) (c : Nat) : Option Z :=
  if z.st = 0 then
    if c ∈ lowL then some ⟨z.fs, [([c], 0)], 1⟩ else if c = 46 ∨ (h = true ∧ c = 63) then some ⟨z.fs, [([c], 0)], 2⟩ else none
  else if z.st = 1 ∧ goes c = true ∧ (wrd z.cur).length < 16 then some ⟨z.fs, [(wrd z.cur ++ [c], 0)], 1⟩
  else if z.st = 1 ∧ c = 40 then some ⟨(wrd z.cur, 0, []) :: z.fs, [], 0⟩
  else cls c z.cur z.fs
theorem cls_eq (c : Nat) (cur : List Sy) (w : List Nat) (n : Nat) (kr : List Sy) (r : List Fr) : cls c cur ((w, n, kr) :: r) = if c = 44 ∧ n < 3 then some ⟨(w, n + 1, kr ++ cur) :: r, [], 0⟩ else if c = 41 then some ⟨r, (w, n + 1) :: (kr ++ cur), 2⟩ else none := rfl
def go (h : Bool) : Z → Nat → List Nat → Except Nat (List Sy)
  | z, k, [] => if z.st = 0 ∨ z.fs ≠ [] then .error k else .ok z.cur
  | z, k, c :: l => match step h z c with
    | none => .error k
    | some z' => go h z' (k + 1) l
def verdict (h : Bool) (l : List Nat) : Except Nat (List Sy) := go h z0 0 l
theorem go_nil {h : Bool} {z : Z} {k : Nat} : go h z k [] = if z.st = 0 ∨ z.fs ≠ [] then .error k else .ok z.cur := rfl
theorem go_eq {h : Bool} {z : Z} {k c : Nat} {l : List Nat} : go h z k (c :: l) = (match step h z c with | none => Except.error k | some z' => go h z' (k + 1) l) := rfl
theorem go_none {h : Bool} {z : Z} {k c : Nat} {l : List Nat} (e : step h z c = none) : go h z k (c :: l) = .error k := by
  rw [go_eq, e]
theorem go_some {h : Bool} {z z' : Z} {k c : Nat} {l : List Nat} (e : step h z c = some z') : go h z k (c :: l) = go h z' (k + 1) l := by
  rw [go_eq, e]
/-- the row so far, as the law's reader holds it (the count of an open node tells its begun part too) -/
def rowL : List Fr → List Sy
  | [] => []
  | (w, n, kr) :: r => rowL r ++ (w, n + 1) :: kr
/-- as the program's reader holds it ahead of a word -/
def rowP : List Fr → List Sy
  | [] => []
  | (w, n, kr) :: r => rowL r ++ (w, n) :: kr
def arnd : List Fr → List Nat
  | [] => []
  | _ :: r => arnd r ++ [(rowL r).length]
theorem arnd_length : ∀ fs : List Fr, (arnd fs).length = fs.length
  | [] => rfl
  | f :: r => by
    show (arnd r ++ [(rowL r).length]).length = r.length + 1
    rw [List.length_append, arnd_length r]
    rfl
/-! ### what the steps are -/
theorem low_goes {c : Nat} (h : c ∈ lowL) : goes c = true := by
  unfold goes
  rw [decide_eq_true h]
  rfl
theorem goes_not {c : Nat} (h : goes c = true) : c ≠ 40 ∧ c ≠ 41 ∧ c ≠ 44 ∧ c ≠ 46 ∧ c ≠ 63 := by
  refine ⟨?_, ?_, ?_, ?_, ?_⟩ <;> (intro e; subst e; revert h; decide)
theorem low_not {c : Nat} (h : c ∈ lowL) : c ≠ 40 ∧ c ≠ 41 ∧ c ≠ 44 ∧ c ≠ 46 ∧ c ≠ 63 := goes_not (low_goes h)
theorem step_low {h : Bool} {fs : List Fr} {c : Nat} (hc : c ∈ lowL) : step h ⟨fs, [], 0⟩ c = some ⟨fs, [([c], 0)], 1⟩ := by
  unfold step
  rw [if_pos rfl, if_pos hc]
theorem step_dot {h : Bool} {fs : List Fr} {c : Nat} (hc : c = 46 ∨ (h = true ∧ c = 63)) : step h ⟨fs, [], 0⟩ c = some ⟨fs, [([c], 0)], 2⟩ := by
  have hn : c ∉ lowL := fun z => by
    have q := low_not z
    rcases hc with e | ⟨_, e⟩
    · exact q.2.2.2.1 e
    · exact q.2.2.2.2 e
  unfold step
  rw [if_pos rfl, if_neg hn, if_pos hc]
theorem step_bad {h : Bool} {fs : List Fr} {c : Nat} (h1 : c ∉ lowL) (h2 : ¬ (c = 46 ∨ (h = true ∧ c = 63))) : step h ⟨fs, [], 0⟩ c = none := by
  unfold step
  rw [if_pos rfl, if_neg h1, if_neg h2]
theorem step_go {h : Bool} {fs : List Fr} {w : List Nat} {c : Nat} (hc : goes c = true) (hl : w.length < 16) : step h ⟨fs, [(w, 0)], 1⟩ c = some ⟨fs, [(w ++ [c], 0)], 1⟩ := by
  unfold step
  rw [if_neg (show ¬ (1 = 0) by decide), if_pos ⟨rfl, hc, hl⟩]
  rfl
theorem step_open {h : Bool} {fs : List Fr} {w : List Nat} : step h ⟨fs, [(w, 0)], 1⟩ 40 = some ⟨(w, 0, []) :: fs, [], 0⟩ := by
  unfold step
  rw [if_neg (show ¬ (1 = 0) by decide), if_neg (fun z => absurd z.2.1 (by decide)), if_pos ⟨rfl, rfl⟩]
  rfl
/-- behind a word: no sign of it, no bracket -/
theorem step_cls {h : Bool} {fs : List Fr} {cur : List Sy} {st c : Nat} (h0 : st ≠ 0) (hc : st = 1 → ¬ (goes c = true ∧ (wrd cur).length < 16) ∧ c ≠ 40) : step h ⟨fs, cur, st⟩ c = cls c cur fs := by
  unfold step
  rw [if_neg h0, if_neg (fun z => (hc z.1).1 z.2), if_neg (fun z => (hc z.1).2 z.2)]
theorem step_two {h : Bool} {fs : List Fr} {cur : List Sy} {c : Nat} : step h ⟨fs, cur, 2⟩ c = cls c cur fs := step_cls (by decide) (fun z => by cases z)
theorem go_two {h : Bool} {fs : List Fr} {cur : List Sy} {k : Nat} {l : List Nat} (hc : ∀ c, l.head? = some c → ¬ (goes c = true ∧ (wrd cur).length < 16) ∧ c ≠ 40) : go h ⟨fs, cur, 1⟩ k l = go h ⟨fs, cur, 2⟩ k l := by
  cases l with
  | nil =>
    rw [go_nil, go_nil]
    show (if (1 = 0) ∨ fs ≠ [] then _ else _) = (if (2 = 0) ∨ fs ≠ [] then _ else _)
    simp
  | cons c l =>
    have e1 := step_cls (h := h) (fs := fs) (cur := cur) (st := 1) (c := c) (by decide) (fun _ => hc c rfl)
    have e2 := step_two (h := h) (fs := fs) (cur := cur) (c := c)
    rw [go_eq, go_eq, e1, e2]
theorem cls_comma {w : List Nat} {n : Nat} {kr cur : List Sy} {r : List Fr} (h : n < 3) : cls 44 cur ((w, n, kr) :: r) = some ⟨(w, n + 1, kr ++ cur) :: r, [], 0⟩ := by
  rw [cls_eq, if_pos ⟨rfl, h⟩]
theorem cls_close {w : List Nat} {n : Nat} {kr cur : List Sy} {r : List Fr} : cls 41 cur ((w, n, kr) :: r) = some ⟨r, (w, n + 1) :: (kr ++ cur), 2⟩ := by
  rw [cls_eq, if_neg (fun z => absurd z.1 (by decide)), if_pos rfl]
theorem cls_none {c : Nat} {cur : List Sy} {fs : List Fr} (h1 : c ≠ 41) (h2 : c ≠ 44 ∨ ∀ w n kr r, fs = (w, n, kr) :: r → 3 ≤ n) : cls c cur fs = none := by
  cases fs with
  | nil => rfl
  | cons f r =>
    obtain ⟨w, n, kr⟩ := f
    rw [cls_eq, if_neg, if_neg h1]
    rintro ⟨a, b⟩
    rcases h2 with h2 | h2
    · exact h2 a
    · have := h2 w n kr r rfl
      omega
/-! ### a word -/
/-- the further signs of a word, n at most -/
def munch : Nat → List Nat → List Nat
  | 0, _ => []
  | _ + 1, [] => []
  | n + 1, c :: l => if goes c = true then c :: munch n l else []
theorem munch_pre : ∀ (n : Nat) (l : List Nat), l = munch n l ++ l.drop (munch n l).length
  | 0, l => by cases l <;> rfl
  | n + 1, [] => rfl
  | n + 1, c :: l => by
    show c :: l = (if goes c = true then c :: munch n l else []) ++ _
    by_cases h : goes c = true
    · have e : munch (n + 1) (c :: l) = c :: munch n l := by show (if goes c = true then c :: munch n l else []) = _; rw [if_pos h]
      rw [e, if_pos h]
      show c :: l = c :: (munch n l ++ l.drop (munch n l).length)
      rw [← munch_pre n l]
    · have e : munch (n + 1) (c :: l) = [] := by show (if goes c = true then c :: munch n l else []) = _; rw [if_neg h]
      rw [e, if_neg h]
      rfl
theorem munch_le : ∀ (n : Nat) (l : List Nat), (munch n l).length ≤ n
  | 0, l => Nat.le_of_eq (by cases l <;> rfl)
  | n + 1, [] => Nat.zero_le _
  | n + 1, c :: l => by
    have ih := munch_le n l
    show (if goes c = true then c :: munch n l else []).length ≤ n + 1
    by_cases h : goes c = true
    · rw [if_pos h, List.length_cons]
      omega
    · rw [if_neg h]
      exact Nat.zero_le _
theorem munch_goes : ∀ (n : Nat) (l : List Nat), ∀ c ∈ munch n l, goes c = true
  | 0, l, c, h => by
    have e : munch 0 l = [] := by cases l <;> rfl
    rw [e] at h
    cases h
  | n + 1, [], c, h => by cases h
  | n + 1, d :: l, c, h => by
    have e : munch (n + 1) (d :: l) = if goes d = true then d :: munch n l else [] := rfl
    rw [e] at h
    by_cases q : goes d = true
    · rw [if_pos q] at h
      rcases List.mem_cons.mp h with rfl | h
      · exact q
      · exact munch_goes n l c h
    · rw [if_neg q] at h
      cases h
theorem munch_next : ∀ (n : Nat) (l : List Nat) (c : Nat), (l.drop (munch n l).length).head? = some c → ¬ (goes c = true ∧ (munch n l).length < n)
  | 0, l, c, _ => fun z => absurd z.2 (Nat.not_lt_zero _)
  | n + 1, [], c, h => by cases h
  | n + 1, d :: l, c, h => by
    have e : munch (n + 1) (d :: l) = if goes d = true then d :: munch n l else [] := rfl
    rw [e] at h ⊢
    by_cases q : goes d = true
    · rw [if_pos q] at h ⊢
      have ih := munch_next n l c h
      rw [List.length_cons]
      exact fun z => ih ⟨z.1, by omega⟩
    · rw [if_neg q] at h ⊢
      have e2 : d = c := Option.some.inj h
      subst e2
      exact fun z => q z.1
theorem go_munch {h : Bool} {fs : List Fr} : ∀ (v w : List Nat) (k : Nat) (l : List Nat), (∀ c ∈ v, goes c = true) → w.length + v.length ≤ 16 → go h ⟨fs, [(w, 0)], 1⟩ k (v ++ l) = go h ⟨fs, [(w ++ v, 0)], 1⟩ (k + v.length) l
  | [], w, k, l, _, _ => by rw [List.append_nil]; rfl
  | c :: v, w, k, l, hg, hl => by
    rw [List.length_cons] at hl
    have e := step_go (h := h) (fs := fs) (w := w) (hg c (List.mem_cons_self ..)) (by omega)
    have ih := go_munch (h := h) (fs := fs) v (w ++ [c]) (k + 1) l (fun d hd => hg d (List.mem_cons_of_mem _ hd)) (by rw [List.length_append, List.length_singleton]; omega)
    rw [List.cons_append, go_some e, ih, List.append_assoc, List.singleton_append, List.length_cons]
    congr 1
    omega
/-- what stands of a word at the front -/
def word (l : List Nat) : List Nat := match l with
  | [] => []
  | c :: l => c :: munch 15 l
theorem word_drop (c : Nat) (l : List Nat) : (c :: l).drop (word (c :: l)).length = l.drop (munch 15 l).length := rfl
theorem word_len (c : Nat) (l : List Nat) : 1 ≤ (word (c :: l)).length ∧ (word (c :: l)).length ≤ 16 := by
  have := munch_le 15 l
  show 1 ≤ (munch 15 l).length + 1 ∧ (munch 15 l).length + 1 ≤ 16
  omega
theorem go_word {h : Bool} {fs : List Fr} {c k : Nat} {l : List Nat} (hc : c ∈ lowL) : go h ⟨fs, [], 0⟩ k (c :: l) = go h ⟨fs, [(word (c :: l), 0)], 1⟩ (k + (word (c :: l)).length) ((c :: l).drop (word (c :: l)).length) := by
  rw [go_some (step_low hc), word_drop]
  have e := munch_pre 15 l
  have := go_munch (h := h) (fs := fs) (munch 15 l) [c] (k + 1) (l.drop (munch 15 l).length) (munch_goes 15 l) (by have := munch_le 15 l; show 1 + _ ≤ 16; omega)
  rw [← e] at this
  rw [this]
  show go h ⟨fs, [([c] ++ munch 15 l, 0)], 1⟩ _ _ = go h ⟨fs, [(c :: munch 15 l, 0)], 1⟩ _ _
  rw [List.singleton_append]
  congr 1
  show k + 1 + (munch 15 l).length = k + ((munch 15 l).length + 1)
  omega
theorem word_next {c d : Nat} {l : List Nat} (h : ((c :: l).drop (word (c :: l)).length).head? = some d) : ¬ (goes d = true ∧ (word (c :: l)).length < 16) := fun z => by
  have q := munch_next 15 l d h
  refine q ⟨z.1, ?_⟩
  have : (word (c :: l)).length = (munch 15 l).length + 1 := rfl
  have := z.2
  omega
/-! ### brackets that close -/
def popN : Nat → List Sy → List Fr → List Sy
  | m + 1, cur, (w, n, kr) :: r => popN m ((w, n + 1) :: (kr ++ cur)) r
  | _, cur, _ => cur
theorem popN_zero (cur : List Sy) (fs : List Fr) : popN 0 cur fs = cur := by unfold popN; rfl
theorem popN_row : ∀ (m : Nat) (cur : List Sy) (fs : List Fr), m ≤ fs.length → rowL (fs.drop m) ++ popN m cur fs = rowL fs ++ cur
  | 0, cur, fs, _ => by rw [popN_zero]; rfl
  | m + 1, cur, [], h => by cases h
  | m + 1, cur, (w, n, kr) :: r, h => by
    have ih := popN_row m ((w, n + 1) :: (kr ++ cur)) r (Nat.le_of_succ_le_succ h)
    show rowL (r.drop m) ++ popN m ((w, n + 1) :: (kr ++ cur)) r = (rowL r ++ (w, n + 1) :: kr) ++ cur
    rw [ih, List.append_assoc]
    rfl
theorem arnd_drop : ∀ (m : Nat) (fs : List Fr), arnd (fs.drop m) = (arnd fs).take (fs.length - m)
  | 0, fs => by rw [List.drop_zero, Nat.sub_zero, List.take_of_length_le (by rw [arnd_length]; exact Nat.le_refl _)]
  | m + 1, [] => by
    rw [List.drop_nil]
    show [] = List.take _ []
    rw [List.take_nil]
  | m + 1, f :: r => by
    have ih := arnd_drop m r
    show arnd (r.drop m) = (arnd r ++ [(rowL r).length]).take (r.length + 1 - (m + 1))
    rw [ih, Nat.add_sub_add_right, List.take_append_of_le_length (by rw [arnd_length]; omega)]
theorem go_pop {h : Bool} : ∀ (m : Nat) (cur : List Sy) (fs : List Fr) (k : Nat) (l : List Nat), m ≤ fs.length → go h ⟨fs, cur, 2⟩ k (List.replicate m 41 ++ l) = go h ⟨fs.drop m, popN m cur fs, 2⟩ (k + m) l
  | 0, cur, fs, k, l, _ => by rw [popN_zero]; rfl
  | m + 1, cur, [], k, l, hm => by cases hm
  | m + 1, cur, (w, n, kr) :: r, k, l, hm => by
    have ih := go_pop (h := h) m ((w, n + 1) :: (kr ++ cur)) r (k + 1) l (Nat.le_of_succ_le_succ hm)
    rw [List.replicate_succ, List.cons_append, go_some (step_two.trans cls_close), ih]
    show go h ⟨r.drop m, _, 2⟩ (k + 1 + m) l = go h ⟨r.drop m, _, 2⟩ (k + (m + 1)) l
    rw [show k + 1 + m = k + (m + 1) by omega]
    rfl
end Kx

/-! what is read is shown as the same text; what is shown is read as the same row; the law's own text -/
namespace Kx
/-! ### read, then shown -/
/-- the text so far -/
def txt : List Fr → List Nat
  | [] => []
  | (w, _, kr) :: r => txt r ++ w ++ [40] ++ ((stack kr).map (· ++ [44])).flatten
def OkF (fs : List Fr) : Prop := ∀ f ∈ fs, forest f.2.1 f.2.2
structure Good (z : Z) (pre : List Nat) : Prop where
  frs : OkF z.fs
  no : z.st = 0 → z.cur = [] ∧ pre = txt z.fs
  one : z.st = 1 → ∃ w, z.cur = [(w, 0)]
  tree : z.st ≠ 0 → forest 1 z.cur ∧ pre = txt z.fs ++ show_ z.cur
theorem good_start : Good z0 [] := ⟨fun f hf => (by cases hf), fun _ => ⟨rfl, rfl⟩, fun e => (by cases e), fun h => absurd rfl h⟩
theorem forest_leaf {w : List Nat} : forest 1 [((w, 0) : Sy)] := forest_tree (m := 0) (r := []) rfl
theorem good_cls {c : Nat} {cur : List Sy} {fs : List Fr} {pre : List Nat} {z : Z} (hf : OkF fs) (hc : forest 1 cur) (hp : pre = txt fs ++ show_ cur) (e : cls c cur fs = some z) : Good z (pre ++ [c]) := by
  cases fs with
  | nil => cases e
  | cons f r =>
    obtain ⟨w, n, kr⟩ := f
    have hk : forest n kr := hf (w, n, kr) (List.mem_cons_self ..)
    have hr : OkF r := fun f h => hf f (List.mem_cons_of_mem _ h)
    have hs : stack (kr ++ cur) = stack kr ++ [show_ cur] := by rw [stack_append hk, stack_one hc]
    rw [cls_eq] at e
    by_cases h1 : c = 44 ∧ n < 3
    · rw [if_pos h1] at e
      cases e
      refine ⟨fun f h => ?_, fun _ => ⟨rfl, ?_⟩, fun q => (by cases q), fun q => absurd rfl q⟩
      · rcases List.mem_cons.mp h with rfl | h
        · exact forest_append hk hc
        · exact hr f h
      · rw [hp, h1.1]
        show txt r ++ w ++ [40] ++ ((stack kr).map (· ++ [44])).flatten ++ show_ cur ++ [44] = txt r ++ w ++ [40] ++ ((stack (kr ++ cur)).map (· ++ [44])).flatten
        rw [hs]
        simp
    · rw [if_neg h1] at e
      by_cases h2 : c = 41
      · rw [if_pos h2] at e
        cases e
        refine ⟨hr, fun q => (by cases q), fun q => (by cases q), fun _ => ⟨forest_tree (forest_append hk hc), ?_⟩⟩
        rw [show_node (forest_append hk hc), hs, join_append_one, hp, h2]
        show txt r ++ w ++ [40] ++ ((stack kr).map (· ++ [44])).flatten ++ show_ cur ++ [41] = txt r ++ (w ++ [40] ++ (((stack kr).map (· ++ [44])).flatten ++ show_ cur) ++ [41])
        simp
      · rw [if_neg h2] at e
        cases e
theorem good_step {h : Bool} {z z' : Z} {c : Nat} {pre : List Nat} (g : Good z pre) (e : step h z c = some z') : Good z' (pre ++ [c]) := by
  obtain ⟨fs, cur, st⟩ := z
  unfold step at e
  by_cases h0 : st = 0
  · obtain ⟨-, hp⟩ := g.no h0
    rw [if_pos h0] at e
    have fin : ∀ s, s ≠ 0 → some (⟨fs, [([c], 0)], s⟩ : Z) = some z' → Good z' (pre ++ [c]) := fun s hs q => by
      cases q
      exact ⟨g.frs, fun q => absurd q hs, fun _ => ⟨_, rfl⟩, fun _ => ⟨forest_leaf, by rw [hp]; rfl⟩⟩
    by_cases h1 : c ∈ lowL
    · rw [if_pos h1] at e
      exact fin 1 (by decide) e
    · rw [if_neg h1] at e
      by_cases h2 : c = 46 ∨ (h = true ∧ c = 63)
      · rw [if_pos h2] at e
        exact fin 2 (by decide) e
      · rw [if_neg h2] at e
        cases e
  · obtain ⟨ht, hp⟩ := g.tree h0
    rw [if_neg h0] at e
    by_cases h1 : st = 1 ∧ goes c = true ∧ (wrd cur).length < 16
    · rw [if_pos h1] at e
      cases e
      obtain ⟨w, hw⟩ := g.one h1.1
      have hw' : cur = [(w, 0)] := hw
      subst hw'
      refine ⟨g.frs, fun q => (by cases q), fun _ => ⟨_, rfl⟩, fun _ => ⟨forest_leaf, ?_⟩⟩
      rw [hp]
      show txt fs ++ w ++ [c] = txt fs ++ (w ++ [c])
      rw [List.append_assoc]
    · rw [if_neg h1] at e
      by_cases h2 : st = 1 ∧ c = 40
      · rw [if_pos h2] at e
        cases e
        obtain ⟨w, hw⟩ := g.one h2.1
        have hw' : cur = [(w, 0)] := hw
        subst hw'
        refine ⟨fun f hf => ?_, fun _ => ⟨rfl, ?_⟩, fun q => (by cases q), fun q => absurd rfl q⟩
        · rcases List.mem_cons.mp hf with rfl | hf
          · exact forest_nil
          · exact g.frs f hf
        · rw [hp, h2.2]
          show txt fs ++ w ++ [40] = txt fs ++ w ++ [40] ++ []
          rw [List.append_nil]
      · rw [if_neg h2] at e
        exact good_cls g.frs ht hp e
theorem good_go {h : Bool} : ∀ (l : List Nat) (z : Z) (k : Nat) (pre : List Nat) (row : List Sy), Good z pre → go h z k l = .ok row → forest 1 row ∧ show_ row = pre ++ l
  | [], z, k, pre, row, g, e => by
    rw [go_nil] at e
    by_cases h0 : z.st = 0 ∨ z.fs ≠ []
    · rw [if_pos h0] at e
      cases e
    · rw [if_neg h0] at e
      cases e
      have h1 : z.st ≠ 0 := fun q => h0 (.inl q)
      have h2 : z.fs = [] := Classical.byContradiction fun q => h0 (.inr q)
      obtain ⟨ht, hp⟩ := g.tree h1
      rw [h2] at hp
      refine ⟨ht, ?_⟩
      rw [List.append_nil, hp]
      rfl
  | c :: l, z, k, pre, row, g, e => by
    rw [go_eq] at e
    cases q : step h z c with
    | none =>
      rw [q] at e
      cases e
    | some z' =>
      rw [q] at e
      have ih := good_go l z' (k + 1) (pre ++ [c]) row (good_step g q) e
      rw [List.append_assoc] at ih
      exact ih
theorem read_shown {h : Bool} {l : List Nat} {row : List Sy} (e : verdict h l = .ok row) : forest 1 row ∧ show_ row = l := good_go l z0 0 [] row good_start e
/-- the words that are read have at most sixteen signs -/
def Short (row : List Sy) : Prop := ∀ s ∈ row, s.1.length ≤ 16
structure Sh (z : Z) : Prop where
  fs : ∀ f ∈ z.fs, f.1.length ≤ 16 ∧ Short f.2.2
  cur : Short z.cur
theorem short_one {w : List Nat} {m : Nat} (h : w.length ≤ 16) : Short [(w, m)] := fun s hs => by
  rcases List.mem_cons.mp hs with rfl | hs
  · exact h
  · cases hs
theorem short_wrd {cur : List Sy} (h : Short cur) : (wrd cur).length ≤ 16 := by
  cases cur with
  | nil => exact Nat.zero_le _
  | cons s r => exact h s (List.mem_cons_self ..)
theorem short_app {a b : List Sy} (ha : Short a) (hb : Short b) : Short (a ++ b) := fun s hs => (List.mem_append.mp hs).elim (ha s) (hb s)
theorem short_cons {w : List Nat} {m : Nat} {b : List Sy} (ha : w.length ≤ 16) (hb : Short b) : Short ((w, m) :: b) := fun s hs => by
  rcases List.mem_cons.mp hs with rfl | hs
  · exact ha
  · exact hb s hs
theorem sh_step {h : Bool} {z z' : Z} {c : Nat} (g : Sh z) (e : step h z c = some z') : Sh z' := by
  obtain ⟨fs, cur, st⟩ := z
  have nil : Short [] := fun s hs => by cases hs
  unfold step at e
  split at e
  · split at e
    · cases e
      exact ⟨g.fs, short_one (by show 1 ≤ 16; decide)⟩
    · split at e
      · cases e
        exact ⟨g.fs, short_one (by show 1 ≤ 16; decide)⟩
      · cases e
  · split at e
    · rename_i h1
      cases e
      refine ⟨g.fs, short_one ?_⟩
      rw [List.length_append, List.length_singleton]
      exact h1.2.2
    · split at e
      · cases e
        refine ⟨fun f hf => ?_, nil⟩
        rcases List.mem_cons.mp hf with rfl | hf
        · exact ⟨short_wrd g.cur, nil⟩
        · exact g.fs f hf
      · cases fs with
        | nil => cases e
        | cons f r =>
          obtain ⟨w, n, kr⟩ := f
          have h0 := g.fs (w, n, kr) (List.mem_cons_self ..)
          have hr : ∀ f ∈ r, f.1.length ≤ 16 ∧ Short f.2.2 := fun f hf => g.fs f (List.mem_cons_of_mem _ hf)
          have e' : cls c cur ((w, n, kr) :: r) = some z' := e
          rw [cls_eq] at e'
          split at e'
          · cases e'
            refine ⟨fun f hf => ?_, nil⟩
            rcases List.mem_cons.mp hf with rfl | hf
            · exact ⟨h0.1, short_app h0.2 g.cur⟩
            · exact hr f hf
          · split at e'
            · cases e'
              exact ⟨hr, short_cons h0.1 (short_app h0.2 g.cur)⟩
            · cases e'
theorem sh_go {h : Bool} : ∀ (l : List Nat) (z : Z) (k : Nat) (row : List Sy), Sh z → go h z k l = .ok row → Short row
  | [], z, k, row, g, e => by
    rw [go_nil] at e
    split at e
    · cases e
    · cases e
      exact g.cur
  | c :: l, z, k, row, g, e => by
    rw [go_eq] at e
    cases q : step h z c with
    | none =>
      rw [q] at e
      cases e
    | some z' =>
      rw [q] at e
      exact sh_go l z' (k + 1) row (sh_step g q) e
theorem sh_start : Sh z0 := ⟨fun f hf => (by cases hf), fun s hs => (by cases hs)⟩
theorem read_short {h : Bool} {l : List Nat} {row : List Sy} (e : verdict h l = .ok row) : Short row := sh_go l z0 0 row sh_start e
/-- a read row has no more symbols than its text has signs -/
theorem read_len : ∀ {row : List Sy} {n : Nat}, forest n row → (∀ s ∈ row, s.1 ≠ []) → row.length ≤ ((stack row).map List.length).sum
  | [], n, _, _ => Nat.zero_le _
  | s :: r, 0, h, _ => h.elim
  | s :: r, n + 1, h, hw => by
    have ih := read_len (row := r) (n := n + s.2) h fun x hx => hw x (List.mem_cons_of_mem _ hx)
    have h0 := hw s (List.mem_cons_self ..)
    have hs : 1 ≤ s.1.length := List.length_pos_iff.mpr h0
    have e : ((stack r).map List.length).sum = (((stack r).take s.2).map List.length).sum + (((stack r).drop s.2).map List.length).sum := by
      rw [← List.sum_append_nat, ← List.map_append, List.take_append_drop]
    have j : ∀ l : List (List Nat), (l.map List.length).sum ≤ (join [44] l).length := by
      intro l
      induction l with
      | nil => exact Nat.zero_le _
      | cons a l ih =>
        cases l with
        | nil =>
          show (List.map List.length [a]).sum ≤ a.length
          simp
        | cons b l =>
          have q : join [44] (a :: b :: l) = a ++ [44] ++ join [44] (b :: l) := rfl
          rw [q, List.length_append, List.length_append, List.map_cons, List.sum_cons, List.length_singleton]
          omega
    have jj := j ((stack r).take s.2)
    rw [stack_cons]
    unfold push
    rw [List.map_cons, List.sum_cons, List.length_cons]
    by_cases hm : 0 < s.2
    · rw [if_pos hm, List.length_append, List.length_append, List.length_append, List.length_singleton, List.length_singleton]
      omega
    · have e0 : s.2 = 0 := by omega
      have e1 : (((stack r).take s.2).map List.length).sum = 0 := by rw [e0, List.take_zero]; rfl
      rw [if_neg hm]
      omega
end Kx

namespace Kx
/-! ### how many symbols are read -/
def rows (z : Z) : List Sy := rowL z.fs ++ z.cur
theorem rows_step {h : Bool} {z z' : Z} {c : Nat} (e : step h z c = some z') : (rows z').length ≤ (rows z).length + 1 := by
  obtain ⟨fs, cur, st⟩ := z
  unfold step at e
  split at e
  · split at e
    · cases e
      simp [rows] <;> omega
    · split at e
      · cases e
        simp [rows] <;> omega
      · cases e
  · split at e
    · cases e
      simp [rows] <;> omega
    · split at e
      · cases e
        simp [rows, rowL] <;> omega
      · cases fs with
        | nil => cases e
        | cons f r =>
          obtain ⟨w, n, kr⟩ := f
          have e' : cls c cur ((w, n, kr) :: r) = some z' := e
          rw [cls_eq] at e'
          split at e'
          · cases e'
            simp [rows, rowL] <;> omega
          · split at e'
            · cases e'
              simp [rows, rowL] <;> omega
            · cases e'
theorem rows_go {h : Bool} : ∀ (l : List Nat) (z : Z) (k : Nat) (row : List Sy), go h z k l = .ok row → row.length ≤ (rows z).length + l.length
  | [], z, k, row, e => by
    rw [go_nil] at e
    split at e
    · cases e
    · cases e
      simp [rows]
  | c :: l, z, k, row, e => by
    rw [go_eq] at e
    cases q : step h z c with
    | none =>
      rw [q] at e
      cases e
    | some z' =>
      rw [q] at e
      have ih := rows_go l z' (k + 1) row e
      have := rows_step q
      rw [List.length_cons]
      omega
theorem read_rows {h : Bool} {l : List Nat} {row : List Sy} (e : verdict h l = .ok row) : row.length ≤ l.length := by
  have := rows_go l z0 0 row e
  have q : (rows z0).length = 0 := rfl
  omega
/-! ### shown, then read -/
def WordOk (h : Bool) (s : Sy) : Prop := (s.1 = [46] ∧ s.2 = 0) ∨ (h = true ∧ s.1 = [63] ∧ s.2 = 0) ∨ ((∃ c v, s.1 = c :: v ∧ c ∈ lowL ∧ (∀ d ∈ v, goes d = true) ∧ v.length ≤ 15) ∧ s.2 ≤ 4)
def AllOk (h : Bool) (row : List Sy) : Prop := ∀ s ∈ row, WordOk h s
def EndsOk (l : List Nat) : Prop := ∀ c, l.head? = some c → c = 44 ∨ c = 41
theorem ends_two {h : Bool} {fs : List Fr} {cur : List Sy} {k : Nat} {l : List Nat} (e : EndsOk l) : go h ⟨fs, cur, 1⟩ k l = go h ⟨fs, cur, 2⟩ k l :=
  go_two fun c q => by
    rcases e c q with rfl | rfl
    · exact ⟨fun z => absurd z.1 (by decide), by decide⟩
    · exact ⟨fun z => absurd z.1 (by decide), by decide⟩
theorem go_proper {h : Bool} {fs : List Fr} {c : Nat} {v : List Nat} {k : Nat} {l : List Nat} (hc : c ∈ lowL) (hv : ∀ d ∈ v, goes d = true) (hl : v.length ≤ 15) : go h ⟨fs, [], 0⟩ k ((c :: v) ++ l) = go h ⟨fs, [(c :: v, 0)], 1⟩ (k + (c :: v).length) l := by
  rw [List.cons_append, go_some (step_low hc), go_munch v [c] (k + 1) l hv (by show 1 + _ ≤ 16; omega)]
  show go h ⟨fs, [([c] ++ v, 0)], 1⟩ _ _ = _
  rw [List.singleton_append, List.length_cons]
  congr 1
  omega
theorem go_leaf {h : Bool} {fs : List Fr} {w : List Nat} {k : Nat} {l : List Nat} (hw : WordOk h (w, 0)) (e : EndsOk l) : go h ⟨fs, [], 0⟩ k (w ++ l) = go h ⟨fs, [(w, 0)], 2⟩ (k + w.length) l := by
  rcases hw with ⟨q, _⟩ | ⟨h1, q, _⟩ | ⟨⟨c, v, q, hc, hv, hl⟩, _⟩
  · have q' : w = [46] := q
    subst q'
    exact go_some (step_dot (.inl rfl))
  · have q' : w = [63] := q
    subst q'
    exact go_some (step_dot (.inr ⟨h1, rfl⟩))
  · have q' : w = c :: v := q
    subst q'
    rw [go_proper hc hv hl, ends_two e]
theorem go_head {h : Bool} {fs : List Fr} {w : List Nat} {m k : Nat} {l : List Nat} (hw : WordOk h (w, m + 1)) : go h ⟨fs, [], 0⟩ k (w ++ [40] ++ l) = go h ⟨(w, 0, []) :: fs, [], 0⟩ (k + w.length + 1) l := by
  rcases hw with ⟨_, q⟩ | ⟨_, _, q⟩ | ⟨⟨c, v, q, hc, hv, hl⟩, _⟩
  · cases q
  · cases q
  · have q' : w = c :: v := q
    subst q'
    rw [List.append_assoc, go_proper hc hv hl]
    exact go_some step_open
theorem many_ok {h : Bool} {w : List Nat} {m : Nat} (hw : WordOk h (w, m)) : m ≤ 4 := by
  rcases hw with ⟨_, q⟩ | ⟨_, _, q⟩ | ⟨_, q⟩
  · have q' : m = 0 := q
    omega
  · have q' : m = 0 := q
    omega
  · exact q
theorem show_le_stack {a b : List Sy} {n : Nat} (h : forest n a) : stack (a ++ b) = stack a ++ stack b := stack_append h
theorem go_show {h : Bool} : ∀ (N : Nat),
    (∀ (t : List Sy) (fs : List Fr) (k : Nat) (l : List Nat), t.length ≤ N → forest 1 t → AllOk h t → EndsOk l → go h ⟨fs, [], 0⟩ k (show_ t ++ l) = go h ⟨fs, t, 2⟩ (k + (show_ t).length) l) ∧
    (∀ (f : List Sy) (n c : Nat) (w : List Nat) (kr : List Sy) (fs : List Fr) (k : Nat) (l : List Nat), f.length ≤ N → forest (n + 1) f → AllOk h f → c + n + 1 ≤ 4 →
      go h ⟨(w, c, kr) :: fs, [], 0⟩ k (join [44] (stack f) ++ 41 :: l) = go h ⟨fs, (w, c + n + 1) :: (kr ++ f), 2⟩ (k + (join [44] (stack f)).length + 1) l) := by
  intro N
  induction N with
  | zero =>
    refine ⟨fun t fs k l hl ht => ?_, fun f n c w kr fs k l hl hf => ?_⟩
    · exact absurd (List.length_eq_zero_iff.mp (Nat.le_zero.mp hl)) (forest_ne ht)
    · exact absurd (List.length_eq_zero_iff.mp (Nat.le_zero.mp hl)) (forest_ne hf)
  | succ N ih =>
    have one : ∀ (t : List Sy) (fs : List Fr) (k : Nat) (l : List Nat), t.length ≤ N + 1 → forest 1 t → AllOk h t → EndsOk l → go h ⟨fs, [], 0⟩ k (show_ t ++ l) = go h ⟨fs, t, 2⟩ (k + (show_ t).length) l := by
      intro t fs k l hl ht hok he
      cases t with
      | nil => exact absurd rfl (forest_ne ht)
      | cons s r =>
        obtain ⟨w, m⟩ := s
        have hf : forest m r := by
          have q : forest (0 + m) r := ht
          rw [Nat.zero_add] at q
          exact q
        have hw := hok (w, m) (List.mem_cons_self ..)
        cases m with
        | zero =>
          have e := forest_zero hf
          subst e
          exact go_leaf hw he
        | succ m =>
          rw [show_node hf]
          have h4 := many_ok hw
          have q := ih.2 r m 0 w [] fs (k + w.length + 1) l (by rw [List.length_cons] at hl; omega) hf (fun s hs => hok s (List.mem_cons_of_mem _ hs)) (by omega)
          rw [show w ++ [40] ++ join [44] (stack r) ++ [41] ++ l = w ++ [40] ++ (join [44] (stack r) ++ 41 :: l) by simp, go_head hw, q]
          rw [show 0 + m + 1 = m + 1 by omega, List.nil_append]
          congr 1
          simp
          omega
    refine ⟨one, fun f n c w kr fs k l hl hf hok hc => ?_⟩
    obtain ⟨a, b, e, ha, hb⟩ := forest_split (n := 1) (m := n) (r := f) (by rw [Nat.add_comm]; exact hf)
    have oka : AllOk h a := fun s hs => hok s (by rw [e]; exact List.mem_append_left _ hs)
    have okb : AllOk h b := fun s hs => hok s (by rw [e]; exact List.mem_append_right _ hs)
    have la : a.length + b.length ≤ N + 1 := by
      rw [e, List.length_append] at hl
      exact hl
    have pa : 0 < a.length := List.length_pos_iff.mpr (forest_ne ha)
    have hs : stack f = show_ a :: stack b := by
      rw [e, stack_append ha, stack_one ha]
      rfl
    cases n with
    | zero =>
      have eb := forest_zero hb
      subst eb
      rw [List.append_nil] at e
      subst e
      rw [hs]
      show go h _ k (show_ f ++ 41 :: l) = go h _ (k + (show_ f).length + 1) l
      rw [one f ((w, c, kr) :: fs) k (41 :: l) (by simpa using la) ha oka (fun d hd => by cases hd; exact .inr rfl), go_some (step_two.trans cls_close)]
    | succ n =>
      have sb : stack b ≠ [] := fun z => by
        have := stack_length hb
        rw [z] at this
        cases this
      rw [hs, join_cons _ sb, show show_ a ++ [44] ++ join [44] (stack b) ++ 41 :: l = show_ a ++ (44 :: (join [44] (stack b) ++ 41 :: l)) by simp]
      rw [one a ((w, c, kr) :: fs) k _ (by omega) ha oka (fun d hd => by cases hd; exact .inl rfl), go_some (step_two.trans (cls_comma (by omega)))]
      have q := ih.2 b n (c + 1) w (kr ++ a) fs (k + (show_ a).length + 1) l (by omega) hb okb (by omega)
      rw [q, e, List.append_assoc, show c + 1 + n + 1 = c + (n + 1) + 1 by omega]
      congr 1
      simp <;> omega
theorem shown_read {h : Bool} {t : List Sy} (ht : forest 1 t) (hok : AllOk h t) : verdict h (show_ t) = .ok t := by
  have q := (go_show (h := h) t.length).1 t [] 0 [] (Nat.le_refl _) ht hok (fun c hc => by cases hc)
  rw [List.append_nil] at q
  unfold verdict
  show go h ⟨[], [], 0⟩ 0 (show_ t) = _
  rw [q, go_nil, if_neg (fun z => z.elim (fun y => by cases y) fun y => y rfl)]
/-! ### the text that the ends of the pieces tell -/
/-- from place k on, E the ends of the nodes with parts so far -/
def emit : Nat → List Nat → List Sy → List Nat
  | _, _, [] => []
  | k, E, s :: r => if 0 < s.2 then s.1 ++ [40] ++ emit (k + 1) ((k + far 1 (s :: r)) :: E) r else s.1 ++ List.replicate (E.count (k + 1)) 41 ++ (if r = [] then [] else [44]) ++ emit (k + 1) E r
theorem emit_shown : ∀ (N : Nat) (f : List Sy) (n k : Nat) (E : List Nat) (r : List Sy), f.length ≤ N → forest (n + 1) f → (∀ e, k < e → e < k + f.length → E.count e = 0) →
    ∃ E2 : List Nat, (∀ e, k + f.length < e → E2.count e = 0) ∧ emit k E (f ++ r) = join [44] (stack f) ++ List.replicate (E.count (k + f.length)) 41 ++ (if r = [] then [] else [44]) ++ emit (k + f.length) (E2 ++ E) r := by
  intro N
  induction N with
  | zero =>
    intro f n k E r hl hf
    exact absurd (List.length_eq_zero_iff.mp (Nat.le_zero.mp hl)) (forest_ne hf)
  | succ N ih =>
    intro f n k E r hl hf hE
    cases f with
    | nil => exact absurd rfl (forest_ne hf)
    | cons s f' =>
      obtain ⟨w, m⟩ := s
      have hf' : forest (n + m) f' := hf
      rw [List.length_cons] at hl hE
      cases m with
      | zero =>
        have e1 : emit k E (((w, 0) :: f') ++ r) = w ++ List.replicate (E.count (k + 1)) 41 ++ (if f' ++ r = [] then [] else [44]) ++ emit (k + 1) E (f' ++ r) := rfl
        cases n with
        | zero =>
          have e := forest_zero hf'
          subst e
          exact ⟨[], fun _ _ => rfl, e1⟩
        | succ n =>
          have c0 : E.count (k + 1) = 0 := hE (k + 1) (by omega) (by have := List.length_pos_iff.mpr (forest_ne (n := n) hf'); omega)
          obtain ⟨E2, h2, q⟩ := ih f' n (k + 1) E r (by omega) hf' (fun e a b => hE e (by omega) (by omega))
          have sb : stack f' ≠ [] := fun z => by
            have := stack_length hf'
            rw [z] at this
            cases this
          refine ⟨E2, fun e he => h2 e (by rw [List.length_cons] at he; omega), ?_⟩
          have ne : ¬ f' ++ r = [] := fun z => forest_ne (n := n) hf' (List.append_eq_nil_iff.mp z).1
          have es : stack ((w, 0) :: f') = w :: stack f' := rfl
          rw [e1, c0, if_neg ne, q, es, join_cons _ sb, List.length_cons, show k + 1 + f'.length = k + (f'.length + 1) by omega]
          simp
      | succ m =>
        obtain ⟨a, b, e, ha, hb⟩ := forest_split (n := m + 1) (m := n) (r := f') (by rw [Nat.add_comm]; exact hf')
        subst e
        rw [List.length_append] at hl hE
        have e0 : far 1 (((w, m + 1) :: (a ++ b)) ++ r) = 1 + a.length := by
          show 1 + far (0 + (m + 1)) (a ++ b ++ r) = _
          rw [Nat.zero_add, List.append_assoc, far_forest _ ha]
        have e1 : emit k E (((w, m + 1) :: (a ++ b)) ++ r) = w ++ [40] ++ emit (k + 1) ((k + far 1 (((w, m + 1) :: (a ++ b)) ++ r)) :: E) (a ++ b ++ r) := rfl
        rw [e0, List.append_assoc a b r] at e1
        have cn : ∀ e, e ≠ k + (1 + a.length) → ((k + (1 + a.length)) :: E).count e = E.count e := fun e he => List.count_cons_of_ne (Ne.symm he)
        obtain ⟨E2, h2, q⟩ := ih a m (k + 1) ((k + (1 + a.length)) :: E) (b ++ r) (by omega) ha (fun e x y => by rw [cn e (by omega)]; exact hE e (by omega) (by omega))
        have cs : ((k + (1 + a.length)) :: E).count (k + 1 + a.length) = E.count (k + 1 + a.length) + 1 := by
          rw [show k + (1 + a.length) = k + 1 + a.length by omega]
          exact List.count_cons_self
        rw [cs] at q
        have es : stack ((w, m + 1) :: (a ++ b)) = (w ++ [40] ++ join [44] (stack a) ++ [41]) :: stack b := by
          have la := stack_length ha
          rw [stack_cons]
          unfold push
          show (if 0 < m + 1 then w ++ [40] ++ join [44] ((stack (a ++ b)).take (m + 1)) ++ [41] else w) :: (stack (a ++ b)).drop (m + 1) = _
          rw [if_pos (Nat.succ_pos m), stack_append ha, List.take_left' la, List.drop_left' la]
        cases n with
        | zero =>
          have eb := forest_zero hb
          subst eb
          refine ⟨E2 ++ [k + (1 + a.length)], fun e he => ?_, ?_⟩
          · rw [List.length_cons, List.length_append, List.length_nil] at he
            rw [List.count_append, h2 e (by omega), List.count_cons_of_ne (by omega)]
            rfl
          · rw [e1, q, es]
            have l1 : k + ((w, m + 1) :: (a ++ [])).length = k + 1 + a.length := by
              rw [List.length_cons, List.append_nil]
              omega
            rw [l1, List.nil_append, List.append_assoc E2, List.singleton_append]
            have j1 : join [44] ((w ++ [40] ++ join [44] (stack a) ++ [41]) :: stack []) = w ++ [40] ++ join [44] (stack a) ++ [41] := rfl
            rw [j1, List.replicate_succ]
            simp
        | succ n =>
          have pb : 0 < b.length := List.length_pos_iff.mpr (forest_ne hb)
          have c0 : E.count (k + 1 + a.length) = 0 := hE _ (by omega) (by omega)
          have ce : ∀ e, k + 1 + a.length < e → (E2 ++ (k + (1 + a.length)) :: E).count e = E.count e := fun e he => by
            rw [List.count_append, h2 e he, cn e (by omega), Nat.zero_add]
          obtain ⟨E3, h3, q3⟩ := ih b n (k + 1 + a.length) (E2 ++ (k + (1 + a.length)) :: E) r (by omega) hb (fun e x y => by rw [ce e x]; exact hE e (by omega) (by omega))
          have sb : stack b ≠ [] := fun z => by
            have := stack_length hb
            rw [z] at this
            cases this
          have ne : ¬ b ++ r = [] := fun z => forest_ne hb (List.append_eq_nil_iff.mp z).1
          rw [ce _ (by omega)] at q3
          have l1 : k + ((w, m + 1) :: (a ++ b)).length = k + 1 + a.length + b.length := by
            rw [List.length_cons, List.length_append]
            omega
          refine ⟨E3 ++ (E2 ++ [k + (1 + a.length)]), fun e he => ?_, ?_⟩
          · rw [l1] at he
            rw [List.count_append, List.count_append, h3 e he, h2 e (by omega), List.count_cons_of_ne (by omega)]
            rfl
          · rw [e1, q, c0, if_neg ne, q3, es, join_cons _ sb, l1, Nat.zero_add, List.append_assoc E3, List.append_assoc E2, List.singleton_append]
            simp
theorem emit_show {t : List Sy} (ht : forest 1 t) : emit 0 [] t = show_ t := by
  obtain ⟨E2, _, q⟩ := emit_shown t.length t 0 0 [] [] (Nat.le_refl _) ht (fun _ _ _ => rfl)
  rw [List.append_nil] at q
  rw [q, stack_one ht]
  show join [44] [show_ t] ++ List.replicate 0 41 ++ (if ([] : List Sy) = [] then [] else [44]) ++ [] = show_ t
  rw [if_pos rfl]
  show show_ t ++ [] ++ [] ++ [] = show_ t
  simp
end Kx

/-! the text, the words of this proof -/
namespace Kx
open PySem PySem.Spec PyProof.Rows L2
def topS (i : Nat) : Stmt := PySem.Challenge.pw_stoodthere_k16_whole_texts_of_trees.main.body.getD i (.Pass ⟨0, 0, 0, 0⟩)
/-- the built-in names that stand as they are -/
structure Blt (mg : Str → Option Value) : Prop where
  len : mg "len" = none
  isinstance : mg "isinstance" = none
  abs : mg "abs" = none
  max : mg "max" = none
  int : mg "int" = none
  str : mg "str" = none
  bool : mg "bool" = none
  tuple : mg "tuple" = none
  list : mg "list" = none
  zip : mg "zip" = none
  range : mg "range" = none
  reversed : mg "reversed" = none
/-- a def as its callers need it -/
structure Cal (P : Program) (w : World) (K : PySem.W.Frag) (mg : Str → Option Value) (base : Heap) (CX : CXT) (k : Nat) (x : Str) (ps : List Str) (sp : Sp) : Prop where
  ex : ∃ (f : Addr) (fd : FuncData), FnOk P w K mg base CX k f fd ps sp ∧ mg x = some (.ref f) ∧ PySem.W.keepIn K (.ref f) = true ∧ Binds K fd ps []
section
variable {X : Cx} {CX : CXT} {k : Nat} {x : Str} {ps : List Str} {sp : Sp} {p pos : Pos} {e : Expr} {es : List Expr} {t : TA}
/-- f(e, ..), f lets nothing out -/
theorem co (c : Cal X.prog X.w X.K X.mg X.base CX0 k x ps sp) (hr : Room k X.A) (ha : PA X (e :: es) t) (hg : Gl X x := by rfl) (hdb : (x == ("__debug__" : Str)) = false := by decide)
    (he : starEach (e :: es) X.env = (false, eval e X.env) :: starEach es X.env := by rfl) (hpl : (backTo pos (starEach es X.env)).any (·.1) = false := by rfl) : PE X (.Call (.Name x p) (e :: es) [] pos) (tCall sp [] E0 t) := by
  obtain ⟨f, fd, F, hm, hk, hb⟩ := c.ex
  exact pe_call F hr hg hm hk hb .nil pass0 ha hdb he hpl
/-- .. in a def that lets out what f does -/
theorem cox {E : XK} (c : Cal X.prog X.w X.K X.mg X.base CX k x ps sp) (hr : Room k X.A) (hx : Passes CX X E) (ha : PA X (e :: es) t) (hg : Gl X x := by rfl) (hdb : (x == ("__debug__" : Str)) = false := by decide)
    (he : starEach (e :: es) X.env = (false, eval e X.env) :: starEach es X.env := by rfl) (hpl : (backTo pos (starEach es X.env)).any (·.1) = false := by rfl) : PE X (.Call (.Name x p) (e :: es) [] pos) (tCall sp [] E t) := by
  obtain ⟨f, fd, F, hm, hk, hb⟩ := c.ex
  exact pe_call F hr hg hm hk hb .nil hx ha hdb he hpl
end
theorem Cal.mono {P : Program} {w : World} {K : PySem.W.Frag} {mg : Str → Option Value} {base : Heap} {CX : CXT} {j k : Nat} {x : Str} {ps : List Str} {sp : Sp} (c : Cal P w K mg base CX j x ps sp) (h : j ≤ k) : Cal P w K mg base CX k x ps sp := by
  obtain ⟨f, fd, F, hm, hk, hb⟩ := c.ex
  exact ⟨f, fd, F.mono h, hm, hk, hb⟩
/-! ### signs and words -/
def mk (w : List Nat) : Str := ⟨w.toArray⟩
theorem tl_mk (w : List Nat) : TL.tl (mk w) = w := rfl
theorem mk_tl (z : Str) : mk (TL.tl z) = z := TL.mk_tl z
theorem mk_length (w : List Nat) : (mk w).length = w.length := by rw [TL.len_tl]; rfl
theorem mk_app (a b : List Nat) : mk a ++ mk b = mk (a ++ b) := TL.ext_tl (by rw [TL.tl_append]; rfl)
theorem mk_inj {a b : List Nat} (h : mk a = mk b) : a = b := by
  have := congrArg TL.tl h
  exact this
theorem small {n : Nat} (h : n ≤ 16000000) : n ≤ sizeLine := Nat.le_trans h (by decide)
theorem small1 {n : Nat} (h : n ≤ 16000000) : n < sizeLine := Nat.lt_of_le_of_lt h (by decide)
/-! ### what stands at an address -/
/-- a symbol, a row -/
def SymAt (H : Hp) (v : V) (s : Sy) : Prop := ∃ b, v = .ref b ∧ H b = some (.tup [.str (mk s.1), .int s.2])
def TreeAt (H : Hp) (a : Addr) (row : List Sy) : Prop := ∃ vs, H a = some (.tup vs) ∧ Paired (SymAt H) vs row
/-- tuples are kept -/
def TK (H H' : Hp) : Prop := ∀ b xs, H b = some (.tup xs) → H' b = some (.tup xs)
theorem TK.refl (H : Hp) : TK H H := fun _ _ h => h
theorem TK.trans {H H1 H2 : Hp} (a : TK H H1) (b : TK H1 H2) : TK H H2 := fun c o h => b c o (a c o h)
theorem TK.of {H H' : Hp} (s : Same H H') : TK H H' := fun b xs h => s b _ h
theorem TK.new {H : Hp} {p : Addr} {o : HO} (h : H p = none) : TK H (upd H p o) := fun b xs e => by
  rw [upd_ne (ne_of_none e h)]
  exact e
theorem TK.set {H : Hp} {p : Addr} {xs : List V} {o : HO} (h : H p = some (.lst xs)) : TK H (upd H p o) := fun b ys e => by
  rw [upd_ne (ne_of e h (by intro z; cases z))]
  exact e
theorem SymAt.keep {H H' : Hp} {v : V} {s : Sy} (k : TK H H') (h : SymAt H v s) : SymAt H' v s := by
  obtain ⟨b, e, q⟩ := h
  exact ⟨b, e, k _ _ q⟩
theorem symsAt_keep {H H' : Hp} {vs : List V} {row : List Sy} (k : TK H H') (h : Paired (SymAt H) vs row) : Paired (SymAt H') vs row := Paired.mapP h fun _ _ q => q.keep k
theorem TreeAt.keep {H H' : Hp} {a : Addr} {row : List Sy} (k : TK H H') (h : TreeAt H a row) : TreeAt H' a row := by
  obtain ⟨vs, e, q⟩ := h
  exact ⟨vs, k _ _ e, symsAt_keep k q⟩
theorem pair_get {α β : Type} {F : α → β → Prop} : ∀ {l : List α} {m : List β}, Paired F l m → ∀ {i : Nat} {y : β}, m[i]? = some y → ∃ x, l[i]? = some x ∧ F x y
  | _, _, .nil, i, y, h => by simp at h
  | _, _, .cons r t, 0, y, h => by
    have e : _ = y := Option.some.inj h
    subst e
    exact ⟨_, rfl, r⟩
  | _, _, .cons r t, i + 1, y, h => pair_get t (i := i) h
theorem pair_len {α β : Type} {F : α → β → Prop} {l : List α} {m : List β} (h : Paired F l m) : l.length = m.length := Paired.length h
theorem pair_snoc {α β : Type} {F : α → β → Prop} : ∀ {l : List α} {m : List β} {x : α} {y : β}, Paired F l m → F x y → Paired F (l ++ [x]) (m ++ [y])
  | _, _, _, _, .nil, h => .cons h .nil
  | _, _, _, _, .cons r t, h => .cons r (pair_snoc t h)
theorem same_new {H : Hp} {p : Addr} {o : HO} (h : H p = none) : Same H (upd H p o) := fun b x e => by
  rw [upd_ne (ne_of_none e h)]
  exact e
/-- an object that H does not know may change -/
theorem Same.mut {H H' : Hp} {p : Addr} {o : HO} (e : Same H H') (h : H p = none) : Same H (upd H' p o) := fun b x q => by
  rw [upd_ne (ne_of_none q h)]
  exact e b x q
/-! ### the tape -/
structure Tape (H : Hp) (t ca sa : Addr) : Prop where
  top : H t = some (.lst [.ref ca, .ref sa])
  cells : ∃ cs : List Nat, H ca = some (.lst (cs.map fun (c : Nat) => V.int (c : Int))) ∧ cs.length ≤ 63
  state : ∃ s : Nat, H sa = some (.lst [.int s]) ∧ s < 2147483647
  ne : ca ≠ sa
/-- all but the tape's two lists is kept -/
def But (H H' : Hp) (ca sa : Addr) : Prop := ∀ b o, b ≠ ca → b ≠ sa → H b = some o → H' b = some o
theorem But.refl (H : Hp) (ca sa : Addr) : But H H ca sa := fun _ _ _ _ h => h
theorem But.trans {H H1 H2 : Hp} {ca sa : Addr} (a : But H H1 ca sa) (b : But H1 H2 ca sa) : But H H2 ca sa := fun c o h1 h2 h => b c o h1 h2 (a c o h1 h2 h)
theorem But.of {H H' : Hp} {ca sa : Addr} (s : Same H H') : But H H' ca sa := fun b o _ _ h => s b o h
theorem But.tk {H H' : Hp} {t ca sa : Addr} (T : Tape H t ca sa) (k : But H H' ca sa) : TK H H' := fun b xs e => by
  obtain ⟨cs, hc, _⟩ := T.cells
  obtain ⟨s, hs, _⟩ := T.state
  exact k b _ (ne_of e hc (by intro z; cases z)) (ne_of e hs (by intro z; cases z)) e
theorem But.mut {H H' : Hp} {ca sa p : Addr} {o : HO} (k : But H H' ca sa) (h : H p = none) : But H (upd H' p o) ca sa := fun b x h1 h2 e => by
  rw [upd_ne (ne_of_none e h)]
  exact k b x h1 h2 e
theorem Tape.ne1 {H : Hp} {t ca sa : Addr} (T : Tape H t ca sa) : t ≠ ca := by
  obtain ⟨cs, hc, _⟩ := T.cells
  refine ne_of T.top hc fun z => ?_
  cases cs with
  | nil => cases z
  | cons c r => cases z
theorem Tape.ne2 {H : Hp} {t ca sa : Addr} (T : Tape H t ca sa) : t ≠ sa := by
  obtain ⟨s, hs, _⟩ := T.state
  exact ne_of T.top hs fun z => by cases z
/-- a new object beside the tape -/
theorem Tape.same {H H' : Hp} {t ca sa : Addr} (T : Tape H t ca sa) (k : Same H H') : Tape H' t ca sa := by
  obtain ⟨cs, hc, hl⟩ := T.cells
  obtain ⟨s, hs, hl2⟩ := T.state
  exact ⟨k _ _ T.top, ⟨cs, k _ _ hc, hl⟩, ⟨s, k _ _ hs, hl2⟩, T.ne⟩
theorem Tape.mut {H : Hp} {t ca sa p : Addr} {o : HO} (T : Tape H t ca sa) (h1 : t ≠ p) (h2 : ca ≠ p) (h3 : sa ≠ p) : Tape (upd H p o) t ca sa := by
  obtain ⟨cs, hc, hl⟩ := T.cells
  obtain ⟨s, hs, hl2⟩ := T.state
  exact ⟨by rw [upd_ne h1]; exact T.top, ⟨cs, by rw [upd_ne h2]; exact hc, hl⟩, ⟨s, by rw [upd_ne h3]; exact hs, hl2⟩, T.ne⟩
/-! ### data -/
inductive Dd where
  | int (i : Int) | bl (b : Bool) | str (z : Str) | tup (ds : List Dd)
mutual
def DAt (H : Hp) : Dd → V → Prop
  | .int i, v => v = .int i
  | .bl b, v => v = .bl b
  | .str z, v => v = .str z
  | .tup ds, v => ∃ a vs, v = .ref a ∧ H a = some (.tup vs) ∧ DAts H ds vs
def DAts (H : Hp) : List Dd → List V → Prop
  | [], vs => vs = []
  | d :: ds, vs => ∃ v r, vs = v :: r ∧ DAt H d v ∧ DAts H ds r
end
mutual
theorem DAt.keep {H H' : Hp} (k : TK H H') : ∀ {d : Dd} {v : V}, DAt H d v → DAt H' d v
  | .int _, _, h => h
  | .bl _, _, h => h
  | .str _, _, h => h
  | .tup ds, v, h => by
    obtain ⟨a, vs, e, q, r⟩ := h
    exact ⟨a, vs, e, k _ _ q, DAts.keep k r⟩
theorem DAts.keep {H H' : Hp} (k : TK H H') : ∀ {ds : List Dd} {vs : List V}, DAts H ds vs → DAts H' ds vs
  | [], _, h => h
  | d :: ds, vs, h => by
    obtain ⟨v, r, e, q, s⟩ := h
    exact ⟨v, r, e, DAt.keep k q, DAts.keep k s⟩
end
def symD (s : Sy) : Dd := .tup [.str (mk s.1), .int s.2]
def rowD (row : List Sy) : Dd := .tup (row.map symD)
def resD : Except Nat (List Sy) → Dd
  | .ok row => .tup [.str "told", rowD row]
  | .error k => .tup [.str "raised", .bl true, .int 0, .int k]
theorem symD_at {H : Hp} {v : V} {s : Sy} : DAt H (symD s) v ↔ SymAt H v s := by
  constructor
  · intro h
    obtain ⟨a, vs, e, q, x, r, e1, h1, y, r2, e2, h2, h3⟩ := h
    have h1' : x = .str (mk s.1) := h1
    have h2' : y = .int s.2 := h2
    have h3' : r2 = [] := h3
    subst e1 e2 h1' h2' h3'
    exact ⟨a, e, q⟩
  · intro h
    obtain ⟨b, e, q⟩ := h
    exact ⟨b, _, e, q, _, _, rfl, rfl, _, _, rfl, rfl, rfl⟩
theorem rowD_ats {H : Hp} : ∀ {row : List Sy} {vs : List V}, DAts H (row.map symD) vs ↔ Paired (SymAt H) vs row
  | [], vs => by
    constructor
    · intro h
      have e : vs = [] := h
      subst e
      exact .nil
    · intro h
      cases h
      rfl
  | s :: row, vs => by
    constructor
    · intro h
      obtain ⟨v, r, e, q, t⟩ := h
      subst e
      exact .cons (symD_at.mp q) (rowD_ats.mp t)
    · intro h
      cases h with
      | cons q t => exact ⟨_, _, rfl, symD_at.mpr q, rowD_ats.mpr t⟩
theorem rowD_at {H : Hp} {row : List Sy} {v : V} : DAt H (rowD row) v ↔ ∃ a, v = .ref a ∧ TreeAt H a row := by
  constructor
  · intro h
    obtain ⟨a, vs, e, q, r⟩ := h
    exact ⟨a, e, vs, q, rowD_ats.mp r⟩
  · intro h
    obtain ⟨a, e, vs, q, r⟩ := h
    exact ⟨a, vs, e, q, rowD_ats.mpr r⟩
theorem told_at {H : Hp} {row : List Sy} {v : V} (h : DAt H (resD (.ok row)) v) : ∃ a b, v = .ref a ∧ H a = some (.tup [.str "told", .ref b]) ∧ TreeAt H b row := by
  obtain ⟨a, vs, e, q, x, r, e1, h1, y, r2, e2, h2, h3⟩ := h
  have h1' : x = .str "told" := h1
  have h3' : r2 = [] := h3
  obtain ⟨b, e4, t⟩ := rowD_at.mp h2
  subst e1 e2 h1' h3' e4
  exact ⟨a, b, e, q, t⟩
theorem raised_at {H : Hp} {k : Nat} {v : V} (h : DAt H (resD (.error k)) v) : ∃ a, v = .ref a ∧ H a = some (.tup [.str "raised", .bl true, .int 0, .int k]) := by
  obtain ⟨a, vs, e, q, x, r, e1, h1, y, r2, e2, h2, z, r3, e3, h3, u, r4, e4, h4, h5⟩ := h
  have h1' : x = .str "raised" := h1
  have h2' : y = .bl true := h2
  have h3' : z = .int 0 := h3
  have h4' : u = .int k := h4
  have h5' : r4 = [] := h5
  subst e1 e2 e3 e4 h1' h2' h3' h4' h5'
  exact ⟨a, e, q⟩
end Kx

namespace Kx
open PySem PySem.Spec PyProof.Rows L2
section
variable {P : Program} {w : World} {K : PySem.W.Frag} {mg : Str → Option Value} {base : Heap} {f : Addr} {fd : FuncData}
theorem snoc {α : Type} : ∀ l : List α, l = [] ∨ ∃ a x, l = a ++ [x]
  | [] => .inl rfl
  | y :: r => by
    rcases snoc r with rfl | ⟨a, x, rfl⟩
    · exact .inr ⟨[], y, rfl⟩
    · exact .inr ⟨y :: a, x, rfl⟩
theorem if_yes {c : Bool} {A B : Prop} (h : c = true) (a : A) : if c = true then A else B := by
  rw [if_pos h]
  exact a
theorem if_no {c : Bool} {A B : Prop} (h : c = false) (b : B) : if c = true then A else B := by
  rw [h, if_neg Bool.false_ne_true]
  exact b
theorem fmod_nat (a b : Nat) : ((a : Int)).fmod (b : Int) = ((a % b : Nat) : Int) := by
  rw [Int.fmod_eq_emod_of_nonneg _ (by omega)]
  rfl
theorem fdiv_nat (a b : Nat) : ((a : Int)).fdiv (b : Int) = ((a / b : Nat) : Int) := by
  rw [Int.fdiv_eq_ediv_of_nonneg _ (by omega)]
  rfl
/-! ### a_begins, a_goes_on -/
theorem low_tl : ("abcdefghijklmnopqrstuvwxyz" : Str).cps.toList = lowL := by decide +kernel
theorem oth_tl : ("0123456789-" : Str).cps.toList = othL := by decide +kernel
theorem scBegins : FnScope ["sign"] ["sign"] (defScope (topS 9)) := ⟨rfl, rfl, rfl, by decide +kernel, rfl, by decide +kernel, by decide +kernel⟩
def spBegins : Sp := fun vs H Q _ => ∃ c : Nat, vs = [.str (mk [c])] ∧ Q (.bl (decide (c ∈ lowL))) H
theorem ok_begins (F : Fun K "a_begins" "a_begins" (topS 9) f fd) {tL : Tok} (mL : mg "_A_LETTERS" = some (.str "abcdefghijklmnopqrstuvwxyz" tL)) : FnOk P w K mg base CX0 1 f fd ["sign"] spBegins := by
  refine F.ok scBegins (fun vs H Q E h => ?_) (fun cdv A outer s H vs Q E hr h => ?_)
  · obtain ⟨c, rfl, _⟩ := h
    rfl
  · obtain ⟨c, rfl, q⟩ := h
    have sc := scBegins
    refine ⟨_, (let gL := pe_glob (v := .str "abcdefghijklmnopqrstuvwxyz") (by rfl) mL ⟨_, rfl⟩; (pss_one (ps_ret (pe_cmpR op_in_sign (pv 0) gL (by rfl))))), ?_⟩
    refine ⟨_, rfl, c, _, rfl, rfl, ?_⟩
    rw [low_tl]
    exact q
theorem scGoes : FnScope ["sign"] ["sign"] (defScope (topS 10)) := ⟨rfl, rfl, rfl, by decide +kernel, rfl, by decide +kernel, by decide +kernel⟩
def spGoes : Sp := fun vs H Q _ => ∃ c : Nat, vs = [.str (mk [c])] ∧ Q (.bl (goes c)) H
theorem ok_goes (F : Fun K "a_goes_on" "a_goes_on" (topS 10) f fd) {tL tO : Tok} (mL : mg "_A_LETTERS" = some (.str "abcdefghijklmnopqrstuvwxyz" tL)) (mO : mg "_A_OTHERS" = some (.str "0123456789-" tO)) : FnOk P w K mg base CX0 1 f fd ["sign"] spGoes := by
  refine F.ok scGoes (fun vs H Q E h => ?_) (fun cdv A outer s H vs Q E hr h => ?_)
  · obtain ⟨c, rfl, _⟩ := h
    rfl
  · obtain ⟨c, rfl, q⟩ := h
    refine ⟨_, (let gL := pe_glob (v := .str "abcdefghijklmnopqrstuvwxyz") (by rfl) mL ⟨_, rfl⟩; let gO := pe_glob (v := .str "0123456789-") (by rfl) mO ⟨_, rfl⟩; (pss_one (ps_ret (pe_or (pe_cmpR op_in_sign (pv 0) gL (by rfl)) (pe_one (pe_cmpR op_in_sign (pv 0) gO (by rfl))))))), ?_⟩
    refine ⟨_, rfl, c, _, rfl, rfl, _, rfl, ?_⟩
    rw [low_tl]
    unfold goes at q
    cases e : decide (c ∈ lowL) with
    | true =>
      rw [e] at q
      exact iteT q
    | false =>
      rw [e] at q
      refine iteF ⟨_, rfl, c, _, rfl, rfl, ?_⟩
      rw [oth_tl]
      exact q
/-! ### _law_pick -/
theorem scPick : FnScope ["_law_tape_here", "_law_many", "_law_cells", "_law_found"] ["_law_tape_here", "_law_many"] (defScope (topS 21)) := ⟨rfl, rfl, rfl, by decide +kernel, rfl, by decide +kernel, by decide +kernel⟩
def spPick : Sp := fun vs H Q _ => ∃ (t ca sa : Addr) (m : Nat), vs = [.ref t, .int m] ∧ 0 < m ∧ m < 1000000 ∧ Tape H t ca sa ∧ ∀ H' (r : Nat), r < m → Tape H' t ca sa → But H H' ca sa → Q (.int r) H'
theorem ok_pick (F : Fun K "_law_pick" "_law_pick" (topS 21) f fd) (B : Blt mg) : FnOk P w K mg base CX0 1 f fd ["_law_tape_here", "_law_many"] spPick := by
  refine F.ok scPick (fun vs H Q E h => ?_) (fun cdv A outer s H vs Q E hr h => ?_)
  · obtain ⟨t, ca, sa, m, rfl, _⟩ := h
    rfl
  · obtain ⟨t, ca, sa, m, rfl, hm, hm2, T, q⟩ := h
    have sc := scPick
    refine ⟨_, (pss_cons (ps_set (i := 2) sc.nd rfl (Or.inl rfl) (pe_ix ix_list (pv 0) pe_int (fun _ _ => rfl)))
    (pss_cons (ps_while PassesOwn.never (PW.pt (pw_and (pt_cmpR op_gt (pe_callB call_len_seq (by rfl) B.len PySem.boot_len (pa_cons (pv 2) pa_nil)) pe_int (nomark _)) (pw_and1 (pt_cmpR op_eq (pe_ix ix_list (pv 2) (pe_un un_neg pe_int) (fun _ _ => rfl)) pe_int (nomark _)))))
      (pss_one (ps_expr (pe_bm0 PySem.F.plainAttrs_list PySem.F.slot_list_pop PySem.F.type_list_pop mt_pop (pv 2)))))
    (pss_cons (ps_if (pt_cmpR op_gt (pe_callB call_len_seq (by rfl) B.len PySem.boot_len (pa_cons (pv 2) pa_nil)) pe_int (nomark _))
      (pss_cons (ps_set (i := 3) sc.nd rfl (Or.inl rfl) (pe_op op_modN (pe_callTy call_int1 (by rfl) B.int PyProof.Rows.boot_int (pa_cons (pe_ix ix_list (pv 2) (pe_un un_neg pe_int) (fun _ _ => rfl)) pa_nil)) (pv 1)))
    (pss_cons (ps_asg (pe_op op_fdivN (pe_callTy call_int1 (by rfl) B.int PyProof.Rows.boot_int (pa_cons (pe_ix ix_list (pv 2) (pe_un un_neg pe_int) (fun _ _ => rfl)) pa_nil)) (pv 1)) (pg_sub (pv 2) (pe_un un_neg pe_int) set_list))
    (pss_one (ps_ret (pv 3)))))
      pss_nil)
    (pss_cons (ps_asg (pe_op op_modN (pe_op op_add (pe_op op_mul (pe_ix ix_list (pe_ix ix_list (pv 0) pe_int (fun _ _ => rfl)) pe_int (fun _ _ => rfl)) pe_int) pe_int) pe_int) (pg_sub (pe_ix ix_list (pv 0) pe_int (fun _ _ => rfl)) pe_int set_list))
    (pss_one (ps_ret (pe_op op_modN (pe_op op_fdivN (pe_ix ix_list (pe_ix ix_list (pv 0) pe_int (fun _ _ => rfl)) pe_int (fun _ _ => rfl)) pe_int) (pv 1)))))))), ?_⟩
    -- cells = tape[0]
    refine ⟨.ref t, rfl, t, _, 0, .ref ca, rfl, rfl, SqL.of T.top, rfl, ?_⟩
    -- while
    obtain ⟨cs0, hc0, hl0⟩ := T.cells
    refine ⟨fun n σ H1 => ∃ cs : List Nat, n = cs.length ∧ σ = [some (.ref t), some (.int m), some (.ref ca), none] ∧ H1 ca = some (.lst (cs.map fun (c : Nat) => V.int (c : Int))) ∧ cs.length ≤ 63 ∧ ∀ b o, b ≠ ca → H b = some o → H1 b = some o,
      ⟨_, cs0, rfl, rfl, hc0, hl0, fun _ _ _ h => h⟩, ?_⟩
    rintro n σ H1 ⟨cs, rfl, rfl, hc, hl, hk⟩
    have kt : H1 t = some (.lst [.ref ca, .ref sa]) := hk _ _ T.ne1 T.top
    obtain ⟨s, hs, hs2⟩ := T.state
    have ks : H1 sa = some (.lst [.int s]) := hk _ _ (Ne.symm T.ne) hs
    have bk : But H H1 ca sa := fun b o h1 _ h => hk b o h1 h
    refine ⟨.ref ca, rfl, ca, _, rfl, .inl (SqL.of hc), _, _, rfl, rfl, _, rfl, ?_⟩
    rcases snoc cs with rfl | ⟨ds, c, rfl⟩
    · -- no cell: the state turns
      refine iteF (iteF ?_)
      refine ⟨.ref ca, rfl, ca, _, rfl, .inl (SqL.of hc), _, _, rfl, rfl, _, rfl, iteF ?_⟩
      refine ⟨.ref t, rfl, t, _, 1, .ref sa, rfl, rfl, SqL.of kt, rfl, sa, _, 0, .int s, rfl, rfl, SqL.of ks, rfl, _, _, rfl, rfl, .inl ⟨by omega, by omega⟩, _, _, rfl, rfl, _, _, rfl, rfl, by show (2147483647 : Int) ≠ 0; decide, ?_⟩
      refine ⟨.ref t, rfl, t, _, 1, .ref sa, rfl, rfl, SqL.of kt, rfl, sa, _, 0, 0, rfl, rfl, ks, rfl, ?_⟩
      have e1 : ((s : Int) * 48271 + 13).fmod 2147483647 = (((s * 48271 + 13) % 2147483647 : Nat) : Int) := fmod_nat (s * 48271 + 13) 2147483647
      have l1 : (s * 48271 + 13) % 2147483647 < 2147483647 := Nat.mod_lt _ (by decide)
      generalize (s * 48271 + 13) % 2147483647 = s2 at e1 l1
      refine ⟨.ref t, rfl, t, _, 1, .ref sa, rfl, rfl, SqL.of (by rw [upd_ne T.ne2]; exact kt), rfl, sa, _, 0, _, rfl, rfl, SqL.of upd_same, rfl, _, _, rfl, rfl, ⟨by decide, by decide⟩, _, rfl, _, _, rfl, rfl, by omega, ?_⟩
      have e2 : ((s2 : Int).fdiv 32).fmod (m : Int) = ((s2 / 32 % m : Nat) : Int) := by
        rw [show ((s2 : Int)).fdiv 32 = ((s2 / 32 : Nat) : Int) from fdiv_nat s2 32]
        exact fmod_nat (s2 / 32) m
      show Q (.int (((((s : Int) * 48271 + 13).fmod 2147483647).fdiv 32).fmod (m : Int))) (upd H1 sa (.lst [.int (((s : Int) * 48271 + 13).fmod 2147483647)]))
      rw [e1, e2]
      refine q _ _ (Nat.mod_lt _ hm) ⟨by rw [upd_ne T.ne2]; exact kt, ⟨[], by rw [upd_ne T.ne]; exact hc, hl⟩, ⟨s2, upd_same, l1⟩, T.ne⟩ fun b o h1 h2 h => ?_
      rw [upd_ne h2]
      exact hk b o h1 h
    · have ea : ((ds ++ [c]).map fun (c : Nat) => V.int (c : Int)) = (ds.map fun (c : Nat) => V.int (c : Int)) ++ [.int (c : Int)] := by rw [List.map_append]; rfl
      have el : (((ds ++ [c]).map fun (c : Nat) => V.int (c : Int)).length : Int) = (ds.length : Int) + 1 := by rw [ea]; simp
      have hc' := hc
      rw [ea] at hc'
      have hlast : atI ((ds ++ [c]).map fun (c : Nat) => V.int (c : Int)) (-1) = some (.int (c : Int)) := by rw [ea]; exact atI_last _ _
      rw [List.length_append, List.length_singleton] at hl
      have hyes : decide ((0 : Int) < (((ds ++ [c]).map fun (c : Nat) => V.int (c : Int)).length : Int)) = true := decide_eq_true (by omega)
      refine if_yes hyes ⟨.ref ca, rfl, 1, rfl, ca, _, -1, _, rfl, rfl, SqL.of hc, hlast, rfl, _, rfl, ?_⟩
      by_cases h0 : c = 0
      · -- a cell of nothing goes
        subst h0
        refine if_yes rfl ⟨_, fun _ _ h => h, ?_⟩
        refine ⟨.ref ca, rfl, .inl ⟨rfl, _, SqL.of hc⟩, ca, _, .int 0, rfl, rfl, hc', ?_, ?_⟩
        · rw [List.length_append, List.length_singleton, Nat.add_sub_cancel, List.getElem?_append_right (Nat.le_refl _), Nat.sub_self]
          rfl
        · refine ⟨_, ?_, ds, rfl, rfl, ?_, by omega, fun b o h1 h => ?_⟩
          · rw [List.length_append, List.length_singleton]
            omega
          · rw [upd_same, List.dropLast_concat]
          · rw [upd_ne h1]
            exact hk b o h1 h
      · -- a cell is drawn from
        have hno : decide ((V.int (c : Int)) = .int 0) = false := decide_eq_false fun z => h0 (by have := V.int.inj z; omega)
        refine if_no hno ?_
        refine ⟨.ref ca, rfl, ca, _, rfl, .inl (SqL.of hc), _, _, rfl, rfl, _, rfl, if_yes hyes ?_⟩
        refine ⟨.ref ca, rfl, 1, rfl, ca, _, -1, _, rfl, rfl, SqL.of hc, hlast, .inl ⟨_, rfl, _, rfl, _, _, rfl, rfl, by omega, ?_⟩⟩
        refine ⟨.ref ca, rfl, 1, rfl, ca, _, -1, _, rfl, rfl, SqL.of hc, hlast, .inl ⟨_, rfl, _, rfl, _, _, rfl, rfl, ⟨by omega, by rw [Int.natAbs_natCast]; omega⟩, ?_⟩⟩
        have hix : ixN ((ds ++ [c]).map fun (c : Nat) => V.int (c : Int)).length (-1) = some ds.length := by
          rw [List.length_map, List.length_append, List.length_singleton]
          unfold ixN
          rw [if_neg (by decide), if_pos (by omega)]
          congr 1
          omega
        refine ⟨.ref ca, rfl, 1, rfl, ca, _, -1, _, rfl, rfl, hc, hix, _, rfl, ?_⟩
        have e1 : ((c : Int)).fmod (m : Int) = ((c % m : Nat) : Int) := fmod_nat c m
        have e2 : ((c : Int)).fdiv (m : Int) = ((c / m : Nat) : Int) := fdiv_nat c m
        show Q (.int ((c : Int).fmod (m : Int))) _
        rw [e1]
        refine q _ _ (Nat.mod_lt _ hm) ⟨by rw [upd_ne T.ne1]; exact kt, ⟨ds ++ [c / m], ?_, by rw [List.length_append, List.length_singleton]; exact hl⟩, ⟨s, by rw [upd_ne (Ne.symm T.ne)]; exact ks, hs2⟩, T.ne⟩ fun b o h1 h2 h => ?_
        · rw [upd_same]
          show some (HO.lst ((((ds ++ [c]).map fun (c : Nat) => V.int (c : Int))).set ds.length (.int ((c : Int).fdiv (m : Int))))) = _
          rw [e2, ea, List.set_append_right _ _ (by rw [List.length_map]; exact Nat.le_refl _), List.length_map, Nat.sub_self, List.map_append]
          rfl
        · rw [upd_ne h1]
          exact hk b o h1 h
end
end Kx

namespace Kx
open PySem PySem.Spec PyProof.Rows L2
section
variable {P : Program} {w : World} {K : PySem.W.Frag} {mg : Str → Option Value} {base : Heap} {f : Addr} {fd : FuncData}
/-! ### _law_tape -/
theorem scTape : FnScope ["_law_script", "_law_state", "_law_cell", "_law_cells"] ["_law_script"] (defScope (topS 20)) := ⟨rfl, rfl, rfl, by decide +kernel, rfl, by decide +kernel, by decide +kernel⟩
def spTape (K : PySem.W.Frag) : Sp := fun vs H Q _ => ∃ (a : Addr) (ns : List Int), vs = [.ref a] ∧ SqL K H a (ns.map V.int) ∧ ns.length ≤ 63 ∧ ∀ H' t ca sa, Same H H' → H t = none → H ca = none → H sa = none → Tape H' t ca sa → Q (.ref t) H'
theorem abs_nat (i : Int) : (if i < 0 then -i else i) = ((i.natAbs : Nat) : Int) := by
  by_cases h : i < 0
  · rw [if_pos h]
    omega
  · rw [if_neg h]
    omega
theorem ok_tape (F : Fun K "_law_tape" "_law_tape" (topS 20) f fd) (B : Blt mg) : FnOk P w K mg base CX0 1 f fd ["_law_script"] (spTape K) := by
  refine F.ok scTape (fun vs H Q E h => ?_) (fun cdv A outer s H vs Q E hr h => ?_)
  · obtain ⟨a, ns, rfl, _⟩ := h
    rfl
  · obtain ⟨a, ns, rfl, hS, hl, q⟩ := h
    have sc := scTape
    refine ⟨_, (pss_cons (ps_set (i := 1) sc.nd rfl (Or.inl rfl) pe_int)
    (pss_cons (ps_for PassesOwn.never rfl (pi_list (pv 0)) (pg_name (i := 2) sc.nd rfl (Or.inl rfl))
      (pss_one (ps_set (i := 1) sc.nd rfl (Or.inl rfl) (pe_op op_mod (pe_op op_add (pe_op op_add (pe_op op_mul (pv 1) pe_int) (pv 2)) pe_int) pe_int))))
    (pss_cons (ps_setLc (i := 3) (own := [("_law_cell", 2)]) (g := gName 2) (tt := tYes) rfl sc.nd rfl rfl (sw_true rfl rfl rfl (by decide +kernel)) (pi_list (pv 0)) (blkOk_by (N := ["_law_script", "_law_state", "_law_cell", "_law_cells"]) (sc := defScope (topS 20)) (by decide +kernel)) (fun _ _ _ _ _ => pg_name (i := 2) sc.nd rfl (Or.inl rfl)) (fun _ _ _ _ _ => pts_nil) (fun _ _ _ _ _ => (pe_callB call_abs (by rfl) B.abs PyProof.Rows.boot_abs (pa_cons (pv 2) pa_nil))))
    (pss_one (ps_ret (pe_lst (pa_cons (pe_revL (pv 3)) (pa_cons (pe_lst (pa_cons (pv 1) pa_nil)) pa_nil)))))))), ?_⟩
    refine ⟨.ref a, rfl, a, rfl, ⟨_, hS⟩, for_list (xs := ns.map V.int) (fun i σ H' => ∃ (s : Nat) (y : Option V), σ = [some (.ref a), some (.int (s : Int)), y, none] ∧ s < 2147483647 ∧ H' = H) ⟨33757, none, rfl, by decide, rfl⟩ ?_ ?_ ?_⟩
    · rintro i σ H' _ ⟨s, y, rfl, _, rfl⟩
      exact hS
    · rintro i x σ H' hx ⟨s, y, rfl, hs, rfl⟩
      rw [List.getElem?_map] at hx
      obtain ⟨n, _, hn⟩ := Option.map_eq_some_iff.mp hx
      subst hn
      refine ⟨_, rfl, _, _, rfl, rfl, .inl ⟨by omega, by omega⟩, _, rfl, _, _, rfl, rfl, _, _, rfl, rfl, _, _, rfl, rfl, by show (0 : Int) < 2147483647; decide, ?_⟩
      refine ⟨(((s : Int) * 61871 + n + 37) % 2147483647).toNat, some (.int n), ?_, ?_, rfl⟩
      · show [some (V.ref a), some (V.int (((s : Int) * 61871 + n + 37) % 2147483647)), some (V.int n), none] = _
        rw [Int.toNat_of_nonneg (Int.emod_nonneg _ (by decide))]
      · have h1 := Int.emod_nonneg ((s : Int) * 61871 + n + 37) (show (2147483647 : Int) ≠ 0 by decide)
        have h2 := Int.emod_lt_of_pos ((s : Int) * 61871 + n + 37) (show (0 : Int) < 2147483647 by decide)
        omega
    · rintro σ H' ⟨s, y, rfl, hs, rfl⟩
      refine ⟨.ref a, rfl, a, rfl, ⟨_, hS⟩, fun D hD => lc_list (K := K) (xs := ns.map V.int) (fun i H1 => H1 = upd H' D (.lst ((ns.take i).map fun n => V.int ((n.natAbs : Nat) : Int)))) rfl ?_ ?_ ?_⟩
      · rintro i H1 _ rfl
        exact (same_new hD).seq hS
      · rintro i x H1 hx rfl
        rw [List.getElem?_map] at hx
        obtain ⟨n, hn0, hn⟩ := Option.map_eq_some_iff.mp hx
        subst hn
        refine ⟨rfl, ?_⟩
        refine ⟨_, rfl, n, rfl, _, upd_same, ?_, ?_⟩
        · rw [List.length_map, List.length_take]
          exact small1 (by omega)
        · rw [upd_upd, abs_nat, List.take_add_one, hn0, List.map_append]
          rfl
      · rintro H1 rfl
        rw [List.length_map, List.take_length]
        refine ⟨.ref D, rfl, D, _, rfl, SqL.of upd_same, fun p hp => ?_⟩
        refine ⟨_, rfl, by show 1 ≤ sizeLine; decide, fun p2 hp2 => ?_⟩
        refine ⟨by show 2 ≤ sizeLine; decide, fun p3 hp3 => ?_⟩
        have s1 := same_new (o := .lst (ns.map fun n => V.int ((n.natAbs : Nat) : Int))) hD
        have s2 := s1.trans (same_new (o := .lst (ns.map fun n => V.int ((n.natAbs : Nat) : Int)).reverse) hp)
        have s3 := s2.trans (same_new (o := .lst [.int (s : Int)]) hp2)
        have s4 := s3.trans (same_new (o := .lst [.ref p, .ref p2]) hp3)
        have n32 : p2 ≠ p3 := fun z => by rw [← z, upd_same] at hp3; cases hp3
        have n31 : p ≠ p3 := fun z => by rw [← z, upd_ne (fun y => by rw [y, upd_same] at hp2; cases hp2), upd_same] at hp3; cases hp3
        have n21 : p ≠ p2 := fun z => by rw [← z, upd_same] at hp2; cases hp2
        refine q _ p3 p p2 s4 (s3.free hp3) (s1.free hp) (s2.free hp2) ⟨upd_same, ⟨(ns.map Int.natAbs).reverse, ?_, ?_⟩, ⟨s, ?_, hs⟩, n21⟩
        · rw [upd_ne n31, upd_ne n21, upd_same]
          simp [List.map_reverse, Function.comp_def]
        · rw [List.length_reverse, List.length_map]
          exact hl
        · rw [upd_ne n32, upd_same]
/-! ### _law_far -/
theorem scFar : FnScope ["_law_row", "_law_at", "_law_need"] ["_law_row", "_law_at"] (defScope (topS 25)) := ⟨rfl, rfl, rfl, by decide +kernel, rfl, by decide +kernel, by decide +kernel⟩
def spFar : Sp := fun vs H Q _ => ∃ (a : Addr) (row : List Sy) (k : Nat) (x y : List Sy), vs = [.ref a, .int k] ∧ TreeAt H a row ∧ row.drop k = x ++ y ∧ forest 1 x ∧ Q (.int ((k + x.length : Nat) : Int)) H
theorem ok_far (F : Fun K "_law_far" "_law_far" (topS 25) f fd) : FnOk P w K mg base CX0 1 f fd ["_law_row", "_law_at"] spFar := by
  refine F.ok scFar (fun vs H Q E h => ?_) (fun cdv A outer s H vs Q E hr h => ?_)
  · obtain ⟨a, row, k, x, y, rfl, _⟩ := h
    rfl
  · obtain ⟨a, row, k, x, y, rfl, ⟨vs, hv, hp⟩, hd, hx, q⟩ := h
    have sc := scFar
    refine ⟨_, (pss_cons (ps_set (i := 2) sc.nd rfl (Or.inl rfl) pe_int)
    (pss_cons (ps_while PassesOwn.never (pt_cmpR op_gt (pv 2) pe_int (nomark _))
      (pss_cons (ps_set (i := 2) sc.nd rfl (Or.inl rfl) (pe_op op_sub (pe_op op_add (pv 2) (pe_ix ix_tup (pe_ix ix_tup (pv 0) (pv 1) (fun _ _ => rfl)) pe_int (fun _ _ => rfl))) pe_int))
    (pss_one (ps_set (i := 1) sc.nd rfl (Or.inl rfl) (pe_op op_add (pv 1) pe_int)))))
    (pss_one (ps_ret (pv 1))))), ?_⟩
    refine ⟨fun m σ H' => ∃ (n j : Nat) (u v : List Sy), m = v.length ∧ x = u ++ v ∧ forest n v ∧ j = k + u.length ∧ σ = [some (.ref a), some (.int (j : Int)), some (.int (n : Int))] ∧ H' = H, ⟨_, 1, k, [], x, rfl, rfl, hx, rfl, rfl, rfl⟩, ?_⟩
    rintro m σ H' ⟨n, j, u, v, rfl, ex, hf, rfl, rfl, rfl⟩
    refine ⟨_, rfl, _, _, rfl, rfl, _, rfl, ?_⟩
    cases n with
    | zero =>
      refine if_no rfl ?_
      have ev := forest_zero hf
      subst ev
      refine ⟨_, rfl, ?_⟩
      rw [List.append_nil] at ex
      subst ex
      exact q
    | succ n =>
      refine if_yes (decide_eq_true (by omega)) ⟨_, fun _ _ h => h, ?_⟩
      cases v with
      | nil => exact absurd rfl (forest_ne hf)
      | cons sy v =>
        have hf' : forest (n + sy.2) v := hf
        have hrow : row[k + u.length]? = some sy := by
          rw [← List.getElem?_drop, hd, ex, List.append_assoc, List.getElem?_append_right (Nat.le_refl _), Nat.sub_self]
          rfl
        obtain ⟨vb, hb, b, eb, hB⟩ := pair_get hp hrow
        subst eb
        refine ⟨_, rfl, _, rfl, _, rfl, a, vs, _, _, rfl, rfl, SqT.of hv, atI_nat hb, b, _, 1, _, rfl, rfl, SqT.of hB, rfl, _, _, rfl, rfl, _, _, rfl, rfl, ?_⟩
        refine ⟨_, rfl, _, _, rfl, rfl, ?_⟩
        refine ⟨_, ?_, n + sy.2, k + (u ++ [sy]).length, u ++ [sy], v, rfl, ?_, hf', rfl, ?_, rfl⟩
        · exact Nat.lt_succ_self _
        · rw [ex, List.append_assoc]
          rfl
        · show [some (V.ref a), some (V.int (((k + u.length : Nat) : Int) + 1)), some (V.int ((((n + 1 : Nat) : Int) + (sy.2 : Int)) - 1))] = _
          have e1 : ((k + u.length : Nat) : Int) + 1 = ((k + (u ++ [sy]).length : Nat) : Int) := by
            rw [List.length_append, List.length_singleton]
            omega
          have e2 : (((n + 1 : Nat) : Int) + (sy.2 : Int)) - 1 = ((n + sy.2 : Nat) : Int) := by omega
          rw [e1, e2]
end
end Kx

namespace Kx
open PySem PySem.Spec PyProof.Rows L2
section
variable {P : Program} {w : World} {K : PySem.W.Frag} {mg : Str → Option Value} {base : Heap} {f : Addr} {fd : FuncData}
/-! ### _law_marks -/
def PlainW (w : List Nat) : Prop := ∃ c v, w = c :: v ∧ c ∈ lowL ∧ (∀ d ∈ v, goes d = true) ∧ v.length ≤ 15
def plainB : List Nat → Bool
  | [] => false
  | c :: v => decide (c ∈ lowL) && v.all goes && decide (v.length ≤ 15)
theorem plain_of {w : List Nat} (h : plainB w = true) : PlainW w := by
  cases w with
  | nil => cases h
  | cons c v =>
    have h' : (decide (c ∈ lowL) && v.all goes && decide (v.length ≤ 15)) = true := h
    rw [Bool.and_eq_true, Bool.and_eq_true] at h'
    exact ⟨c, v, rfl, of_decide_eq_true h'.1.1, List.all_eq_true.mp h'.1.2, of_decide_eq_true h'.2⟩
theorem plain_word {h : Bool} {w : List Nat} {m : Nat} (p : PlainW w) (hm : m ≤ 4) : WordOk h (w, m) := .inr (.inr ⟨p, hm⟩)
def nmL : List (List Nat) := [[98], [97, 98], [97, 45, 57], [122, 122, 48], [113], [97, 98, 99, 100, 101, 102, 103, 104, 105, 106, 107, 108, 109, 110, 111, 112], [99], [98, 45]]
def nmV : List V := [.str "b", .str "ab", .str "a-9", .str "zz0", .str "q", .str "abcdefghijklmnop", .str "c", .str "b-"]
theorem nm_eq : nmV = nmL.map fun w => V.str (mk w) := by decide +kernel
theorem nm_plain : ∀ w ∈ nmL, plainB w = true := by decide +kernel
theorem nm_get {j : Nat} (h : j < 8) : ∃ w, nmV[j]? = some (.str (mk w)) ∧ PlainW w := by
  have hl : j < nmL.length := h
  refine ⟨nmL[j], ?_, plain_of (nm_plain _ (List.getElem_mem hl))⟩
  rw [nm_eq, List.getElem?_map, List.getElem?_eq_getElem hl]
  rfl
structure MkSt (H : Hp) (t ca sa pn pl : Addr) (ms : List Sy) (H' : Hp) : Prop where
  tape : Tape H' t ca sa
  but : But H H' ca sa
  nms : H' pn = some (.lst nmV)
  lst : ∃ vs, H' pl = some (.lst vs) ∧ Paired (SymAt H') vs ms
  fn : H pn = none
  fl : H pl = none
  ne : pn ≠ pl
theorem Tape.off {H : Hp} {t ca sa p : Addr} (T : Tape H t ca sa) (h : H p = none) : t ≠ p ∧ ca ≠ p ∧ sa ≠ p := by
  obtain ⟨cs, hc, _⟩ := T.cells
  obtain ⟨s, hs, _⟩ := T.state
  exact ⟨ne_of_none T.top h, ne_of_none hc h, ne_of_none hs h⟩
theorem MkSt.pick {H H1 H2 : Hp} {t ca sa pn pl : Addr} {ms : List Sy} (T0 : Tape H t ca sa) (m : MkSt H t ca sa pn pl ms H1) (T : Tape H2 t ca sa) (k : But H1 H2 ca sa) : MkSt H t ca sa pn pl ms H2 := by
  obtain ⟨vs, e, q⟩ := m.lst
  have o1 := T0.off m.fn
  have o2 := T0.off m.fl
  exact ⟨T, m.but.trans k, k _ _ (Ne.symm o1.2.1) (Ne.symm o1.2.2) m.nms, ⟨vs, k _ _ (Ne.symm o2.2.1) (Ne.symm o2.2.2) e, symsAt_keep (k.tk m.tape) q⟩, m.fn, m.fl, m.ne⟩
theorem MkSt.new {H H1 : Hp} {t ca sa pn pl p : Addr} {o : HO} {ms : List Sy} (m : MkSt H t ca sa pn pl ms H1) (hp : H1 p = none) : MkSt H t ca sa pn pl ms (upd H1 p o) := by
  obtain ⟨vs, e, q⟩ := m.lst
  have s := same_new (o := o) hp
  exact ⟨m.tape.same s, m.but.trans (.of s), s _ _ m.nms, ⟨vs, s _ _ e, symsAt_keep (TK.of s) q⟩, m.fn, m.fl, m.ne⟩
theorem MkSt.put {H H1 : Hp} {t ca sa pn pl : Addr} {ms ms' : List Sy} {vs' : List V} (T0 : Tape H t ca sa) (m : MkSt H t ca sa pn pl ms H1) (h : Paired (SymAt H1) vs' ms') : MkSt H t ca sa pn pl ms' (upd H1 pl (.lst vs')) := by
  obtain ⟨vs, e, q⟩ := m.lst
  have o2 := T0.off m.fl
  exact ⟨m.tape.mut o2.1 o2.2.1 o2.2.2, m.but.mut m.fl, by rw [upd_ne m.ne]; exact m.nms, ⟨vs', upd_same, symsAt_keep (TK.set e) h⟩, m.fn, m.fl, m.ne⟩
/-- what the marks are -/
structure Marks (ms : List Sy) : Prop where
  lo : 2 ≤ ms.length
  ok : AllOk false ms
  first : ∃ s, ms[0]? = some s ∧ s.2 = 0
  second : ∃ s, ms[1]? = some s ∧ s.2 = 0
theorem Marks.snoc {ms : List Sy} {s : Sy} (m : Marks ms) (h : WordOk false s) : Marks (ms ++ [s]) := by
  obtain ⟨s0, e0, h0⟩ := m.first
  obtain ⟨s1, e1, h1⟩ := m.second
  have lo := m.lo
  refine ⟨by rw [List.length_append]; omega, fun x hx => ?_, ⟨s0, by rw [List.getElem?_append_left (by omega)]; exact e0, h0⟩, ⟨s1, by rw [List.getElem?_append_left (by omega)]; exact e1, h1⟩⟩
  rcases List.mem_append.mp hx with hx | hx
  · exact m.ok x hx
  · rcases List.mem_cons.mp hx with rfl | hx
    · exact h
    · cases hx
theorem scMarks : FnScope ["_law_tape_here", "_law_names", "_law_at", "_law_marks_here", "_law_k"] ["_law_tape_here"] (defScope (topS 23)) := ⟨rfl, rfl, rfl, by decide +kernel, rfl, by decide +kernel, by decide +kernel⟩
def spMarks : Sp := fun vs H Q _ => ∃ (t ca sa : Addr), vs = [.ref t] ∧ Tape H t ca sa ∧
  ∀ H' p vs ms, H p = none → H' p = some (.lst vs) → Paired (SymAt H') vs ms → Marks ms → ms.length ≤ 10 → Tape H' t ca sa → But H H' ca sa → Q (.ref p) H'
theorem seven (j : Nat) (h : j < 7) : ∃ n : Nat, ([.int 1, .int 2, .int 1, .int 2, .int 3, .int 4, .int 0] : List V)[j]? = some (.int (n : Int)) ∧ n ≤ 4 := by
  match j, h with
  | 0, _ => exact ⟨1, rfl, by decide⟩
  | 1, _ => exact ⟨2, rfl, by decide⟩
  | 2, _ => exact ⟨1, rfl, by decide⟩
  | 3, _ => exact ⟨2, rfl, by decide⟩
  | 4, _ => exact ⟨3, rfl, by decide⟩
  | 5, _ => exact ⟨4, rfl, by decide⟩
  | 6, _ => exact ⟨0, rfl, by decide⟩
theorem ok_marks (F : Fun K "_law_marks" "_law_marks" (topS 23) f fd) (B : Blt mg) (c__law_pick : Cal P w K mg base CX0 1 "_law_pick" ["_law_tape_here", "_law_many"] spPick) : FnOk P w K mg base CX0 2 f fd ["_law_tape_here"] spMarks := by
  refine F.ok scMarks (fun vs H Q E h => ?_) (fun cdv A outer s H vs Q E hr h => ?_)
  · obtain ⟨t, ca, sa, rfl, _⟩ := h
    rfl
  · obtain ⟨t, ca, sa, rfl, T0, q⟩ := h
    have sc := scMarks
    refine ⟨_, (pss_cons (ps_set (i := 1) sc.nd rfl (Or.inl rfl) (pe_lst (pa_cons pe_str (pa_cons pe_str (pa_cons pe_str (pa_cons pe_str (pa_cons pe_str (pa_cons pe_str (pa_cons pe_str (pa_cons pe_str pa_nil))))))))))
    (pss_cons (ps_set (i := 2) sc.nd rfl (Or.inl rfl) (co c__law_pick hr (pa_cons (pv 0) (pa_cons pe_int pa_nil))))
    (pss_cons (ps_set (i := 3) sc.nd rfl (Or.inl rfl) (pe_lst (pa_cons (pe_tup (pa_cons (pe_ix ix_list (pv 1) (pv 2) (fun _ _ => rfl)) (pa_cons pe_int pa_nil))) (pa_cons (pe_tup (pa_cons (pe_ix ix_list (pv 1) (pe_op op_mod (pe_op op_add (pv 2) pe_int) pe_int) (fun _ _ => rfl)) (pa_cons pe_int pa_nil))) pa_nil))))
    (Evl.pss_cut (ps_if (pt_cmpR op_eq (co c__law_pick hr (pa_cons (pv 0) (pa_cons pe_int pa_nil))) pe_int (nomark _))
      (pss_one (ps_asg (pe_tup (pa_cons pe_str (pa_cons pe_int pa_nil))) (pg_sub (pv 3) pe_int set_list)))
      pss_nil)
    (pss_cons (ps_for PassesOwn.never rfl (pi_range1 (by rfl) B.range (pa_cons (pe_op op_add pe_int (co c__law_pick hr (pa_cons (pv 0) (pa_cons pe_int pa_nil)))) pa_nil)) (pg_name (i := 4) sc.nd rfl (Or.inl rfl))
      (pss_one (ps_expr (pe_bm PySem.F.plainAttrs_list PySem.F.slot_list_append PySem.F.type_list_append mt_append (pv 3) (pa_cons (pe_tup (pa_cons (pe_ix ix_list (pv 1) (pe_op op_mod (pe_op op_add (pv 2) (co c__law_pick hr (pa_cons (pv 0) (pa_cons pe_int pa_nil)))) pe_int) (fun _ _ => rfl)) (pa_cons (pe_ix ix_list (pe_lst (pa_cons pe_int (pa_cons pe_int (pa_cons pe_int (pa_cons pe_int (pa_cons pe_int (pa_cons pe_int (pa_cons pe_int pa_nil)))))))) (co c__law_pick hr (pa_cons (pv 0) (pa_cons pe_int pa_nil))) (fun _ _ => rfl)) pa_nil))) pa_nil)))))
    (pss_one (ps_ret (pv 3)))))))), ?_⟩
    refine ⟨by show 8 ≤ sizeLine; decide, fun pn hpn => ?_⟩
    have s1 : Same H (upd H pn (.lst nmV)) := same_new hpn
    refine ⟨.ref t, rfl, t, ca, sa, 8, rfl, by decide, by decide, T0.same s1, fun H1 r hr8 T1 k1 => ?_⟩
    have o1 := T0.off hpn
    have n1 : H1 pn = some (.lst nmV) := k1 _ _ (Ne.symm o1.2.1) (Ne.symm o1.2.2) upd_same
    have b1 : But H H1 ca sa := (But.of s1).trans k1
    obtain ⟨w0, hw0, p0⟩ := nm_get hr8
    have hr8' : (r + 1) % 8 < 8 := Nat.mod_lt _ (by decide)
    obtain ⟨w1, hw1, p1⟩ := nm_get hr8'
    -- the first two marks
    refine ⟨.ref pn, rfl, _, rfl, pn, _, _, _, rfl, rfl, SqL.of n1, atI_nat hw0, by show 2 ≤ sizeLine; decide, fun q0 hq0 => ?_⟩
    refine ⟨.ref pn, rfl, _, rfl, _, _, rfl, rfl, _, _, rfl, rfl, by show (0 : Int) < 8; decide, pn, _, _, _, rfl, rfl, SqL.of (same_new hq0 _ _ n1), at_of (j := (r + 1) % 8) (by omega) hw1, by show 2 ≤ sizeLine; decide, fun q1 hq1 => ?_⟩
    refine ⟨by show 2 ≤ sizeLine; decide, fun pl hpl => ?_⟩
    have e01 : q0 ≠ q1 := fun z => by rw [← z, upd_same] at hq1; cases hq1
    have M1 : MkSt H t ca sa pn pl [(w0, 0), (w1, 0)] (upd (upd (upd H1 q0 (.tup [.str (mk w0), .int 0])) q1 (.tup [.str (mk w1), .int 0])) pl (.lst [.ref q0, .ref q1])) := by
      have s2 := (same_new (o := .tup [.str (mk w0), .int 0]) hq0).trans (same_new (o := .tup [.str (mk w1), .int 0]) hq1)
      have s3 := s2.trans (same_new (o := .lst [.ref q0, .ref q1]) hpl)
      have nl : pn ≠ pl := ne_of_none (s2 _ _ n1) hpl
      refine ⟨T1.same s3, b1.trans (.of s3), s3 _ _ n1, ⟨_, upd_same, .cons ⟨q0, rfl, ?_⟩ (.cons ⟨q1, rfl, ?_⟩ .nil)⟩, hpn, ?_, nl⟩
      · exact same_new hpl _ _ (same_new hq1 _ _ upd_same)
      · exact same_new hpl _ _ upd_same
      · cases e : H pl with
        | none => rfl
        | some o =>
          have hca : pl ≠ ca := by
            obtain ⟨cs, hc, _⟩ := T1.cells
            exact fun z => by rw [z, s2 _ _ hc] at hpl; cases hpl
          have hsa : pl ≠ sa := by
            obtain ⟨ss, hs, _⟩ := T1.state
            exact fun z => by rw [z, s2 _ _ hs] at hpl; cases hpl
          have := s2 _ _ (b1 _ _ hca hsa e)
          rw [this] at hpl
          cases hpl
    generalize upd (upd (upd H1 q0 (.tup [.str (mk w0), .int 0])) q1 (.tup [.str (mk w1), .int 0])) pl (.lst [.ref q0, .ref q1]) = H2 at M1
    have a1 : AllOk false [(w0, 0), (w1, 0)] := fun x hx => by
      rcases List.mem_cons.mp hx with rfl | hx
      · exact plain_word p0 (by decide)
      · rcases List.mem_cons.mp hx with rfl | hx
        · exact plain_word p1 (by decide)
        · cases hx
    have g1 : Marks [(w0, 0), (w1, 0)] := ⟨Nat.le_refl _, a1, ⟨_, rfl, rfl⟩, ⟨_, rfl, rfl⟩⟩
    refine ⟨fun σ' H' => σ' = [some (.ref t), some (.ref pn), some (.int (r : Int)), some (.ref pl), none] ∧ ∃ ms, MkSt H t ca sa pn pl ms H' ∧ Marks ms ∧ ms.length = 2, ?_, ?_⟩
    · -- if pick == 1
      refine ⟨.ref t, rfl, t, ca, sa, 4, rfl, by decide, by decide, M1.tape, fun H3 r3 hr3 T3 k3 => ?_⟩
      have M3 := M1.pick T0 T3 k3
      refine ⟨rfl, _, rfl, ite2 (fun _ => ?_) (fun _ => ⟨rfl, _, M3, g1, rfl⟩)⟩
      refine ⟨by show 2 ≤ sizeLine; decide, fun q2 hq2 => ?_⟩
      have M4 := M3.new (o := .tup [.str ".", .int 0]) hq2
      obtain ⟨vs, e, z⟩ := M4.lst
      cases z with
      | cons r0 z =>
        cases z with
        | cons r1 z =>
          cases z
          refine ⟨.ref pl, rfl, pl, _, 1, 1, rfl, rfl, e, rfl, ?_⟩
          refine ⟨rfl, [(w0, 0), ([46], 0)], M4.put T0 (.cons r0 (.cons ⟨q2, rfl, upd_same⟩ .nil)), ⟨Nat.le_refl _, fun x hx => ?_, ⟨_, rfl, rfl⟩, ⟨_, rfl, rfl⟩⟩, rfl⟩
          rcases List.mem_cons.mp hx with rfl | hx
          · exact plain_word p0 (by decide)
          · rcases List.mem_cons.mp hx with rfl | hx
            · exact .inl ⟨rfl, rfl⟩
            · cases hx
    · rintro σ' H' ⟨rfl, ms0, M5, g5, l5⟩
      refine ⟨.ref t, rfl, t, ca, sa, 5, rfl, by decide, by decide, M5.tape, fun H4 r4 hr4 T4 k4 => ⟨_, _, rfl, rfl, ?_⟩⟩
      have M6 := M5.pick T0 T4 k4
      refine ⟨_, rfl, by omega, by omega, for_range (lo := 0) (n := ((1 : Int) + (r4 : Int)).toNat) (fun i σ H' => ∃ y ms, σ = [some (.ref t), some (.ref pn), some (.int (r : Int)), some (.ref pl), y] ∧ MkSt H t ca sa pn pl ms H' ∧ Marks ms ∧ ms.length = 2 + i) ⟨none, ms0, rfl, M6, g5, l5⟩ ?_ ?_⟩
      · rintro i σ H' hi ⟨y, ms, rfl, M, g, l⟩
        obtain ⟨vs, e, z⟩ := M.lst
        refine ⟨.ref pl, rfl, .inl ⟨rfl, _, SqL.of e⟩, .ref pn, rfl, .int (r : Int), rfl, .ref t, rfl, t, ca, sa, 8, rfl, by decide, by decide, M.tape, fun H5 r5 hr5 T5 k5 => ?_⟩
        have M7 := M.pick T0 T5 k5
        obtain ⟨w7, hw7, p7⟩ := nm_get (show (r + r5) % 8 < 8 from Nat.mod_lt _ (by decide))
        refine ⟨_, _, rfl, rfl, _, _, rfl, rfl, by show (0 : Int) < 8; decide, pn, _, _, _, rfl, rfl, SqL.of M7.nms, at_of (j := (r + r5) % 8) (by omega) hw7, by show 7 ≤ sizeLine; decide, fun pd hpd => ?_⟩
        have M8 := M7.new (o := .lst [.int 1, .int 2, .int 1, .int 2, .int 3, .int 4, .int 0]) hpd
        refine ⟨.ref t, rfl, t, ca, sa, 7, rfl, by decide, by decide, M8.tape, fun H6 r6 hr6 T6 k6 => ?_⟩
        have M9 := M8.pick T0 T6 k6
        have o7 := M7.tape.off hpd
        have hd6 : H6 pd = some (.lst [.int 1, .int 2, .int 1, .int 2, .int 3, .int 4, .int 0]) := k6 _ _ (Ne.symm o7.2.1) (Ne.symm o7.2.2) upd_same
        obtain ⟨n, hn, hn4⟩ := seven r6 hr6
        refine ⟨pd, _, _, _, rfl, rfl, SqL.of hd6, atI_nat hn, by show 2 ≤ sizeLine; decide, fun p8 hp8 => ?_⟩
        have M10 := M9.new (o := .tup [.str (mk w7), .int (n : Int)]) hp8
        obtain ⟨vs2, e2, z2⟩ := M10.lst
        have lv := pair_len z2
        refine ⟨pl, _, _, rfl, rfl, e2, small1 (by omega), some (.int (0 + (i : Int))), ms ++ [(w7, n)], rfl, M10.put T0 (pair_snoc z2 ⟨p8, rfl, upd_same⟩), g.snoc (plain_word p7 hn4), ?_⟩
        rw [List.length_append, List.length_singleton]
        omega
      · rintro σ H' ⟨y, ms, rfl, M, g, l⟩
        obtain ⟨vs, e, z⟩ := M.lst
        exact ⟨_, rfl, q H' pl vs ms M.fl e z g (by omega) M.tape M.but⟩
end
end Kx

namespace Kx
open PySem PySem.Spec PyProof.Rows L2
section
variable {P : Program} {w : World} {K : PySem.W.Frag} {mg : Str → Option Value} {base : Heap} {f : Addr} {fd : FuncData}
/-! ### _law_tree -/
/-- a row that n trees make a tree -/
def Pref (row : List Sy) (n : Nat) : Prop := ∀ tail, forest n tail → forest 1 (row ++ tail)
theorem Pref.nil : Pref [] 1 := fun _ h => h
theorem Pref.snoc {row : List Sy} {n : Nat} {s : Sy} (h : Pref row (n + 1)) : Pref (row ++ [s]) (n + s.2) := fun tail ht => by
  rw [List.append_assoc]
  exact h (s :: tail) ht
structure TrSt (H : Hp) (t ca sa p pr : Addr) (mvs : List V) (ms row : List Sy) (H' : Hp) : Prop where
  tape : Tape H' t ca sa
  but : But H H' ca sa
  mks : H' p = some (.lst mvs)
  syms : Paired (SymAt H') mvs ms
  lst : ∃ vs, H' pr = some (.lst vs) ∧ Paired (SymAt H') vs row
  fr : H pr = none
  ne : p ≠ pr
  n1 : p ≠ ca
  n2 : p ≠ sa
theorem TrSt.pick {H H1 H2 : Hp} {t ca sa p pr : Addr} {mvs : List V} {ms row : List Sy} (T0 : Tape H t ca sa) (m : TrSt H t ca sa p pr mvs ms row H1) (T : Tape H2 t ca sa) (k : But H1 H2 ca sa) : TrSt H t ca sa p pr mvs ms row H2 := by
  obtain ⟨vs, e, q⟩ := m.lst
  have o2 := T0.off m.fr
  have tk := k.tk m.tape
  exact ⟨T, m.but.trans k, k _ _ m.n1 m.n2 m.mks, symsAt_keep tk m.syms, ⟨vs, k _ _ (Ne.symm o2.2.1) (Ne.symm o2.2.2) e, symsAt_keep tk q⟩, m.fr, m.ne, m.n1, m.n2⟩
theorem TrSt.put {H H1 : Hp} {t ca sa p pr : Addr} {mvs vs' : List V} {ms row row' : List Sy} (T0 : Tape H t ca sa) (m : TrSt H t ca sa p pr mvs ms row H1) (h : Paired (SymAt H1) vs' row') : TrSt H t ca sa p pr mvs ms row' (upd H1 pr (.lst vs')) := by
  obtain ⟨vs, e, q⟩ := m.lst
  have o2 := T0.off m.fr
  have tk : TK H1 (upd H1 pr (.lst vs')) := TK.set e
  exact ⟨m.tape.mut o2.1 o2.2.1 o2.2.2, m.but.mut m.fr, by rw [upd_ne m.ne]; exact m.mks, symsAt_keep tk m.syms, ⟨vs', upd_same, symsAt_keep tk h⟩, m.fr, m.ne, m.n1, m.n2⟩
theorem scTree : FnScope ["_law_tape_here", "_law_marks_here", "_law_most", "_law_row", "_law_need", "_law_mark"] ["_law_tape_here", "_law_marks_here", "_law_most"] (defScope (topS 24)) := ⟨rfl, rfl, rfl, by decide +kernel, rfl, by decide +kernel, by decide +kernel⟩
def spTree : Sp := fun vs H Q _ => ∃ (t ca sa p : Addr) (mvs : List V) (ms : List Sy) (n : Nat), vs = [.ref t, .ref p, .int n] ∧ Tape H t ca sa ∧ H p = some (.lst mvs) ∧ Paired (SymAt H) mvs ms ∧ Marks ms ∧ ms.length ≤ 10 ∧ 1 ≤ n ∧ n ≤ 60 ∧ p ≠ ca ∧ p ≠ sa ∧
  ∀ H' a row, TreeAt H' a row → forest 1 row → AllOk false row → row.length ≤ n → Tape H' t ca sa → But H H' ca sa → Q (.ref a) H'
theorem ok_tree (F : Fun K "_law_tree" "_law_tree" (topS 24) f fd) (B : Blt mg) (c__law_pick : Cal P w K mg base CX0 1 "_law_pick" ["_law_tape_here", "_law_many"] spPick) : FnOk P w K mg base CX0 2 f fd ["_law_tape_here", "_law_marks_here", "_law_most"] spTree := by
  refine F.ok scTree (fun vs H Q E h => ?_) (fun cdv A outer s H vs Q E hr h => ?_)
  · obtain ⟨t, ca, sa, p, mvs, ms, n, rfl, _⟩ := h
    rfl
  · obtain ⟨t, ca, sa, p, mvs, ms, n, rfl, T0, hp, hm, g, l10, n1, n60, pc, ps, q⟩ := h
    have sc := scTree
    refine ⟨_, (pss_cons (ps_set (i := 3) sc.nd rfl (Or.inl rfl) (pe_lst pa_nil))
    (pss_cons (ps_set (i := 4) sc.nd rfl (Or.inl rfl) pe_int)
    (pss_cons (ps_while PassesOwn.never (pt_cmpR op_gt (pv 4) pe_int (nomark _))
      (pss_cons (ps_set (i := 5) sc.nd rfl (Or.inl rfl) (pe_ix ix_list (pv 1) (co c__law_pick hr (pa_cons (pv 0) (pa_cons (pe_callB call_len_seq (by rfl) B.len PySem.boot_len (pa_cons (pv 1) pa_nil)) pa_nil))) (fun _ _ => rfl)))
    (Evl.pss_cut (ps_if (pt_cmpR op_gt (pe_ix ix_tup (pv 5) pe_int (fun _ _ => rfl)) (pe_op op_sub (pe_op op_sub (pv 2) (pe_callB call_len_seq (by rfl) B.len PySem.boot_len (pa_cons (pv 3) pa_nil))) (pv 4)) (nomark _))
      (pss_one (ps_set (i := 5) sc.nd rfl (Or.inl rfl) (pe_ix ix_list (pv 1) (co c__law_pick hr (pa_cons (pv 0) (pa_cons pe_int pa_nil))) (fun _ _ => rfl))))
      pss_nil)
    (pss_cons (ps_expr (pe_bm PySem.F.plainAttrs_list PySem.F.slot_list_append PySem.F.type_list_append mt_append (pv 3) (pa_cons (pv 5) pa_nil)))
    (pss_one (ps_set (i := 4) sc.nd rfl (Or.inl rfl) (pe_op op_add (pe_op op_sub (pv 4) pe_int) (pe_ix ix_tup (pv 5) pe_int (fun _ _ => rfl)))))))))
    (pss_one (ps_ret (pe_callTy call_tuple_of (by rfl) B.tuple PyProof.Rows.boot_tuple (pa_cons (pv 3) pa_nil))))))), ?_⟩
    refine ⟨Nat.zero_le _, fun pr hpr => ?_⟩
    have s1 : Same H (upd H pr (.lst [])) := same_new hpr
    have M0 : TrSt H t ca sa p pr mvs ms [] (upd H pr (.lst [])) := ⟨T0.same s1, .of s1, s1 _ _ hp, symsAt_keep (TK.of s1) hm, ⟨[], upd_same, .nil⟩, hpr, ne_of_none hp hpr, pc, ps⟩
    refine ⟨fun m σ H' => ∃ (row : List Sy) (k : Nat) (y : Option V), m = n - row.length ∧ σ = [some (.ref t), some (.ref p), some (.int (n : Int)), some (.ref pr), some (.int (k : Int)), y] ∧ TrSt H t ca sa p pr mvs ms row H' ∧ Pref row k ∧ AllOk false row ∧ row.length + k ≤ n,
      ⟨_, [], 1, none, rfl, rfl, M0, Pref.nil, fun x hx => (by cases hx), n1⟩, ?_⟩
    rintro m σ H' ⟨row, k, y, rfl, rfl, M, hpre, hok, hlen⟩
    refine ⟨_, rfl, _, _, rfl, rfl, _, rfl, ?_⟩
    cases k with
    | zero =>
      refine if_no rfl ?_
      obtain ⟨vs, e, z⟩ := M.lst
      have tr : forest 1 row := by
        have := hpre [] rfl
        rw [List.append_nil] at this
        exact this
      refine ⟨_, rfl, pr, vs, rfl, .inl ⟨SqL.of e, fun a ha => ?_⟩⟩
      have s2 : Same H' (upd H' a (.tup vs)) := same_new ha
      exact q _ a row ⟨vs, upd_same, symsAt_keep (TK.of s2) z⟩ tr hok (by omega) (M.tape.same s2) (M.but.trans (.of s2))
    | succ k =>
      refine if_yes (decide_eq_true (by omega)) ⟨_, fun _ _ h => h, ?_⟩
      have lm := pair_len M.syms
      have glo := g.lo
      -- mark = marks[pick(len(marks))]
      refine ⟨.ref p, rfl, .ref t, rfl, _, rfl, p, _, rfl, .inl (SqL.of M.mks), t, ca, sa, mvs.length, rfl, by omega, by omega, M.tape, fun H1 r hr1 T1 k1 => ?_⟩
      have M1 := M.pick T0 T1 k1
      have hr2 : r < ms.length := by omega
      obtain ⟨v1, hv1, b1, rfl, hb1⟩ := pair_get M1.syms (List.getElem?_eq_getElem hr2)
      have ok1 : WordOk false ms[r] := g.ok _ (List.getElem_mem hr2)
      generalize ms[r] = sy at hb1 ok1
      refine ⟨p, _, _, _, rfl, rfl, SqL.of M1.mks, atI_nat hv1, ?_⟩
      -- the if
      refine ⟨fun σ' H2 => ∃ (b : Addr) (s : Sy), σ' = [some (.ref t), some (.ref p), some (.int (n : Int)), some (.ref pr), some (.int ((k + 1 : Nat) : Int)), some (.ref b)] ∧ TrSt H t ca sa p pr mvs ms row H2 ∧ H2 b = some (.tup [.str (mk s.1), .int s.2]) ∧ WordOk false s ∧ row.length + (k + 1) + s.2 ≤ n, ?_, ?_⟩
      · obtain ⟨vs1, e1, z1⟩ := M1.lst
        have lv := pair_len z1
        refine ⟨.ref b1, rfl, b1, _, 1, _, rfl, rfl, SqT.of hb1, rfl, _, rfl, _, rfl, pr, _, rfl, .inl (SqL.of e1), _, _, rfl, rfl, _, rfl, _, _, rfl, rfl, _, _, rfl, rfl, _, rfl, ite2 (fun _ => ?_) (fun hd => ?_)⟩
        · -- a leaf in its place
          refine ⟨.ref p, rfl, .ref t, rfl, t, ca, sa, 2, rfl, by decide, by decide, M1.tape, fun H3 r3 hr3 T3 k3 => ?_⟩
          have M3 := M1.pick T0 T3 k3
          have leaf : ∃ s, ms[r3]? = some s ∧ s.2 = 0 := by
            match r3, hr3 with
            | 0, _ => exact g.first
            | 1, _ => exact g.second
          obtain ⟨s3, hs3, hz⟩ := leaf
          obtain ⟨v3, hv3, b3, rfl, hb3⟩ := pair_get M3.syms hs3
          refine ⟨p, _, _, _, rfl, rfl, SqL.of M3.mks, atI_nat hv3, ?_⟩
          exact ⟨b3, s3, rfl, M3, hb3, g.ok _ (List.mem_of_getElem? hs3), by omega⟩
        · have hd' : ¬ ((n : Int) - (vs1.length : Int) - ((k + 1 : Nat) : Int) < (sy.2 : Int)) := fun z => hd (decide_eq_true z)
          exact ⟨b1, sy, rfl, M1, hb1, ok1, by omega⟩
      · rintro σ' H2 ⟨b, s2, rfl, M2, hb, okb, hle⟩
        obtain ⟨vs2, e2, z2⟩ := M2.lst
        have lv := pair_len z2
        refine ⟨.ref pr, rfl, .inl ⟨rfl, _, SqL.of e2⟩, .ref b, rfl, pr, _, _, rfl, rfl, e2, small1 (by omega), ?_⟩
        have M4 := M2.put T0 (pair_snoc z2 ⟨b, rfl, hb⟩)
        have hb4 : upd H2 pr (.lst (vs2 ++ [.ref b])) b = some (.tup [.str (mk s2.1), .int s2.2]) := TK.set e2 _ _ hb
        refine ⟨_, rfl, _, _, rfl, rfl, .ref b, rfl, b, _, 1, _, rfl, rfl, SqT.of hb4, rfl, _, _, rfl, rfl, ?_⟩
        refine ⟨_, ?_, row ++ [s2], k + s2.2, some (.ref b), rfl, ?_, M4, hpre.snoc, fun x hx => ?_, ?_⟩
        · rw [List.length_append, List.length_singleton]
          omega
        · show [some (V.ref t), some (.ref p), some (.int (n : Int)), some (.ref pr), some (.int (((k + 1 : Nat) : Int) - 1 + (s2.2 : Int))), some (.ref b)] = _
          have e5 : ((k + 1 : Nat) : Int) - 1 + (s2.2 : Int) = ((k + s2.2 : Nat) : Int) := by omega
          rw [e5]
        · rcases List.mem_append.mp hx with hx | hx
          · exact hok x hx
          · rcases List.mem_cons.mp hx with rfl | hx
            · exact okb
            · cases hx
        · rw [List.length_append, List.length_singleton]
          omega
/-! ### _law_masked -/
theorem piece_of : ∀ {row : List Sy} {n k : Nat}, forest n row → k < row.length → ∃ x y, row.drop k = x ++ y ∧ forest 1 x ∧ ∀ x', forest 1 x' → forest n (row.take k ++ x' ++ y)
  | [], n, k, _, h => by cases h
  | s :: r, 0, k, hf, _ => hf.elim
  | s :: r, n + 1, 0, hf, _ => by
    obtain ⟨a, b, e, ha, hb⟩ := forest_split (n := 1) (m := n) (r := s :: r) (by rw [Nat.add_comm]; exact hf)
    refine ⟨a, b, e, ha, fun x' hx => ?_⟩
    have := forest_append hx hb
    rw [Nat.add_comm] at this
    exact this
  | s :: r, n + 1, k + 1, hf, hk => by
    obtain ⟨x, y, e, hx, hy⟩ := piece_of (row := r) (n := n + s.2) (k := k) hf (Nat.lt_of_succ_lt_succ hk)
    exact ⟨x, y, e, hx, fun x' hx' => hy x' hx'⟩
theorem pair_take {α β : Type} {F : α → β → Prop} : ∀ {l : List α} {m : List β} (n : Nat), Paired F l m → Paired F (l.take n) (m.take n)
  | _, _, 0, _ => .nil
  | _, _, _ + 1, .nil => .nil
  | _, _, n + 1, .cons r t => .cons r (pair_take n t)
theorem pair_drop {α β : Type} {F : α → β → Prop} : ∀ {l : List α} {m : List β} (n : Nat), Paired F l m → Paired F (l.drop n) (m.drop n)
  | _, _, 0, r => r
  | _, _, _ + 1, .nil => .nil
  | _, _, n + 1, .cons _ t => pair_drop n t
theorem pair_app {α β : Type} {F : α → β → Prop} : ∀ {l l2 : List α} {m m2 : List β}, Paired F l m → Paired F l2 m2 → Paired F (l ++ l2) (m ++ m2)
  | _, _, _, _, .nil, h => h
  | _, _, _, _, .cons r t, h => .cons r (pair_app t h)
theorem word_mono {s : Sy} (h : WordOk false s) : WordOk true s := by
  rcases h with h | ⟨h, _⟩ | h
  · exact .inl h
  · cases h
  · exact .inr (.inr h)
theorem allOk_true {h : Bool} {row : List Sy} (a : AllOk h row) : AllOk true row := by
  cases h with
  | true => exact a
  | false => exact fun s hs => word_mono (a s hs)
/-- a slice of a tuple, however it is made -/
theorem sl_ret {H : Hp} {a : Addr} {xs : List V} {lo hi : Option Int} {Q : VK} (h : H a = some (.tup xs)) (q : ∀ b H', Same H H' → H' b = some (.tup (cutV xs lo hi)) → Q (.ref b) H') : rSlA K (.ref a) lo hi H Q := by
  refine ⟨a, xs, rfl, SqT.of h, fun z => q a H (Same.refl H) ?_, fun _ p hp => q p _ (same_new hp) upd_same⟩
  rw [h]
  unfold cutV
  rw [z.1, z.2, List.drop_zero, Nat.sub_zero, List.take_length]
theorem cat_ret {H : Hp} {a b : Addr} {xs ys : List V} {Q : VK} (ha : H a = some (.tup xs)) (hb : H b = some (.tup ys)) (hl : xs.length + ys.length ≤ 100000) (q : ∀ c H', Same H H' → H' c = some (.tup (xs ++ ys)) → Q (.ref c) H') : rCatA K (.ref a) (.ref b) H Q := by
  refine ⟨a, b, xs, ys, rfl, rfl, SqT.of ha, SqT.of hb, small (by omega), fun z => ?_, fun _ z => ?_, fun _ _ p hp => q p _ (same_new hp) upd_same⟩
  · subst z
    exact q b H (Same.refl H) hb
  · subst z
    exact q a H (Same.refl H) (by rw [List.append_nil]; exact ha)
theorem cut_to (xs : List V) (k : Nat) : cutV xs none (some (k : Int)) = xs.take k := by
  unfold cutV
  rw [HT.sIx_none, show HT.sIx xs.length xs.length (some (k : Int)) = min k xs.length from HT.sIx_nat _ _ _, List.drop_zero, Nat.sub_zero]
  rcases Nat.le_total k xs.length with h | h
  · rw [Nat.min_eq_left h]
  · rw [Nat.min_eq_right h, List.take_length, List.take_of_length_le h]
theorem cut_from (xs : List V) (k : Nat) : cutV xs (some (k : Int)) none = xs.drop k := by
  unfold cutV
  rw [HT.sIx_none, show HT.sIx xs.length 0 (some (k : Int)) = min k xs.length from HT.sIx_nat _ _ _]
  rcases Nat.le_total k xs.length with h | h
  · rw [Nat.min_eq_left h, List.take_of_length_le (by rw [List.length_drop]; exact Nat.le_refl _)]
  · rw [Nat.min_eq_right h, Nat.sub_self, List.drop_length, List.drop_eq_nil_of_le h]
    rfl
theorem scMasked : FnScope ["_law_tape_here", "_law_row", "_law_at"] ["_law_tape_here", "_law_row"] (defScope (topS 30)) := ⟨rfl, rfl, rfl, by decide +kernel, rfl, by decide +kernel, by decide +kernel⟩
def spMasked : Sp := fun vs H Q _ => ∃ (t ca sa a : Addr) (row : List Sy), vs = [.ref t, .ref a] ∧ Tape H t ca sa ∧ TreeAt H a row ∧ forest 1 row ∧ AllOk true row ∧ row.length ≤ 60 ∧
  ∀ H' b row', TreeAt H' b row' → forest 1 row' → AllOk true row' → row'.length ≤ 60 → Tape H' t ca sa → But H H' ca sa → Q (.ref b) H'
theorem ok_masked (F : Fun K "_law_masked" "_law_masked" (topS 30) f fd) (B : Blt mg) (c__law_pick : Cal P w K mg base CX0 1 "_law_pick" ["_law_tape_here", "_law_many"] spPick) (c__law_far : Cal P w K mg base CX0 1 "_law_far" ["_law_row", "_law_at"] spFar) : FnOk P w K mg base CX0 2 f fd ["_law_tape_here", "_law_row"] spMasked := by
  refine F.ok scMasked (fun vs H Q E h => ?_) (fun cdv A outer s H vs Q E hr h => ?_)
  · obtain ⟨t, ca, sa, a, row, rfl, _⟩ := h
    rfl
  · obtain ⟨t, ca, sa, a, row, rfl, T0, ⟨vs, hv, hp⟩, hf, hok, h60, q⟩ := h
    have sc := scMasked
    have lv := pair_len hp
    have pos : 0 < row.length := List.length_pos_iff.mpr (forest_ne hf)
    refine ⟨_, (pss_cons (ps_set (i := 2) sc.nd rfl (Or.inl rfl) (co c__law_pick hr (pa_cons (pv 0) (pa_cons (pe_callB call_len_seq (by rfl) B.len PySem.boot_len (pa_cons (pv 1) pa_nil)) pa_nil))))
    (pss_one (ps_ret (pe_op op_catA (pe_op op_catA (pe_slice sl_tupA (pv 1) po_none (po_some (pv 2))) (pe_tup (pa_cons (pe_tup (pa_cons pe_str (pa_cons pe_int pa_nil))) pa_nil))) (pe_slice sl_tupA (pv 1) (po_some (co c__law_far hr (pa_cons (pv 1) (pa_cons (pv 2) pa_nil)))) po_none))))), ?_⟩
    refine ⟨.ref t, rfl, .ref a, rfl, a, vs, rfl, .inr (SqT.of hv), t, ca, sa, vs.length, rfl, by omega, by omega, T0, fun H1 r hr1 T1 k1 => ?_⟩
    have tk1 := k1.tk T0
    have hv1 := tk1 _ _ hv
    obtain ⟨x, y, ed, hx, hy⟩ := piece_of hf (show r < row.length by omega)
    refine ⟨.ref a, rfl, _, rfl, r, rfl, sl_ret hv1 fun b1 H2 s2 hb1 => ?_⟩
    refine ⟨by show 2 ≤ sizeLine; decide, fun p1 hp1 => ⟨by show 1 ≤ sizeLine; decide, fun p2 hp2 => ?_⟩⟩
    have s3 := s2.trans (same_new (o := .tup [.str "?", .int 0]) hp1)
    have s4 := s3.trans (same_new (o := .tup [.ref p1]) hp2)
    have hq1 := same_new (o := .tup [.ref p1]) hp2 _ _ (upd_same (H := H2) (a := p1) (o := .tup [.str "?", .int 0]))
    have hb1' := same_new (o := .tup [.ref p1]) hp2 _ _ (same_new (o := .tup [.str "?", .int 0]) hp1 _ _ hb1)
    rw [cut_to] at hb1'
    refine cat_ret hb1' upd_same (by rw [List.length_take]; show min r vs.length + 1 ≤ _; omega) fun b2 H3 s5 hb2 => ?_
    have s6 := s4.trans s5
    have tk3 : TK H H3 := tk1.trans (TK.of s6)
    have hv3 := tk3 _ _ hv
    refine ⟨.ref a, rfl, .ref a, rfl, .int (r : Int), rfl, a, row, r, x, y, rfl, ⟨vs, hv3, symsAt_keep tk3 hp⟩, ed, hx, _, rfl, ?_⟩
    dsimp only [tNoPart]
    refine sl_ret hv3 fun b3 H4 s7 hb3 => ?_
    rw [cut_from] at hb3
    have lxy : row.length - r = x.length + y.length := by
      rw [← List.length_drop, ed, List.length_append]
    have ey : row.drop (r + x.length) = y := by
      rw [← List.drop_drop, ed, List.drop_left]
    have lx : 1 ≤ x.length := List.length_pos_iff.mpr (forest_ne hx)
    refine cat_ret (s7 _ _ hb2) hb3 (by rw [List.length_append, List.length_take, List.length_drop]; show min r vs.length + 1 + (vs.length - (r + x.length)) ≤ _; omega) fun c H5 s8 hc => ?_
    have s9 := s7.trans s8
    have tk5 : TK H H5 := tk3.trans (TK.of s9)
    have s10 := s6.trans s9
    have hq5 : H5 p1 = some (.tup [.str "?", .int 0]) := s9 _ _ (s5 _ _ hq1)
    have hpp := symsAt_keep tk5 hp
    refine q H5 c (row.take r ++ [([63], 0)] ++ y) ⟨_, hc, pair_app (pair_app (pair_take r hpp) (.cons ⟨p1, rfl, hq5⟩ .nil)) (by rw [← ey]; exact pair_drop _ hpp)⟩ (hy [([63], 0)] forest_leaf) (fun s hs => ?_) ?_ (T1.same s10) (k1.trans (.of s10))
    · rcases List.mem_append.mp hs with hs | hs
      · rcases List.mem_append.mp hs with hs | hs
        · exact hok s (List.mem_of_mem_take hs)
        · rcases List.mem_cons.mp hs with rfl | hs
          · exact .inr (.inl ⟨rfl, rfl, rfl⟩)
          · cases hs
      · rw [← ey] at hs
        exact hok s (List.mem_of_mem_drop hs)
    · rw [List.length_append, List.length_append, List.length_take, List.length_singleton]
      omega
end
end Kx

namespace Kx
open PySem PySem.Spec PyProof.Rows L2
section
variable {P : Program} {w : World} {K : PySem.W.Frag} {mg : Str → Option Value} {base : Heap} {f : Addr} {fd : FuncData}
/-! ### _law_same -/
mutual
def sz : Dd → Nat
  | .int _ => 1
  | .bl _ => 1
  | .str _ => 1
  | .tup ds => 1 + szs ds
def szs : List Dd → Nat
  | [] => 0
  | d :: ds => sz d + szs ds
end
theorem sz_pos : ∀ d : Dd, 1 ≤ sz d
  | .int _ => Nat.le_refl _
  | .bl _ => Nat.le_refl _
  | .str _ => Nat.le_refl _
  | .tup ds => by
    show 1 ≤ 1 + szs ds
    omega
theorem szs_len : ∀ ds : List Dd, ds.length ≤ szs ds
  | [] => Nat.le_refl _
  | d :: ds => by
    have h1 := szs_len ds
    have h2 := sz_pos d
    show ds.length + 1 ≤ sz d + szs ds
    omega
theorem szs_app : ∀ a b : List Dd, szs (a ++ b) = szs a + szs b
  | [], b => (Nat.zero_add _).symm
  | d :: a, b => by
    have ih := szs_app a b
    show sz d + szs (a ++ b) = sz d + szs a + szs b
    omega
theorem dats_pair {H : Hp} : ∀ {ds : List Dd} {vs : List V}, DAts H ds vs → Paired (fun v d => DAt H d v) vs ds
  | [], vs, h => by
    have e : vs = [] := h
    subst e
    exact .nil
  | d :: ds, vs, h => by
    obtain ⟨v, r, e, q, t⟩ := h
    subst e
    exact .cons q (dats_pair t)
def tyD : Dd → String
  | .int _ => "int"
  | .bl _ => "bool"
  | .str _ => "str"
  | .tup _ => "tuple"
theorem tyD_ok {H : Hp} {d : Dd} {v : V} (h : DAt H d v) : TyX K H v (.type (tyD d)) := by
  cases d with
  | int i =>
    have e : v = .int i := h
    subst e
    exact .base (.int i)
  | bl b =>
    have e : v = .bl b := h
    subst e
    exact .base (.bl b)
  | str z =>
    have e : v = .str z := h
    subst e
    exact .base (.str z)
  | tup ds =>
    obtain ⟨a, vs, e, q, _⟩ := h
    subst e
    exact .base (.tup q)
def PrAt (H : Hp) (v : V) (d : Dd) : Prop := ∃ b x y, v = .ref b ∧ H b = some (.tup [x, y]) ∧ DAt H d x ∧ DAt H d y
theorem PrAt.keep {H H' : Hp} {v : V} {d : Dd} (k : TK H H') (h : PrAt H v d) : PrAt H' v d := by
  obtain ⟨b, x, y, e, q, h1, h2⟩ := h
  exact ⟨b, x, y, e, k _ _ q, h1.keep k, h2.keep k⟩
theorem prs_keep {H H' : Hp} {vs : List V} {ds : List Dd} (k : TK H H') (h : Paired (PrAt H) vs ds) : Paired (PrAt H') vs ds := Paired.mapP h fun _ _ q => q.keep k
theorem pair_split {α β : Type} {F : α → β → Prop} : ∀ {l : List α} {m : List β} {y : β}, Paired F l (m ++ [y]) → ∃ l0 x, l = l0 ++ [x] ∧ Paired F l0 m ∧ F x y
  | _, [], y, .cons r .nil => ⟨[], _, rfl, .nil, r⟩
  | _, z :: m, y, .cons r t => by
    obtain ⟨l0, x, e, p, q⟩ := pair_split (m := m) t
    exact ⟨_ :: l0, x, by rw [e]; rfl, .cons r p, q⟩
theorem pair_nil {α β : Type} {F : α → β → Prop} {l : List α} (h : Paired F l ([] : List β)) : l = [] := by
  cases h
  rfl
theorem scSame : FnScope ["_law_told", "_law_due", "_law_rows", "_law_pair", "_law_one", "_law_two", "_law_k"] ["_law_told", "_law_due"] (defScope (topS 22)) := ⟨rfl, rfl, rfl, by decide +kernel, rfl, by decide +kernel, by decide +kernel⟩
def spSame : Sp := fun vs H Q _ => ∃ (x y : V) (d : Dd), vs = [x, y] ∧ DAt H d x ∧ DAt H d y ∧ sz d ≤ 10000000 ∧ ∀ H', Same H H' → Q (.bl true) H'
theorem ok_same (F : Fun K "_law_same" "_law_same" (topS 22) f fd) (B : Blt mg) : FnOk P w K mg base CX0 1 f fd ["_law_told", "_law_due"] spSame := by
  refine F.ok scSame (fun vs H Q E h => ?_) (fun cdv A outer s H vs Q E hr h => ?_)
  · obtain ⟨x, y, d, rfl, _⟩ := h
    rfl
  · obtain ⟨x, y, d, rfl, hx, hy, hsz, q⟩ := h
    have sc := scSame
    refine ⟨_, (pss_cons (ps_set (i := 2) sc.nd rfl (Or.inl rfl) (pe_lst (pa_cons (pe_tup (pa_cons (pv 0) (pa_cons (pv 1) pa_nil))) pa_nil)))
    (pss_cons (ps_while PassesOwn.never (pt_cmpR op_gt (pe_callB call_len_seq (by rfl) B.len PySem.boot_len (pa_cons (pv 2) pa_nil)) pe_int (nomark _))
      (pss_cons (ps_set (i := 3) sc.nd rfl (Or.inl rfl) (pe_bm0 PySem.F.plainAttrs_list PySem.F.slot_list_pop PySem.F.type_list_pop mt_pop (pv 2)))
    (pss_cons (ps_set (i := 4) sc.nd rfl (Or.inl rfl) (pe_ix ix_tup (pv 3) pe_int (fun _ _ => rfl)))
    (pss_cons (ps_set (i := 5) sc.nd rfl (Or.inl rfl) (pe_ix ix_tup (pv 3) pe_int (fun _ _ => rfl)))
    (pss_one (ps_if (pt_val (pe_callB call_isi (by rfl) B.isinstance PyProof.Rows.boot_isinstance (pa_cons (pv 5) (pa_cons (pe_bltn (v := .ty "tuple") (by rfl) B.tuple PyProof.Rows.boot_tuple rfl) pa_nil))))
      (pss_cons (ps_if (PW.pt (pw_or (pt_not (pt_val (pe_callB call_isi (by rfl) B.isinstance PyProof.Rows.boot_isinstance (pa_cons (pv 4) (pa_cons (pe_bltn (v := .ty "tuple") (by rfl) B.tuple PyProof.Rows.boot_tuple rfl) pa_nil))))) (pw_or1 (pt_cmpR op_ne (pe_callB call_len_seq (by rfl) B.len PySem.boot_len (pa_cons (pv 4) pa_nil)) (pe_callB call_len_seq (by rfl) B.len PySem.boot_len (pa_cons (pv 5) pa_nil)) (nomark _)))))
      pss_never
      pss_nil)
    (pss_one (ps_for PassesOwn.never rfl (pi_range1 (by rfl) B.range (pa_cons (pe_callB call_len_seq (by rfl) B.len PySem.boot_len (pa_cons (pv 5) pa_nil)) pa_nil)) (pg_name (i := 6) sc.nd rfl (Or.inl rfl))
      (pss_one (ps_expr (pe_bm PySem.F.plainAttrs_list PySem.F.slot_list_append PySem.F.type_list_append mt_append (pv 2) (pa_cons (pe_tup (pa_cons (pe_ix ix_tup (pv 4) (pv 6) (fun _ _ => rfl)) (pa_cons (pe_ix ix_tup (pv 5) (pv 6) (fun _ _ => rfl)) pa_nil))) pa_nil)))))))
      (pss_one (ps_if (pt_cmpR op_isN (pv 5) pe_non (nomark _))
      pss_never
      (pss_one (ps_if (pt_val (pe_callB call_isi (by rfl) B.isinstance PyProof.Rows.boot_isinstance (pa_cons (pv 5) (pa_cons (pe_bltn (v := .ty "bool") (by rfl) B.bool PyProof.Rows.boot_bool rfl) pa_nil))))
      (pss_one (ps_if (PW.pt (pw_or (pt_not (pt_val (pe_callB call_isi (by rfl) B.isinstance PyProof.Rows.boot_isinstance (pa_cons (pv 4) (pa_cons (pe_bltn (v := .ty "bool") (by rfl) B.bool PyProof.Rows.boot_bool rfl) pa_nil))))) (pw_or1 (pt_cmpR op_ne (pv 4) (pv 5) (nomark _)))))
      pss_never
      pss_nil))
      (pss_one (ps_if (pt_val (pe_callB call_isi (by rfl) B.isinstance PyProof.Rows.boot_isinstance (pa_cons (pv 5) (pa_cons (pe_bltn (v := .ty "int") (by rfl) B.int PyProof.Rows.boot_int rfl) pa_nil))))
      (pss_one (ps_if (PW.pt (pw_or (pt_val (pe_callB call_isi (by rfl) B.isinstance PyProof.Rows.boot_isinstance (pa_cons (pv 4) (pa_cons (pe_bltn (v := .ty "bool") (by rfl) B.bool PyProof.Rows.boot_bool rfl) pa_nil)))) (pw_or (pt_not (pt_val (pe_callB call_isi (by rfl) B.isinstance PyProof.Rows.boot_isinstance (pa_cons (pv 4) (pa_cons (pe_bltn (v := .ty "int") (by rfl) B.int PyProof.Rows.boot_int rfl) pa_nil))))) (pw_or1 (pt_cmpR op_ne (pv 4) (pv 5) (nomark _))))))
      pss_never
      pss_nil))
      (pss_one (ps_if (pt_val (pe_callB call_isi (by rfl) B.isinstance PyProof.Rows.boot_isinstance (pa_cons (pv 5) (pa_cons (pe_bltn (v := .ty "str") (by rfl) B.str PyProof.Rows.boot_str rfl) pa_nil))))
      (pss_one (ps_if (PW.pt (pw_or (pt_not (pt_val (pe_callB call_isi (by rfl) B.isinstance PyProof.Rows.boot_isinstance (pa_cons (pv 4) (pa_cons (pe_bltn (v := .ty "str") (by rfl) B.str PyProof.Rows.boot_str rfl) pa_nil))))) (pw_or1 (pt_cmpR op_ne (pv 4) (pv 5) (nomark _)))))
      pss_never
      pss_nil))
      pss_never))))))))))))))
    (pss_one (ps_ret pe_bl)))), ?_⟩
    refine ⟨x, rfl, y, rfl, by show 2 ≤ sizeLine; decide, fun p0 hp0 => ⟨by show 1 ≤ sizeLine; decide, fun pr hpr => ?_⟩⟩
    have s0 : Same H (upd (upd H p0 (.tup [x, y])) pr (.lst [.ref p0])) := (same_new hp0).trans (same_new hpr)
    have fr : H pr = none := (same_new (o := .tup [x, y]) hp0).free hpr
    have p00 := same_new (o := .lst [.ref p0]) hpr _ _ (upd_same (H := H) (a := p0) (o := .tup [x, y]))
    refine ⟨fun m σ H' => ∃ (vs : List V) (ds : List Dd) (y3 y4 y5 y6 : Option V), m = szs ds ∧ σ = [some x, some y, some (.ref pr), y3, y4, y5, y6] ∧ H' pr = some (.lst vs) ∧ Paired (PrAt H') vs ds ∧ szs ds ≤ 10000000 ∧ Same H H',
      ⟨_, [.ref p0], [d], none, none, none, none, rfl, rfl, upd_same, .cons ⟨p0, x, y, rfl, p00, hx.keep (TK.of s0), hy.keep (TK.of s0)⟩ .nil, by show sz d + 0 ≤ _; omega, s0⟩, ?_⟩
    rintro m σ H1 ⟨vs, ds, y3, y4, y5, y6, rfl, rfl, hl, hp, hb, hs⟩
    have lv := pair_len hp
    have ld := szs_len ds
    refine ⟨_, rfl, pr, vs, rfl, .inl (SqL.of hl), _, _, rfl, rfl, _, rfl, ?_⟩
    rcases snoc ds with rfl | ⟨ds, d1, rfl⟩
    · have ev := pair_nil hp
      subst ev
      exact if_no rfl (q H1 hs)
    · obtain ⟨vs0, v1, rfl, hp0', b1, x1, y1, rfl, hb1, hx1, hy1⟩ := pair_split hp
      have lv0 := pair_len hp0'
      refine if_yes (decide_eq_true (by rw [List.length_append, List.length_singleton]; omega)) ⟨_, fun _ _ h => h, ?_⟩
      rw [szs_app] at hb ⊢
      have e1 : szs [d1] = sz d1 := Nat.add_zero _
      rw [e1] at hb ⊢
      have ps1 := sz_pos d1
      -- pair = rows.pop()
      refine ⟨_, rfl, .inl ⟨rfl, _, SqL.of hl⟩, pr, _, .ref b1, rfl, rfl, hl, ?_, ?_⟩
      · rw [List.length_append, List.length_singleton, Nat.add_sub_cancel, List.getElem?_append_right (Nat.le_refl _), Nat.sub_self]
        rfl
      rw [List.dropLast_concat]
      have tk2 : TK H1 (upd H1 pr (.lst vs0)) := TK.set hl
      have hs2 : Same H (upd H1 pr (.lst vs0)) := Same.mut hs fr
      have hp2 := prs_keep tk2 hp0'
      have hb2 := tk2 _ _ hb1
      have hx2 := hx1.keep tk2
      have hy2 := hy1.keep tk2
      generalize hH2 : upd H1 pr (.lst vs0) = H2 at tk2 hs2 hp2 hb2 hx2 hy2 ⊢
      have hl2 : H2 pr = some (.lst vs0) := by rw [← hH2]; exact upd_same
      refine ⟨_, rfl, b1, _, 0, x1, rfl, rfl, SqT.of hb2, rfl, _, rfl, b1, _, 1, y1, rfl, rfl, SqT.of hb2, rfl, _, rfl, ?_⟩
      have fin : ∀ (y3 y4 y5 y6 : Option V), ∃ m', m' < szs ds + sz d1 ∧ ∃ (vs : List V) (ds : List Dd) (y3' y4' y5' y6' : Option V), m' = szs ds ∧ ([some x, some y, some (.ref pr), y3, y4, y5, y6] : L2.St) = [some x, some y, some (.ref pr), y3', y4', y5', y6'] ∧ H2 pr = some (.lst vs) ∧ Paired (PrAt H2) vs ds ∧ szs ds ≤ 10000000 ∧ Same H H2 :=
        fun y3 y4 y5 y6 => ⟨szs ds, by omega, vs0, ds, y3, y4, y5, y6, rfl, rfl, hl2, hp2, by omega, hs2⟩
      cases d1 with
      | tup es =>
        refine ⟨_, .ty "tuple", .type "tuple", .type "tuple", true, rfl, .ty "tuple", tyD_ok hy2, kit_ty (show kitB "tuple" "tuple" = some true from by decide +kernel), _, rfl, if_yes rfl ?_⟩
        refine ⟨_, rfl, _, .ty "tuple", .type "tuple", .type "tuple", true, rfl, .ty "tuple", tyD_ok hx2, kit_ty (show kitB "tuple" "tuple" = some true from by decide +kernel), _, rfl, ?_⟩
        obtain ⟨a1, xs, ex, hxa, hxs⟩ := hx2
        obtain ⟨a2, ys, ey, hya, hys⟩ := hy2
        subst ex ey
        have px := dats_pair hxs
        have py := dats_pair hys
        have lx := pair_len px
        have ly := pair_len py
        refine if_no rfl ⟨_, rfl, a1, xs, rfl, .inr (SqT.of hxa), _, rfl, a2, ys, rfl, .inr (SqT.of hya), rfl, _, rfl, if_no ?_ ?_⟩
        · rw [lx, ly, decide_eq_true rfl]
          rfl
        have esz : sz (.tup es) = 1 + szs es := rfl
        have le := szs_len es
        have ld0 := szs_len ds
        refine ⟨_, rfl, a2, ys, rfl, .inr (SqT.of hya), _, rfl, by omega, by omega, for_range (lo := 0) (n := ((ys.length : Nat) : Int).toNat) (fun i σ H' => ∃ (vs : List V) (y6 : Option V), σ = [some x, some y, some (.ref pr), some (.ref b1), some (.ref a1), some (.ref a2), y6] ∧ H' pr = some (.lst vs) ∧ Paired (PrAt H') vs (ds ++ es.take i) ∧ Same H H' ∧ TK H2 H') ⟨vs0, y6, rfl, hl2, by rw [List.take_zero, List.append_nil]; exact hp2, hs2, TK.refl _⟩ ?_ ?_⟩
        · rintro i σ H' hi ⟨vs, y6, rfl, hl', hp', hs', tk'⟩
          rw [Int.toNat_natCast] at hi
          have hie : es[i]? = some es[i] := List.getElem?_eq_getElem (by omega)
          obtain ⟨xi, hxi, dxi⟩ := pair_get px hie
          obtain ⟨yi, hyi, dyi⟩ := pair_get py hie
          have lv' := pair_len hp'
          rw [List.length_append, List.length_take] at lv'
          have ei : (0 : Int) + (i : Int) = (i : Int) := Int.zero_add _
          refine ⟨_, rfl, .inl ⟨rfl, _, SqL.of hl'⟩, _, rfl, _, rfl, a1, xs, _, xi, rfl, rfl, SqT.of (tk' _ _ hxa), at_of ei hxi, _, rfl, _, rfl, a2, ys, _, yi, rfl, rfl, SqT.of (tk' _ _ hya), at_of ei hyi, by show 2 ≤ sizeLine; decide, fun p2 hp2 => ?_⟩
          have s3 := same_new (o := .tup [xi, yi]) hp2
          have hl3 := s3 _ _ hl'
          refine ⟨pr, _, _, rfl, rfl, hl3, small1 (by omega), ?_⟩
          have tk3 : TK H' (upd (upd H' p2 (.tup [xi, yi])) pr (.lst (vs ++ [.ref p2]))) := (TK.of s3).trans (TK.set hl3)
          have hp23 := TK.set (o := .lst (vs ++ [.ref p2])) hl3 _ _ (upd_same (H := H') (a := p2) (o := .tup [xi, yi]))
          refine ⟨_, _, rfl, upd_same, ?_, Same.mut (hs'.trans s3) fr, tk'.trans tk3⟩
          rw [List.take_add_one, hie, ← List.append_assoc]
          exact pair_snoc (prs_keep tk3 hp') ⟨p2, xi, yi, rfl, hp23, dxi.keep (tk'.trans tk3), dyi.keep (tk'.trans tk3)⟩
        · rintro σ H' ⟨vs, y6, rfl, hl', hp', hs', tk'⟩
          rw [Int.toNat_natCast, ly, List.take_length] at hp'
          refine ⟨_, ?_, vs, ds ++ es, _, _, _, _, rfl, rfl, hl', hp', ?_, hs'⟩
          · rw [szs_app]
            omega
          · rw [szs_app]
            omega
      | bl b =>
        have ex : x1 = .bl b := hx2
        have ey : y1 = .bl b := hy2
        subst ex ey
        refine ⟨_, .ty "tuple", .type "bool", .type "tuple", false, rfl, .ty "tuple", tyD_ok hy2, kit_ty (show kitB "bool" "tuple" = some false from by decide +kernel), _, rfl, if_no rfl ?_⟩
        refine ⟨_, rfl, rfl, _, rfl, if_no rfl ?_⟩
        refine ⟨_, rfl, _, .ty "bool", .type "bool", .type "bool", true, rfl, .ty "bool", tyD_ok hy2, kit_ty (show kitB "bool" "bool" = some true from by decide +kernel), _, rfl, if_yes rfl ?_⟩
        refine ⟨_, rfl, _, .ty "bool", .type "bool", .type "bool", true, rfl, .ty "bool", tyD_ok hy2, kit_ty (show kitB "bool" "bool" = some true from by decide +kernel), _, rfl, if_no rfl ⟨_, rfl, _, rfl, by cases b <;> rfl, _, rfl, if_no ?_ (fin _ _ _ _)⟩⟩
        rw [decide_eq_true rfl]
        rfl
      | int i =>
        have ex : x1 = .int i := hx2
        have ey : y1 = .int i := hy2
        subst ex ey
        refine ⟨_, .ty "tuple", .type "int", .type "tuple", false, rfl, .ty "tuple", tyD_ok hy2, kit_ty (show kitB "int" "tuple" = some false from by decide +kernel), _, rfl, if_no rfl ?_⟩
        refine ⟨_, rfl, rfl, _, rfl, if_no rfl ?_⟩
        refine ⟨_, rfl, _, .ty "bool", .type "int", .type "bool", false, rfl, .ty "bool", tyD_ok hy2, kit_ty (show kitB "int" "bool" = some false from by decide +kernel), _, rfl, if_no rfl ?_⟩
        refine ⟨_, rfl, _, .ty "int", .type "int", .type "int", true, rfl, .ty "int", tyD_ok hy2, kit_ty (show kitB "int" "int" = some true from by decide +kernel), _, rfl, if_yes rfl ?_⟩
        refine ⟨_, rfl, _, .ty "bool", .type "int", .type "bool", false, rfl, .ty "bool", tyD_ok hy2, kit_ty (show kitB "int" "bool" = some false from by decide +kernel), _, rfl, if_no rfl ?_⟩
        refine ⟨_, rfl, _, .ty "int", .type "int", .type "int", true, rfl, .ty "int", tyD_ok hy2, kit_ty (show kitB "int" "int" = some true from by decide +kernel), _, rfl, if_no rfl ⟨_, rfl, _, rfl, rfl, _, rfl, if_no ?_ (fin _ _ _ _)⟩⟩
        rw [decide_eq_true rfl]
        rfl
      | str z =>
        have ex : x1 = .str z := hx2
        have ey : y1 = .str z := hy2
        subst ex ey
        refine ⟨_, .ty "tuple", .type "str", .type "tuple", false, rfl, .ty "tuple", tyD_ok hy2, kit_ty (show kitB "str" "tuple" = some false from by decide +kernel), _, rfl, if_no rfl ?_⟩
        refine ⟨_, rfl, rfl, _, rfl, if_no rfl ?_⟩
        refine ⟨_, rfl, _, .ty "bool", .type "str", .type "bool", false, rfl, .ty "bool", tyD_ok hy2, kit_ty (show kitB "str" "bool" = some false from by decide +kernel), _, rfl, if_no rfl ?_⟩
        refine ⟨_, rfl, _, .ty "int", .type "str", .type "int", false, rfl, .ty "int", tyD_ok hy2, kit_ty (show kitB "str" "int" = some false from by decide +kernel), _, rfl, if_no rfl ?_⟩
        refine ⟨_, rfl, _, .ty "str", .type "str", .type "str", true, rfl, .ty "str", tyD_ok hy2, kit_ty (show kitB "str" "str" = some true from by decide +kernel), _, rfl, if_yes rfl ?_⟩
        refine ⟨_, rfl, _, .ty "str", .type "str", .type "str", true, rfl, .ty "str", tyD_ok hy2, kit_ty (show kitB "str" "str" = some true from by decide +kernel), _, rfl, if_no rfl ⟨_, rfl, _, rfl, rfl, _, rfl, if_no ?_ (fin _ _ _ _)⟩⟩
        rw [decide_eq_true rfl]
        rfl
end
end Kx

/-! rules that the layer lacks: text * number, a call by keywords alone, isinstance of a caught error with fields, two except clauses with names, list(zip(a, b)) -/
namespace Kx
open PySem PySem.Spec PyProof.Rows L2
/-! ### text * number -/
def rMulS : R2 := fun x y H Q => ∃ (z : Str) (n : Nat), x = .str z ∧ y = .int n ∧ z.length ≤ 1000 ∧ n ≤ 10000 ∧ Q (.str (mk (List.replicate n (TL.tl z)).flatten)) H
theorem foldl_arr (x : Array Nat) : ∀ (n : Nat) (acc : Array Nat), ((List.replicate n x).foldl (· ++ ·) acc).toList = acc.toList ++ (List.replicate n x.toList).flatten
  | 0, acc => by simp
  | n + 1, acc => by
    rw [List.replicate_succ, List.foldl_cons, foldl_arr x n (acc ++ x), List.replicate_succ, List.flatten_cons, Array.toList_append, List.append_assoc]
theorem op_mul_str {X : Cx} : OpR X (binaryOp .Mult) rMulS := by
  intro pins s σ H x y v u Q I rx ry h
  obtain ⟨z, n, rfl, rfl, hz, hn, q⟩ := h
  obtain ⟨t, rfl⟩ := rx
  obtain ⟨t', rfl⟩ := ry
  have fl : z.length * (n : Int).toNat ≤ 10000000 := by
    rw [Int.toNat_natCast]
    exact Nat.le_trans (Nat.mul_le_mul hz hn) (by decide)
  refine PySem.P.mul_str ?_ ?_ ?_ ?_
  · rw [decide_eq_false (by omega), decide_eq_false (by omega)]
    rfl
  · intro h1 _ h2
    have h3 : (1000 : Int) ≤ (2 ^ 63 - 1) / (n : Int) := (Int.le_ediv_iff_mul_le (by omega)).mpr (by omega)
    omega
  · intro _ _
    exact decide_eq_false (by rw [show PySem.sizeLine = 16777216 from sizeLine_eq]; omega)
  · by_cases h1 : (n : Int) < 1
    · have e : n = 0 := by omega
      subst e
      rw [if_pos h1]
      exact ⟨by decide, .str _, H, I.tok _, ⟨_, rfl⟩, q⟩
    · rw [if_neg h1]
      by_cases h2 : ((n : Int) == 1 || z.length == 0) = true
      · rw [if_pos h2]
        have e : mk (List.replicate n (TL.tl z)).flatten = z := by
          rcases Bool.or_eq_true_iff.mp h2 with h | h
          · have e : n = 1 := by have := beq_iff_eq.mp h; omega
            subst e
            show mk ((TL.tl z) ++ []) = z
            rw [List.append_nil, mk_tl]
          · have e : TL.tl z = [] := List.length_eq_zero_iff.mp (by rw [← TL.len_tl]; exact beq_iff_eq.mp h)
            refine TL.ext_tl ?_
            rw [tl_mk, e]
            simp
        rw [e] at q
        exact ⟨.str z, H, I, ⟨_, rfl⟩, q⟩
      · rw [if_neg h2]
        have e : (⟨(List.replicate (n : Int).toNat z.cps).foldl (· ++ ·) #[]⟩ : Str) = mk (List.replicate n (TL.tl z)).flatten := by
          refine TL.ext_tl ?_
          rw [tl_mk, Int.toNat_natCast]
          show ((List.replicate n z.cps).foldl (· ++ ·) #[]).toList = _
          rw [foldl_arr]
          rfl
        rw [e]
        refine ⟨?_, .str _, H, I.tok _, ⟨_, rfl⟩, q⟩
        rw [mk_length, List.length_flatten, List.map_replicate, List.sum_replicate_nat, ← TL.len_tl, show PySem.sizeLine = 16777216 from sizeLine_eq]
        rw [Int.toNat_natCast, Nat.mul_comm] at fl
        omega
/-! ### f(k = v) -/
structure KCal (P : Program) (w : World) (K : PySem.W.Frag) (mg : Str → Option Value) (base : Heap) (CX : CXT) (k : Nat) (x : Str) (ps : List Str) (sp : Sp) : Prop where
  ex : ∃ (f : Addr) (fd : FuncData), FnOk P w K mg base CX k f fd ps sp ∧ mg x = some (.ref f) ∧ PySem.W.keepIn K (.ref f) = true ∧ KBn K fd ps 0 ps (fun _ ws => ws) (fun _ zs => zs)
section
variable {X : Cx} {CX : CXT} {k : Nat} {x : Str} {ps : List Str} {sp : Sp} {E : XK} {p pos : Pos} {kws : List Keyword} {tk : TA}
def tCall0K (n : Nat) (sp : Sp) (E : XK) (tk : TA) : TE := fun σ H Q => tk σ H fun zs H2 => zs.length = n ∧ sp zs H2 Q E
theorem cok (c : KCal X.prog X.w X.K X.mg X.base CX k x ps sp) (hr : Room k X.A) (hx : Passes CX X E) (hkw : PK X kws tk) (hg : Gl X x := by rfl)
    (hall : (backToKw pos (keywordEach kws X.env)).all (·.1.isSome) = true := by rfl) (hks : (backToKw pos (keywordEach kws X.env)).filterMap (·.1) = ps := by rfl) (hdb : (x == ("__debug__" : Str)) = false := by decide)
    (hpl : ((backTo pos (starEach [] X.env)).any (·.1) || (backToKw pos (keywordEach kws X.env)).any (·.1.isNone)) = false := by rfl) :
    PE X (.Call (.Name x p) [] kws pos) (tCall0K ps.length sp E tk) := by
  obtain ⟨f, fd, F, hm, hk, hb⟩ := c.ex
  refine ⟨fun pins s σ H Q I h => ?_⟩
  refine wpAny_Call_Name_kw (ld_glob I hg hm ?_ hdb)
  refine PySem.W.callWith_KW0 (h₀ := X.base) I.ok.mod.kin hk hall ?_ hpl
  refine thn (hkw.run pos pins s σ H _ I h) fun ws s2 ⟨zs, H2, I2, rz, l2, q2⟩ => ⟨I2.kIn, ?_⟩
  rw [hks]
  exact run_fnN (us := []) (vs := []) F hr hb hx I2 .nil rz rfl l2 q2
end
/-! ### isinstance(e, c), e the caught error, which has its own dict -/
/-- the class's own object -/
theorem exc_stands {K : PySem.W.Frag} {D : Addr} (C : ExcC K D) : ∃ (kl : Value) (dd : Option Addr) (cd : ClassData) (sl : Array (Option Value)), K.lookup D = some ⟨kl, dd, .cls cd, sl⟩ ∧ PySem.W.clsIn K D = some cd := by
  have some? : (PySem.W.clsIn K D).isSome = true := by
    obtain ⟨_, q, _⟩ := PySem.W.any_some C.hd
    rw [q]
    rfl
  unfold PySem.W.clsIn at some? ⊢
  split at some?
  · exact ⟨_, _, _, _, by assumption, rfl⟩
  · exact absurd some? Bool.false_ne_true
theorem kitx_excD {K : PySem.W.Frag} {x D : Addr} {ox od : Obj} (C : ExcC K D) : PySem.W.KitX K (.ref x) (.ref D) (fun h => PySem.W.InstAt h x ox D (some od)) := by
  obtain ⟨kl, dd, cd, sl, stands, isCls⟩ := exc_stands C
  exact
    { ty := fun _ _ _ inst => inst.type
      it := fun _ _ kin _ _ _ _ _ same q => by
        unfold isType loadHead
        exact wpAny_bind (wpAny_loadPart (same _ _ (kin _ _ stands)) (wpAny_pure q))
      ne := fun _ tp _ _ _ _ kin tup => by
        cases e : (Value.ref D == Value.ref tp) with
        | false => rfl
        | true =>
          rw [← Value.ref.inj (beq_iff_eq.mp e), kin _ _ stands] at tup
          cases tup
      ca := fun kin inst same => PySem.W.kx_classE kin inst C.hg C.hk C.hs (PySem.W.findObj_dataE (by rw [isCls]; rfl) C.ha C.hn C.ht) C.hm same }
def rIsX (K : PySem.W.Frag) (a : Addr) (cls : Value) (d : Option Addr) : List V → Hp → VK → Prop := fun xs H Q => ∃ (c : V) (cv : Value) (b : Bool) (D dd : Addr) (fs : List (Str × V)),
  xs = [.ref a, c] ∧ (∀ u, RelV c u → u = cv) ∧ cls = .ref D ∧ d = some dd ∧ H dd = some (.xd fs) ∧ ExcC K D ∧ PySem.W.kitOne K (.ref D) cv = some b ∧ Q (.bl b) H
theorem call_isX {X : Cx} {a : Addr} {oe : Obj} {cls : Value} {d : Option Addr} {pn : List (Addr × Obj)} (hz : Zc cls d oe) (hf : ∃ vs, oe.data = .fields vs) : CallR (X.suite a ((a, oe) :: pn)) (.builtin "isinstance") (rIsX X.K a cls d) := by
  intro pins s σ H xs us Q I r h
  obtain ⟨c, cv, b, D, dd, fs, rfl, hcv, rfl, rfl, hdd, C, e, q⟩ := h
  obtain ⟨v1, v2, rfl, r1, r2⟩ := vals2 r
  obtain rfl : v1 = Value.ref a := r1
  obtain rfl := hcv _ r2
  obtain ⟨vs, hv⟩ := hf
  obtain ⟨mA, hns, _⟩ := show ObjOk X.prog X.w H s.heap dd (.xd fs) from I.hok dd _ hdd
  obtain ⟨od, ho, _⟩ := lookIn_ns hns
  have there : s.heap.get? a = some oe := (I.pin (a, oe) (List.mem_append_left _ (List.mem_cons_self ..))).1
  have inst : PySem.W.InstAt s.heap a oe D (some od) := ⟨there, hz.1, by unfold PySem.W.notCls; rw [hv] <;> rfl, by rw [hz.2]; exact ho⟩
  exact PySem.W.kia_one (kitx_excD C) I.kIn inst e (fun z => nomatch z) fun tk => ⟨.bl b, H, I.kept (t' := tk) fun _ _ z => z, rfl, q⟩
end Kx

/-! try: .. / except X as n: .. / except Y as m: .. -/
namespace Kx
open PySem PySem.Spec PyProof.Rows L2
/-- what one named clause asks behind its suite: the name is gone -/
abbrev goneD (i : Nat) (D : Ends) : Ends := { nx := fun σ' H' => D.nx (σ'.set i none) H', rt := D.rt, bk := fun σ' H' => D.bk (σ'.set i none) H', ct := fun σ' H' => D.ct (σ'.set i none) H' }
/-- what named clauses wish of an exception of the body, one after the other -/
def wNamed (K : PySem.W.Frag) (Wout : WX) (D : Ends) : List (Value × Nat × (Addr → Value → Option Addr → TS)) → WX
  | [] => Wout
  | (c, i, ts) :: r => fun cls d σ H => ∃ b, PySem.W.exmOne K cls c = some b ∧ (b = true → ∀ a, H a = none → ts a cls d (goneD i D) (σ.set i (some (.ref a))) H) ∧ (b = false → wNamed K Wout D r cls d σ H)
inductive HdsNamed (X : Cx) : List ExceptHandler → List (Value × Nat × (Addr → Value → Option Addr → TS)) → Prop
  | nil : HdsNamed X [] []
  | cons {x n : Str} {c : Value} {i : Nat} {ts : Addr → Value → Option Addr → TS} {b₀ : Stmt} {suite : List Stmt} {np pos' : Pos} {hds : List ExceptHandler} {l : List (Value × Nat × (Addr → Value → Option Addr → TS))} (hc : Names X x c)
      (hi : X.N[i]? = some n) (hln : X.env.kindOf n = some .local)
      (hsu : ∀ (a : Addr) (oe : Obj) (cls : Value) (d : Option Addr) (pn : List (Addr × Obj)), Zc cls d oe → (∃ vs, oe.data = .fields vs) → PSs (X.suite a ((a, oe) :: pn)) (b₀ :: suite) (ts a cls d)) (r : HdsNamed X hds l) :
      HdsNamed X (.ExceptHandler (some (.Name x np)) (some n) (b₀ :: suite) pos' :: hds) ((c, i, ts) :: l)
/-- the error at a is caught: no frame of this run flies it, the run's state is as the body left it -/
structure Caught (X : Cx) (pins : List (Addr × Obj)) (W0 : Heap) (a : Addr) (τ : L2.St) (G : Hp) (cls : Value) (d : Option Addr) (now : Shared) : Prop where
  fly : HandSPX.FlyingZ W0 (X.env :: X.outer) a (Zc cls d) now.heap
  was : ∃ t : Shared, Inv X pins τ G t ∧ (∀ b o, t.heap.get? b = some o → b ∉ frs X.stack → W0.get? b = some o) ∧ t.heap.UpToSlots now.heap ∧ now.os = t.os ∧ AllBare now.gens
  new : G a = none
section
variable {X : Cx} {pins : List (Addr × Obj)} {W0 : Heap} {a : Addr} {τ : L2.St} {G : Hp} {cls : Value} {d : Option Addr} {now : Shared}
theorem Caught.inv (c : Caught X pins W0 a τ G cls d now) : Inv X pins τ G now := by
  obtain ⟨t, J, keeps, slots, same, bare⟩ := c.was
  exact J.landed keeps c.fly.1 slots same bare
/-- the flight may be noted anew -/
theorem Caught.move (c : Caught X pins W0 a τ G cls d now) {h : Heap} (f : HandSPX.FlyingZ W0 (X.env :: X.outer) a (Zc cls d) h) (u : now.heap.UpToSlots h) : Caught X pins W0 a τ G cls d { now with heap := h } := by
  obtain ⟨t, J, keeps, slots, same, bare⟩ := c.was
  exact ⟨f, ⟨t, J, keeps, slots.trans u, same, bare⟩, c.new⟩
/-- the error's object, and the state as a suite sees it -/
theorem Caught.object (c : Caught X pins W0 a τ G cls d now) (hf : X.env.frame = some X.env.locals) :
    ∃ oe : Obj, now.heap.get? a = some oe ∧ Zc cls d oe ∧ (∃ fs, oe.data = .fields fs) ∧ Inv (X.suite a ((a, oe) :: (X.pn ++ pins))) [] τ G now := by
  obtain ⟨oe, fs, there, kind, isF⟩ := c.fly.there
  have apart : a ∉ frs (X.env :: X.outer) := fun m => by
    obtain ⟨_, o2, there2, other⟩ := c.fly.2.2.1.mem m
    exact other _ (by rw [← Option.some.inj (there.symm.trans there2)]; exact isF)
  have inFrs : ∀ {e : Env} {b : Addr}, e ∈ X.env :: X.outer → e.frame = some b → b ∈ frs (X.env :: X.outer) := fun m q => List.mem_filterMap.mpr ⟨_, m, q⟩
  refine ⟨oe, there, kind, ⟨fs, isF⟩, c.inv.suite there isF c.new (fun q => apart (q ▸ inFrs (List.mem_cons_self ..) hf)) fun m => ?_⟩
  obtain ⟨e, me, qe⟩ := List.mem_filterMap.mp m
  exact apart (inFrs (List.mem_cons_of_mem _ me) qe)
/-- behind the suite the name goes, whatever the suite's end -/
theorem name_goes {q : Addr × Obj} {b : Addr} {D : Ends} {i : Nat} {n : Str} {pos : Pos} {f : Flow} {s6 : Shared} (ok : X.Ok) (hN : X.N.Nodup) (hi : X.N[i]? = some n) (hln : X.env.kindOf n = some .local) (e : SP (X.suite b (q :: (X.pn ++ pins))) [] (goneD i D) f s6) :
    wpAny (model X.prog X.w) X.A (do bindName X.env n .none; unbindBehindTheSuite X.env n pos) (fun _ s7 => SP X pins D f s7) X.xe s6 := by
  cases f with
  | ret u => exact let ⟨v, _, _, S, r, k⟩ := e; gone_ok (S.unsuite ok) hN hi hln fun _ J => ⟨v, _, _, J, r, k⟩
  | next => exact let ⟨_, _, S, k⟩ := e; gone_ok (S.unsuite ok) hN hi hln fun _ J => ⟨_, _, J, k⟩
  | brk => exact let ⟨_, _, S, k⟩ := e; gone_ok (S.unsuite ok) hN hi hln fun _ J => ⟨_, _, J, k⟩
  | cont => exact let ⟨_, _, S, k⟩ := e; gone_ok (S.unsuite ok) hN hi hln fun _ J => ⟨_, _, J, k⟩
/-- no clause is left: the error flies on -/
theorem Caught.on {Wout : WX} {D : Ends} (c : Caught X pins W0 a τ G cls d now) (hs : X.stack = X.env :: X.outer) (hf : X.env.frame = some X.env.locals) (tk : Takes X Wout) (w : Wout cls d τ G) :
    wpAny (model X.prog X.w) X.A (handleBy (.ref a) X.env []) (SP X pins D) X.xe now := by
  have leave : wpAny (model X.prog X.w) X.A (setFlight (.ref a) X.env.frame) (fun _ s4 => wpAny (model X.prog X.w) X.A (throw (.ref a) : Sem Flow) (SP X pins D) X.xe s4) X.xe now := by
    obtain ⟨t, J, keeps, slots, same, bare⟩ := c.was
    rw [hf]
    refine HandSPX.setFlight_upZ c.fly fun h held u => wpAny_throw (tk _ _ ⟨a, W0, t, pins, τ, G, cls, d, rfl, J, keeps, slots.trans u, ?_, c.new, same, bare, w⟩)
    rw [hs]
    exact .inr (.inr held)
  obtain ⟨_, _, _, oe, fs, T, _, _, there, _, isF, field, _⟩ := id c.fly
  have noNone : (Value.ref T == Value.none) = false := rfl
  refine wpAny_handleBy_nil ?_
  unfold PySem.passOn
  refine wpAny_bind (wpAny_field there isF field ?_)
  rw [noNone, if_neg Bool.false_ne_true]
  first
    | exact wpAny_bind (wpAny_pure (wpAny_bind leave))
    | exact wpAny_bind leave
/-- the clauses, one after the other -/
theorem clauses {Wout : WX} {D : Ends} {hds : List ExceptHandler} {l : List (Value × Nat × (Addr → Value → Option Addr → TS))} (hk : HdsNamed X hds l) (ok : X.Ok) (hs : X.stack = X.env :: X.outer) (hf : X.env.frame = some X.env.locals) (hN : X.N.Nodup) (tk : Takes X Wout)
    (c : Caught X pins W0 a τ G cls d now) (w : wNamed X.K Wout D l cls d τ G) : wpAny (model X.prog X.w) X.A (handleBy (.ref a) X.env hds) (SP X pins D) X.xe now := by
  induction hk with
  | nil => exact c.on hs hf tk w
  | @cons x n cv i ts b₀ suite np pos' hds' l' named hi hln suiteOk _ rest =>
    obtain ⟨b, answer, taken, left⟩ := w
    obtain ⟨oe, there, kind, _, S⟩ := c.object hf
    have typ : PySem.W.Looks (model X.prog X.w) now.heap (typeOf (.ref a)) cls := fun _ _ _ _ same q => wpAny_typeOf_ref (same _ _ there) (kind.1.symm ▸ q)
    have asks := PySem.W.exm_one (M := model X.prog X.w) c.inv.kIn typ answer
    have name : ∀ {Q E : Value → Shared → Prop}, Q cv now → wpAny (model X.prog X.w) (X.A.mark (some (.ref a))) (eval (.Name x np) X.env) Q E now := fun q =>
      match named with
      | ⟨g, dbg, .inl own⟩ => ld_glob (X := X.suite a ((a, oe) :: (X.pn ++ pins))) S g own q dbg
      | ⟨g, dbg, .inr ⟨m, v, nn⟩⟩ => ld_blt (X := X.suite a ((a, oe) :: (X.pn ++ pins))) S g m v q nn dbg
    refine wpAny_handleBy_cons (codeAny_handlers_test (name (asks.here ?_))) (by rintro ⟨⟩)
    cases b with
    | false => exact rest (left rfl)
    | true =>
      refine codeAny_handlers_suite_as (HandSPX.lands_againZ c.fly fun h f u => ?_)
      obtain ⟨oe2, _, kind2, isF2, S2⟩ := (c.move f u).object hf
      refine store_ok (X := X.suite a ((a, oe2) :: (X.pn ++ pins))) (v := .ref a) S2 hN hi (.inl hln) rfl (fun s5 S5 => ?_) (.inr hln)
      exact wpAny_mono ((suiteOk a oe2 cls d (X.pn ++ pins) kind2 isF2).run [] s5 _ G _ S5 (taken rfl a c.new)) (fun _ _ e => name_goes ok hN hi hln e) fun _ _ no => no.elim
end
section
variable {X : Cx} {body : List Stmt} {h₀ : ExceptHandler} {hds : List ExceptHandler} {l : List (Value × Nat × (Addr → Value → Option Addr → TS))} {pos : Pos} {tb : WX → TS} {Wout : WX}
/-- try with named clauses -/
theorem ps_try_named (hs : X.stack = X.env :: X.outer) (hf : X.env.frame = some X.env.locals) (hN : X.N.Nodup) (tk : Takes X Wout)
    (hb : ∀ (W : WX) (pn : List (Addr × Obj)) (xe : Value → Shared → Prop), Takes (X.tr pn xe) W → PassesOwn (model X.prog X.w) X.A X.env xe → PSs (X.tr pn xe) body (tb W))
    (hh : HdsNamed X (h₀ :: hds) l) : PS X (.Try body (h₀ :: hds) [] [] pos) (fun D σ H => tb (wNamed X.K Wout D l) D σ H) :=
  ⟨fun pins s σ H D I want => by
    have ok := I.ok
    have lands : Takes (X.tr (X.pn ++ pins) (fun e s₁ => wpAny (model X.prog X.w) X.A (noteFrame e X.env) (fun _ s₂ => wpAny (model X.prog X.w) X.A (setFlight e none) (fun _ s₃ => wpAny (model X.prog X.w) X.A (handleBy e X.env (h₀ :: hds)) (SP X pins D) X.xe s₃) X.xe s₂) X.xe s₁)) (wNamed X.K Wout D l) := by
      rintro _ s' ⟨a, W0, t, pins', τ, G, cls, d, rfl, J, keeps, slots, sky, free, same, bare, w⟩
      refine Sky.land Zc.steady (ok.frames.trans (congrArg some hs)) hf (hs ▸ sky) fun h f u => ?_
      exact clauses hh ok hs hf hN tk ⟨f, ⟨t, J.ofTry ok, keeps, slots.trans u, same, bare⟩, free⟩ w
    refine wpAny_Try_except (wpAny_mono ((hb _ _ _ lands PassesOwn.looking).run [] s σ H D (I.toTry _) want) (fun f s1 e => ?_) fun _ _ e => e)
    cases f with
    | next => exact let ⟨_, _, J, k⟩ := e; wpAny_execs_nil ⟨_, _, J.ofTry ok, k⟩
    | brk => exact let ⟨_, _, J, k⟩ := e; ⟨_, _, J.ofTry ok, k⟩
    | cont => exact let ⟨_, _, J, k⟩ := e; ⟨_, _, J.ofTry ok, k⟩
    | ret u => exact let ⟨_, _, _, J, r, k⟩ := e; ⟨_, _, _, J.ofTry ok, r, k⟩⟩
end
end Kx

/-! list(zip(a, b)), a and b lists -/
namespace Kx
open PySem PySem.Spec PySem.W PySem.Calls PyProof.Rows PyProof.V
/-- a list's object -/
def lsO (acc : Array Value) (c : Nat) : Obj := { cls := .type "list", data := .seq acc c }
/-- a zip at I, told by St while it hands out n objects (as: those handed out), by En behind the last; S: the list being made, which is no part of it -/
structure Hands (prog : Program) (w : World) (I S : Addr) (n : Nat) (St En : List Addr → Heap → Prop) : Prop where
  kind : ∀ {as : List Addr} {h : Heap}, St as h → ∃ o, h.get? I = some o ∧ o.cls = .type "zip"
  self : ∀ {A : Around} {Q E : Value → Shared → Prop} {s : Shared}, St [] s.heap → Q (.ref I) s → wpAny (model prog w) A (pyIter (.ref I)) Q E s
  item : ∀ {A : Around} {as : List Addr} {Q : Option Value → Shared → Prop} {E : Value → Shared → Prop} {s : Shared}, as.length < n → S < s.heap.objs.size → St as s.heap →
    (∀ h a, St (as ++ [a]) h → (∀ o, s.heap.get? S = some o → h.get? S = some o) → Q (some (.ref a)) { s with heap := h }) → wpAny (model prog w) A (pyNext (.ref I)) Q E s
  last : ∀ {A : Around} {as : List Addr} {Q : Option Value → Shared → Prop} {E : Value → Shared → Prop} {s : Shared}, A.handled = none → as.length = n → St as s.heap →
    (∀ h, En as h → (∀ o, s.heap.get? S = some o → h.get? S = some o) → Q none { s with heap := h }) → wpAny (model prog w) A (pyNext (.ref I)) Q E s
  calm : ∀ {as : List Addr} {h h' : Heap}, St as h → (∀ b o, b ≠ S → h.get? b = some o → h'.get? b = some o) → St as h'
section
variable {prog : Program} {w : World} {I S : Addr} {n : Nat} {St En : List Addr → Heap → Prop}
/-- a change at S alone -/
theorem at_S (f : Array Value → Array Value) (h : Heap) : ∀ b o, b ≠ S → h.get? b = some o → (h.update S (Obj.mapSeq f)).get? b = some o :=
  fun _ _ ne e => (Heap.get?_update_other h _ (fun z => ne z.symm)).trans e
/-- what is told of the end -/
abbrev Done (S : Addr) (n : Nat) (En : List Addr → Heap → Prop) (res : Value) (R : Result → Shared → Prop) (s : Shared) : Prop :=
  ∀ h as acc c tk, En as h → h.get? S = some (lsO acc c) → acc.toList = as.map Value.ref → as.length = n → R (.ok (.ret res)) { s with heap := h, toks := tk }
theorem fill (V : Hands prog w I S n St En) (hn : n ≤ sizeLine) {A : Around} (hA : A.handled = none) {res : Value} {R : Result → Shared → Prop} {s : Shared} (end_ : Done S n En res R s) :
    ∀ (k : Nat) {as : List Addr} {acc : Array Value} {c tk : Nat} {h : Heap}, k + as.length = n → St as h → h.get? S = some (lsO acc c) → acc.toList = as.map Value.ref →
      codeAny (model prog w) A (.builtin "list.extend.loop" ⟨[.ref S, .ref I, res], []⟩) R { s with heap := h, toks := tk }
  | 0, as, acc, c, tk, h, hk, st, hS, eq => by
    refine codeAny_builtin PySem.F.entry_extend_loop (Around.under_plainId PySem.F.plain_extend_loop _ ▸ ?_)
    exact wpAny_bind (V.last (A := A.in1) hA (by omega) st fun h' en keep => wpAny_pure (end_ h' as acc c tk en (keep _ hS) eq (by omega)))
  | k + 1, as, acc, c, tk, h, hk, st, hS, eq => by
    have size : acc.size = as.length := by
      have := congrArg List.length eq
      rwa [Array.length_toList, List.length_map] at this
    refine codeAny_builtin PySem.F.entry_extend_loop (Around.under_plainId PySem.F.plain_extend_loop _ ▸ ?_)
    refine wpAny_bind (V.item (A := A.in1) (by omega) (Heap.lt_size hS) st fun h' a st' keep => ?_)
    have hS' := keep _ hS
    have more : (acc.push (.ref a)).size = as.length + 1 := by rw [Array.size_push, size]
    have eq' : (acc.push (.ref a)).toList = (as ++ [a]).map Value.ref := by rw [Array.toList_push, eq, List.map_append]; rfl
    have len' : (as ++ [a]).length = as.length + 1 := List.length_append
    refine wpAny_bind (wpAny_updateSeq hS' rfl (wpAny_pure ⟨plainId_quiet PySem.F.plain_extend_loop _, ?_⟩) (by rw [size]; omega) (Nat.le_trans (Nat.le_of_eq more) (by omega)))
    exact fill V hn hA end_ k (by omega) (V.calm st' (at_S _ h')) (Heap.get?_update_self _ hS' rfl) eq'
theorem zip_has_no (x : Str) (h : x = "__len__" ∨ x = "__length_hint__") : typeLookup (.type "zip") x = pure none := by
  rcases h with rfl | rfl
  · exact am_miss_of_fast (by decide +kernel)
  · exact am_miss_of_fast (by decide +kernel)
/-- list.extend of it, the list empty -/
theorem pour (V : Hands prog w I S n St En) (hn : n ≤ sizeLine) {A : Around} (hA : A.handled = none) {res : Value} {R : Result → Shared → Prop} {s : Shared} {c : Nat} (end_ : Done S n En res R s) (ne : I ≠ S) (st : St [] s.heap) (hS : s.heap.get? S = some (lsO #[] c)) :
    wpAny (model prog w) A.in1 (Builtin.List.listExtendWith (.ref S) (.ref I) res) (fun fin s' => match fin with
      | .done f => R (.ok f) s'
      | .again c' => c'.quiet = true ∧ codeAny (model prog w) A c' R s') (fun e s' => R (.error e) s') s := by
  obtain ⟨oI, there, isZip⟩ := V.kind st
  have ty : s.TypeIs (.ref I) "zip" := ⟨oI, there, isZip⟩
  have other : (Builtin.List.listSameRef (.ref S) (.ref I) || Value.type "zip" == Value.type "list" || Value.type "zip" == Value.type "tuple") = false := by
    have e : Builtin.List.listSameRef (.ref S) (.ref I) = false := beq_eq_false_iff_ne.mpr fun z => ne z.symm
    rw [e]
    rfl
  have run : ∀ {h : Heap} {c : Nat} {tk : Nat}, St [] h → h.get? S = some (lsO #[] c) → codeAny (model prog w) A (.builtin "list.extend.loop" ⟨[.ref S, .ref I, res], []⟩) R { s with heap := h, toks := tk } := fun a b => fill V hn hA end_ n rfl a b rfl
  unfold Builtin.List.listExtendWith
  refine wpAny_bind (wpAny_typeOf ty ?_)
  simp only [other, Bool.false_eq_true, if_false]
  refine wpAny_bind (V.self st (wpAny_bind (wpAny_holding ?_)))
  unfold Builtin.List.listLengthHint
  refine wpAny_bind (wpAny_specialOf ty (zip_has_no _ (.inl rfl)) ?_)
  refine wpAny_bind (wpAny_specialOf ty (zip_has_no _ (.inr rfl)) (wpAny_pure ?_))
  refine wpAny_ite_split (fun _ => wpAny_bind (wpAny_rule (wpAny_bind ?_))) fun _ => wpAny_pure ⟨plainId_quiet PySem.F.plain_extend_loop _, run st hS⟩
  have one := Heap.get?_update_self (Obj.mapSeq (·.push Value.none)) hS rfl
  have two := Heap.get?_update_self (Obj.mapSeq (·.pop)) one rfl
  refine wpAny_bind (wpAny_updateSeq hS rfl (wpAny_updateSeq (hz := by seq_fits) one rfl (wpAny_pure ⟨plainId_quiet PySem.F.plain_extend_loop _, ?_⟩)))
  exact run (V.calm (V.calm st (at_S _ _)) (at_S _ _)) two
/-- list(it) -/
theorem list_from {A : Around} {Q E : Value → Shared → Prop} {s : Shared} (V : Hands prog w I s.heap.objs.size n St En) (hn : n ≤ sizeLine) (hA : A.handled = none) (ne : I ≠ s.heap.objs.size) (st : St [] s.heap)
    (end_ : ∀ h as acc c tk, En as h → h.get? s.heap.objs.size = some (lsO acc c) → acc.toList = as.map Value.ref → as.length = n → Q (.ref s.heap.objs.size) { s with heap := h, toks := tk }) :
    wpAny (model prog w) A (call (.type "list") [.ref I]) Q E s := by
  refine callType_codes (Q₁ := fun v s1 => v = .ref s.heap.objs.size ∧ s1 = { s with heap := s.heap.push (lsO #[] 0) }) PySem.F.called_list (PySem.F.typeCall_list_1 _) PySem.F.entry_list_init (code_list_new _ ⟨rfl, rfl⟩) ?_
  rintro _ _ ⟨rfl, rfl⟩
  have born : (s.heap.push (lsO #[] 0)).get? s.heap.objs.size = some (lsO #[] 0) := Heap.get?_push_size _ rfl
  have st1 : St [] (s.heap.push (lsO #[] 0)) := V.calm st fun _ _ _ e => Heap.get?_push_of_some _ e
  refine ⟨⟨_, born, rfl⟩, PySem.F.args_list_init_2 _ _, ?_⟩
  have emptied := Heap.get?_update_self (Obj.mapSeq fun _ => (#[] : Array Value)) born rfl
  refine wpAny_bind (wpAny_bind (wpAny_seqItems born rfl (wpAny_pure ?_)))
  refine wpAny_bind (wpAny_updateSeq born rfl (wpAny_bind (wpAny_letGo ?_)))
  refine pour (A := A.in1) V hn hA (fun h as acc c tk en e1 e2 e3 => ?_) ne (V.calm st1 (at_S _ _)) emptied
  exact ⟨rfl, end_ h as acc c tk en e1 e2 e3⟩
end
/-! ### a zip of two lists -/
/-- behind the items that as hold: h0 is the heap as the list was begun -/
structure ZAt (h0 : Heap) (z TI TO i1 i2 l1 l2 S : Addr) (xs ys : Array Value) (as : List Addr) (h : Heap) : Prop where
  src : IsPair h TI (.ref i1) (.ref i2)
  one : h.IsListIter i1 l1 as.length
  two : h.IsListIter i2 l2 as.length
  lone : h.IsList l1 xs
  ltwo : h.IsList l2 ys
  zip : (IsZip h z TI TO .none ∧ ∃ a b, IsPair h TO a b) ∨ as ≠ [] ∧ ∃ T f oT, IsZipHeld h z TI TO T f ∧ h.get? T = some oT ∧ T ∉ [z, i1, i2, S]
  old : ∀ b o, b ∉ [S, z, TO, i1, i2] → h0.get? b = some o → h.get? b = some o
  rise : as.Pairwise (· < ·)
  past : ∀ a ∈ as, S < a
  pairs : ∀ (j : Nat) (a : Addr), as[j]? = some a → ∃ x y, xs[j]? = some x ∧ ys[j]? = some y ∧ IsPair h a x y
/-- .. and behind the last -/
structure ZEnd (h0 : Heap) (z TO i1 i2 S : Addr) (xs ys : Array Value) (as : List Addr) (h : Heap) : Prop where
  old : ∀ b o, b ∉ [S, z, TO, i1, i2] → h0.get? b = some o → h.get? b = some o
  rise : as.Pairwise (· < ·)
  past : ∀ a ∈ as, S < a
  pairs : ∀ (j : Nat) (a : Addr), as[j]? = some a → ∃ x y, xs[j]? = some x ∧ ys[j]? = some y ∧ IsPair h a x y
theorem out4 {b p q r t : Addr} (h : b ∉ [p, q, r, t]) : b ≠ p ∧ b ≠ q ∧ b ≠ r ∧ b ≠ t := by
  simp only [List.mem_cons, List.not_mem_nil, or_false, not_or] at h
  exact h
theorem out5 {b p q r t u : Addr} (h : b ∉ [p, q, r, t, u]) : b ≠ p ∧ b ≠ q ∧ b ≠ r ∧ b ≠ t ∧ b ≠ u := by
  simp only [List.mem_cons, List.not_mem_nil, or_false, not_or] at h
  exact h
section
variable {prog : Program} {w : World} {h0 : Heap} {z TI TO i1 i2 l1 l2 S : Addr} {xs ys : Array Value}
/-- S stands behind all of the zip's own objects -/
structure Before (z TI TO i1 i2 l1 l2 S : Addr) : Prop where
  z : z < S
  TI : TI < S
  TO : TO < S
  i1 : i1 < S
  i2 : i2 < S
  l1 : l1 < S
  l2 : l2 < S
theorem ZAt.pick {as : List Addr} {h : Heap} (P : ZAt h0 z TI TO i1 i2 l1 l2 S xs ys as h) (B : Before z TI TO i1 i2 l1 l2 S) {h' : Heap} (k : ∀ b o, b ≠ S → h.get? b = some o → h'.get? b = some o) : ZAt h0 z TI TO i1 i2 l1 l2 S xs ys as h' where
  src := k _ _ (Nat.ne_of_lt B.TI) P.src
  one := P.one.at fun o => k _ o (Nat.ne_of_lt B.i1)
  two := P.two.at fun o => k _ o (Nat.ne_of_lt B.i2)
  lone := P.lone.at fun o => k _ o (Nat.ne_of_lt B.l1)
  ltwo := P.ltwo.at fun o => k _ o (Nat.ne_of_lt B.l2)
  zip := P.zip.imp (fun ⟨q, a, b, p⟩ => ⟨k _ _ (Nat.ne_of_lt B.z) q, a, b, k _ _ (Nat.ne_of_lt B.TO) p⟩) fun ⟨some_, T, f, oT, q, t, out⟩ => ⟨some_, T, f, oT, k _ _ (Nat.ne_of_lt B.z) q, k _ _ (out4 out).2.2.2 t, out⟩
  old := fun b o out e => k b o (out5 out).1 (P.old b o out e)
  rise := P.rise
  past := P.past
  pairs := fun j a e => let ⟨x, y, e1, e2, p⟩ := P.pairs j a e; ⟨x, y, e1, e2, k _ _ (Nat.ne_of_gt (P.past a (List.mem_of_getElem? e))) p⟩
theorem zip_hands (D : ZipApart z TI TO i1 i2 l1 l2) (B : Before z TI TO i1 i2 l1 l2 S) (le : xs.size = ys.size) : Hands prog w z S xs.size (ZAt h0 z TI TO i1 i2 l1 l2 S xs ys) (ZEnd h0 z TO i1 i2 S xs ys) where
  kind := fun P => by
    rcases P.zip with ⟨q, _⟩ | ⟨_, _, _, _, q, _⟩
    · exact ⟨_, q, rfl⟩
    · exact ⟨_, q, rfl⟩
  calm := fun P k => P.pick B k
  self := fun P q => by
    rcases P.zip with ⟨e, _⟩ | ⟨no, _⟩
    · exact wpAny_pyIter_zip e q
    · exact absurd rfl no
  item := fun {A as Q E s} lt hS P q => by
    obtain ⟨x, ex⟩ : ∃ x, xs[as.length]? = some x := ⟨_, Array.getElem?_eq_getElem lt⟩
    obtain ⟨y, ey⟩ : ∃ y, ys[as.length]? = some y := ⟨_, Array.getElem?_eq_getElem (by omega)⟩
    have fresh : ∀ {b : Addr}, b < S → s.heap.objs.size ≠ b := fun h => Nat.ne_of_gt (Nat.lt_trans h hS)
    have go : ∀ h', IsPair h' TI (.ref i1) (.ref i2) → h'.IsListIter i1 l1 (as.length + 1) → h'.IsListIter i2 l2 (as.length + 1) → h'.IsList l1 xs → h'.IsList l2 ys →
        (∃ T f oT, IsZipHeld h' z TI TO T f ∧ h'.get? T = some oT ∧ T ∉ [z, i1, i2, S]) → IsPair h' s.heap.objs.size x y → (∀ c o, c ≠ z → c ≠ TO → c ≠ i1 → c ≠ i2 → s.heap.get? c = some o → h'.get? c = some o) → Q (some (.ref s.heap.objs.size)) { s with heap := h' } := fun h' a1 a2 a3 a4 a5 a6 a7 k => by
      have l1' : (as ++ [s.heap.objs.size]).length = as.length + 1 := List.length_append
      have inS : ∀ a ∈ as, a < s.heap.objs.size := fun a m => by
        obtain ⟨j, e⟩ := List.mem_iff_getElem?.mp m
        obtain ⟨_, _, _, _, p⟩ := P.pairs j a e
        exact Heap.lt_size p
      have far : ∀ {a b : Addr}, a ∈ as → b < S → a ≠ b := fun m lt => Nat.ne_of_gt (Nat.lt_trans lt (P.past _ m))
      refine q h' s.heap.objs.size ⟨a1, l1'.symm ▸ a2, l1'.symm ▸ a3, a4, a5, .inr ⟨List.append_ne_nil_of_right_ne_nil _ (List.cons_ne_nil _ _), a6⟩, fun b o out e => ?_, ?_, fun a m => ?_, fun j a e => ?_⟩ fun o e => k S o (Nat.ne_of_gt B.z) (Nat.ne_of_gt B.TO) (Nat.ne_of_gt B.i1) (Nat.ne_of_gt B.i2) e
      · have n := out5 out
        exact k b o n.2.1 n.2.2.1 n.2.2.2.1 n.2.2.2.2 (P.old b o out e)
      · exact List.pairwise_append.mpr ⟨P.rise, List.pairwise_cons.mpr ⟨fun _ m => (nomatch m), .nil⟩, fun a m b m' => List.mem_singleton.mp m' ▸ inS a m⟩
      · rcases List.mem_append.mp m with m | m
        · exact P.past a m
        · exact List.mem_singleton.mp m ▸ hS
      · by_cases hj : j < as.length
        · rw [List.getElem?_append_left hj] at e
          obtain ⟨x', y', e1, e2, p⟩ := P.pairs j a e
          have m := List.mem_of_getElem? e
          exact ⟨x', y', e1, e2, k a _ (far m B.z) (far m B.TO) (far m B.i1) (far m B.i2) p⟩
        · have hj' : j = as.length := by
            have := (List.getElem?_eq_some_iff.mp e).1
            omega
          subst hj'
          rw [List.getElem?_append_right (Nat.le_refl _), Nat.sub_self] at e
          exact ⟨x, y, ex, ey, Option.some.inj e ▸ a7⟩
    rcases P.zip with ⟨q0, a, b, p⟩ | ⟨_, T, f, oT, q0, t, out⟩
    · refine wpAny_pyNext_zip_item D q0 P.src p P.one P.two P.lone P.ltwo ex ey fun h' b1 _ b3 b4 b5 _ k => ?_
      refine go h' (k _ _ D.TIz D.TITO D.TIi1 D.TIi2 P.src) b3 b4 (P.lone.at fun o => k _ o D.l1z D.l1TO D.l1i1 D.l1i2) (P.ltwo.at fun o => k _ o D.l2z D.l2TO D.l2i1 D.l2i2) ⟨_, _, _, b1, b5, fun m => ?_⟩ b5 k
      simp only [List.mem_cons, List.not_mem_nil, or_false] at m
      rcases m with m | m | m | m
      · exact fresh B.z m
      · exact fresh B.i1 m
      · exact fresh B.i2 m
      · exact Nat.ne_of_gt hS m
    · have n := out4 out
      refine wpAny_pyNext_zip_item_held D q0 t P.src P.one P.two P.lone P.ltwo ex ey fun h' b1 b3 b4 b5 _ k => ?_
      exact go h' (k _ _ D.TIz D.TIi1 D.TIi2 P.src) b3 b4 (P.lone.at fun o => k _ o D.l1z D.l1i1 D.l1i2) (P.ltwo.at fun o => k _ o D.l2z D.l2i1 D.l2i2) ⟨T, _, oT, b1, k _ _ n.1 n.2.1 n.2.2.1 t, out⟩ b5 fun c o c1 _ c3 c4 e => k c o c1 c3 c4 e
  last := fun {A as Q E s} hA len P q => by
    have none? : xs[as.length]? = none := Array.getElem?_eq_none (Nat.le_of_eq len.symm)
    have go : ∀ h', (∀ c o, c ≠ z → c ≠ TO → c ≠ i1 → c ≠ i2 → s.heap.get? c = some o → h'.get? c = some o) → Q none { s with heap := h' } := fun h' k => by
      have far : ∀ {a b : Addr}, a ∈ as → b < S → a ≠ b := fun m lt => Nat.ne_of_gt (Nat.lt_trans lt (P.past _ m))
      refine q h' ⟨fun b o out e => ?_, P.rise, P.past, fun j a e => ?_⟩ fun o e => k S o (Nat.ne_of_gt B.z) (Nat.ne_of_gt B.TO) (Nat.ne_of_gt B.i1) (Nat.ne_of_gt B.i2) e
      · have n := out5 out
        exact k b o n.2.1 n.2.2.1 n.2.2.2.1 n.2.2.2.2 (P.old b o out e)
      · obtain ⟨x, y, e1, e2, p⟩ := P.pairs j a e
        have m := List.mem_of_getElem? e
        exact ⟨x, y, e1, e2, k a _ (far m B.z) (far m B.TO) (far m B.i1) (far m B.i2) p⟩
    rcases P.zip with ⟨q0, a, b, p⟩ | ⟨_, T, f, oT, q0, t, out⟩
    · exact wpAny_pyNext_zip_end hA D q0 P.src p P.one P.two P.lone P.ltwo (.inl none?) go
    · exact wpAny_pyNext_zip_end_held hA D q0 t P.src P.one P.two P.lone P.ltwo (.inl none?) fun h' k => go h' fun c o c1 _ c3 c4 e => k c o c1 c3 c4 e
end
end Kx
namespace Kx
open PySem PySem.Spec PyProof.Rows L2
/-! ### over the abstract heap -/
/-- the state grows by objects that are new and stand as they are told -/
theorem inv_grown {X : Cx} {pins : List (Addr × Obj)} {σ : L2.St} {H H' : Hp} {s : Shared} {h' : Heap} {tk : Nat} (I : Inv X pins σ H s) (keep : ∀ b o, s.heap.get? b = some o → h'.get? b = some o) (more : Same H H')
    (new : ∀ b o, H' b = some o → H b = some o ∨ (s.heap.objs.size ≤ b ∧ ObjOk X.prog X.w H' h' b o)) : Inv X pins σ H' { s with heap := h', toks := tk } := by
  have still : ∀ {b o}, s.heap.get? b = some o → H b = none → H' b = none := fun {b o} e n => by
    cases q : H' b with
    | none => rfl
    | some u =>
      rcases new b u q with q | ⟨far_, _⟩
      · rw [n] at q
        cases q
      · exact absurd (Heap.lt_size e) (Nat.not_lt.mpr far_)
  refine I.call' (ch := []) rfl
    { keep := fun b o e _ _ _ => keep b o e
      slot := fun b o e _ _ _ => ⟨_, keep b o e⟩
      free := fun _ _ e n _ => still e n
      there := fun b o e _ => ⟨_, keep b o e⟩
      tups := fun b _ => more b _
      frzs := fun b _ _ => more b _
      tbls := fun b ps e => ⟨#[], by simpa using more b _ e⟩ } (fun b o e => ?_) I.bare (fun _ m => nomatch m)
  rcases new b o e with q | ⟨_, ok⟩
  · exact (I.hok b o q).stay (fun c v _ => keep c v) (fun c => more c _) fun c _ => more c _
  · exact ok
/-- what the pairs are, by their addresses -/
def pairAt (as : List Addr) (ps : List (V × V)) (b : Addr) : Option HO := ((as.zip ps).lookup b).map fun p => .tup [p.1, p.2]
theorem lookup_in {α β : Type} [BEq α] [LawfulBEq α] : ∀ {as : List α} {ps : List β} {b : α} {p : β}, (as.zip ps).lookup b = some p → ∃ j : Nat, as[j]? = some b ∧ ps[j]? = some p
  | [], _, _, _, h => by cases h
  | _ :: _, [], _, _, h => by cases h
  | a :: as, p :: ps, b, q, h => by
    rw [List.zip_cons_cons, List.lookup_cons] at h
    split at h
    · rename_i e
      exact ⟨0, by rw [eq_of_beq e]; rfl, h⟩
    · obtain ⟨j, e1, e2⟩ := lookup_in h
      exact ⟨j + 1, e1, e2⟩
theorem lookup_of {α β : Type} [BEq α] [LawfulBEq α] : ∀ {as : List α} {ps : List β} {b : α} {p : β} (j : Nat), as.Nodup → as[j]? = some b → ps[j]? = some p → (as.zip ps).lookup b = some p
  | [], _, _, _, j, _, h, _ => by simp at h
  | _ :: _, [], _, _, j, _, _, h => by simp at h
  | a :: as, p :: ps, b, q, 0, _, h, k => by
    have e : a = b := Option.some.inj h
    rw [List.zip_cons_cons, List.lookup_cons, e, beq_self_eq_true]
    exact k
  | a :: as, p :: ps, b, q, j + 1, nd, h, k => by
    have ne : (b == a) = false := beq_eq_false_iff_ne.mpr fun e => (List.nodup_cons.mp nd).1 (e ▸ List.mem_of_getElem? (show as[j]? = some b from h))
    rw [List.zip_cons_cons, List.lookup_cons, ne]
    exact lookup_of j (List.nodup_cons.mp nd).2 h k
theorem pair_all {α β : Type} {F : α → β → Prop} : ∀ {l : List α} {m : List β}, l.length = m.length → (∀ (j : Nat) (x : α) (y : β), l[j]? = some x → m[j]? = some y → F x y) → Paired F l m
  | [], [], _, _ => .nil
  | [], _ :: _, h, _ => by cases h
  | _ :: _, [], h, _ => by cases h
  | _ :: _, _ :: _, h, k => .cons (k 0 _ _ rfl rfl) (pair_all (Nat.succ.inj h) fun j x y e1 e2 => k (j + 1) x y e1 e2)
theorem pairs_laid {X : Cx} {pins : List (Addr × Obj)} {σ : L2.St} {H : Hp} {s : Shared} {h' h0 : Heap} {tk : Nat} {xs ys : List V} {us ws : List Value} {acc : Array Value} {c : Nat} {z TO i1 i2 S : Addr} {as : List Addr} (I : Inv X pins σ H s) (hz : xs.length ≤ sizeLine) (rx : Vals xs us) (ry : Vals ys ws) (le : xs.length = ys.length)
    (keep : ∀ b o, s.heap.get? b = some o → h'.get? b = some o) (lS : s.heap.objs.size ≤ S) (hS : h'.get? S = some (lsO acc c)) (len : as.length = us.length) (en : ZEnd h0 z TO i1 i2 S us.toArray ws.toArray as h') (eq : acc.toList = as.map Value.ref) :
    ∃ H' : Hp, Same H H' ∧ H S = none ∧ H' S = some (.lst (as.map V.ref)) ∧ Paired (fun (t : Addr) (q : V × V) => H' t = some (.tup [q.1, q.2])) as (xs.zip ys) ∧ Inv X pins σ H' { s with heap := h', toks := tk } := by
  have lx := rx.length
  have nd : as.Nodup := en.rise.imp fun h => Nat.ne_of_lt h
  have offS : S ∉ as := fun m => Nat.lt_irrefl S (en.past S m)
  have high : ∀ {t}, t ∈ as → s.heap.objs.size ≤ t := fun m => Nat.le_trans lS (Nat.le_of_lt (en.past _ m))
  have atAs : ∀ {b p}, (as.zip (xs.zip ys)).lookup b = some p → b ∈ as := fun e => let ⟨_, e1, _⟩ := lookup_in e; List.mem_of_getElem? e1
  let H' : Hp := fun b => if b = S then some (.lst (as.map V.ref)) else match pairAt as (xs.zip ys) b with
    | some o => some o
    | none => H b
  have onS : H' S = some (.lst (as.map V.ref)) := if_pos rfl
  have split_ : ∀ {b o}, b ≠ S → H' b = some o → (∃ p, (as.zip (xs.zip ys)).lookup b = some p ∧ o = .tup [p.1, p.2]) ∨ H b = some o := fun {b o} ne e => by
    have e' : (match pairAt as (xs.zip ys) b with | some o => some o | none => H b) = some o := (if_neg ne).symm.trans e
    unfold pairAt at e'
    cases q : (as.zip (xs.zip ys)).lookup b with
    | none =>
      rw [q] at e'
      exact .inr e'
    | some p =>
      rw [q] at e'
      exact .inl ⟨p, rfl, (Option.some.inj e').symm⟩
  have onPair : ∀ {b p}, (as.zip (xs.zip ys)).lookup b = some p → H' b = some (.tup [p.1, p.2]) := fun {b p} e => by
    have ne : b ≠ S := fun q => offS (q ▸ atAs e)
    show (if b = S then _ else match pairAt as (xs.zip ys) b with | some o => some o | none => H b) = _
    rw [if_neg ne]
    unfold pairAt
    rw [e]
    rfl
  have more : Same H H' := fun b o e => by
    have low : b < s.heap.objs.size := I.hok.lt e
    have ne : b ≠ S := Nat.ne_of_lt (Nat.lt_of_lt_of_le low lS)
    show (if b = S then _ else match pairAt as (xs.zip ys) b with | some o => some o | none => H b) = _
    rw [if_neg ne]
    unfold pairAt
    cases q : (as.zip (xs.zip ys)).lookup b with
    | none => exact e
    | some p => exact absurd low (Nat.not_lt.mpr (high (atAs q)))
  refine ⟨H', more, I.hok.fresh lS, onS, pair_all (by rw [List.length_zip, ← le, Nat.min_self]; omega) fun j t p e1 e2 => onPair (lookup_of j nd e1 e2), inv_grown I keep more fun b o e => ?_⟩
  by_cases ne : b = S
  · subst ne
    obtain rfl := Option.some.inj (onS.symm.trans e)
    refine .inr ⟨lS, by rw [List.length_map]; omega, acc.toList, c, eq ▸ LiI.vals_refs as, ?_⟩
    rw [Array.toArray_toList]
    exact hS
  · rcases split_ ne e with ⟨p, q, rfl⟩ | q
    · obtain ⟨j, e1, e2⟩ := lookup_in q
      obtain ⟨u, v, eu, ev, at_⟩ := en.pairs j b e1
      have zipped := List.getElem?_zip_eq_some.mp e2
      obtain ⟨u', eu', ru⟩ := rx.get zipped.1
      obtain ⟨v', ev', rv⟩ := ry.get zipped.2
      have hu : u' = u := Option.some.inj (eu'.symm.trans (by simpa using eu))
      have hv : v' = v := Option.some.inj (ev'.symm.trans (by simpa using ev))
      subst hu hv
      exact .inr ⟨high (List.mem_of_getElem? e1), by show 2 ≤ sizeLine; decide, [u', v'], .cons ru (.cons rv .nil), _, at_, rfl, _, rfl⟩
    · exact .inl q
def tListZip (K : PySem.W.Frag) (ta : TA) : TE := fun σ H Q => ta σ H fun vs H1 => ∃ (a b : Addr) (xs ys : List V), vs = [.ref a, .ref b] ∧ SqL K H1 a xs ∧ SqL K H1 b ys ∧ xs.length = ys.length ∧
  ∀ (H' : Hp) (p : Addr) (ts : List Addr), Same H1 H' → H1 p = none → H' p = some (.lst (ts.map V.ref)) → Paired (fun (t : Addr) (q : V × V) => H' t = some (.tup [q.1, q.2])) ts (xs.zip ys) → Q (.ref p) H'
/-- list(zip(e1, e2)) -/
theorem pe_listZip {X : Cx} {e1 e2 : Expr} {ta : TA} {p p2 pos pos2 : Pos} (hgl : Gl X "list") (hml : X.mg "list" = none) (hgz : Gl X "zip") (hmz : X.mg "zip" = none) (ha : PA X [e1, e2] ta) (hc : X.calm = true := by rfl)
    (hs : starEach [.Call (.Name "zip" p2) [e1, e2] [] pos2] X.env = (false, eval (.Call (.Name "zip" p2) [e1, e2] [] pos2) X.env) :: starEach [] X.env := by rfl)
    (hs2 : starEach [e1, e2] X.env = (false, eval e1 X.env) :: starEach [e2] X.env := by rfl) (hpl : (backTo pos2 (starEach [e2] X.env)).any (·.1) = false := by rfl) :
    PE X (.Call (.Name "list" p) [.Call (.Name "zip" p2) [e1, e2] [] pos2] [] pos) (tListZip X.K ta) :=
  ⟨fun pins s σ H Q I want => by
    refine wpAny_Call_Name_kw (ld_blt I hgl hml PyProof.Rows.boot_list (PyProof.Rows.callWith_type1 ?_ hs rfl))
    rw [hs]
    refine Calls.spliced_cons (Call_ (ld_blt I hgz hmz PyProof.Rows.boot_zip (PyProof.Rows.callWith_type1 (thn (ha.run pos2 pins s σ H _ I want) ?_) hs2 hpl)))
    rintro us s1 ⟨_, H1, I1, rel, a, b, xs, ys, rfl, qx, qy, le, q⟩
    obtain ⟨v1, v2, rfl, r1, r2⟩ := vals2 rel
    obtain rfl : v1 = Value.ref a := r1
    obtain rfl : v2 = Value.ref b := r2
    obtain ⟨us, rx, px, zx⟩ := I1.list qx
    obtain ⟨ws, ry, py, _⟩ := I1.list qy
    have ax := px.lt
    have by_ := py.lt
    have lx := rx.length
    have ly := ry.length
    refine call_zip_2 px.isList py.isList fun h0 isz hTI hTO it1 it2 size k => Calls.spliced_nil ?_
    have big : ∀ {m j : Nat}, m ≤ s1.heap.objs.size + j → j < 5 → m < h0.objs.size := fun {m j} h1 h2 => by
      rw [size]
      omega
    have B : Before (s1.heap.objs.size + 4) (s1.heap.objs.size + 2) (s1.heap.objs.size + 3) s1.heap.objs.size (s1.heap.objs.size + 1) a b h0.objs.size :=
      ⟨big (Nat.le_refl _) (by decide), big (Nat.le_refl _) (by decide), big (Nat.le_refl _) (by decide), big (j := 0) (Nat.le_refl _) (by decide), big (Nat.le_refl _) (by decide), big (j := 0) (Nat.le_of_lt ax) (by decide), big (j := 0) (Nat.le_of_lt by_) (by decide)⟩
    have hands := zip_hands (prog := X.prog) (w := X.w) (h0 := h0) (xs := us.toArray) (ys := ws.toArray) (PySem.W.ktu_apart s1.heap.objs.size a b ax by_) B (by rw [List.size_toArray, List.size_toArray]; omega)
    have start : ZAt h0 (s1.heap.objs.size + 4) (s1.heap.objs.size + 2) (s1.heap.objs.size + 3) s1.heap.objs.size (s1.heap.objs.size + 1) a b h0.objs.size us.toArray ws.toArray [] h0 :=
      ⟨hTI, it1, it2, px.isList.at fun o => k _ o, py.isList.at fun o => k _ o, .inl ⟨isz, _, _, hTO⟩, fun _ _ _ e => e, .nil, fun _ m => (nomatch m), fun j a e => by simp at e⟩
    refine list_from (s := { s1 with heap := h0 }) hands (by rw [List.size_toArray]; omega) (I1.ok.hd hc) (Nat.ne_of_lt B.z) start fun h as acc c tk en e1 e2 e3 => ?_
    have keep : ∀ b o, s1.heap.get? b = some o → h.get? b = some o := fun b o e => by
      have low := Heap.lt_size e
      refine en.old b o (fun m => ?_) (k b o e)
      simp only [List.mem_cons, List.not_mem_nil, or_false] at m
      have low' : b < h0.objs.size := big (j := 0) (Nat.le_of_lt low) (by decide)
      rcases m with m | m | m | m | m
      · exact Nat.lt_irrefl _ (m ▸ low')
      · exact absurd low (by rw [m]; exact Nat.not_lt.mpr (Nat.le_add_right _ _))
      · exact absurd low (by rw [m]; exact Nat.not_lt.mpr (Nat.le_add_right _ _))
      · exact absurd low (by rw [m]; exact Nat.lt_irrefl _)
      · exact absurd low (by rw [m]; exact Nat.not_lt.mpr (Nat.le_add_right _ _))
    obtain ⟨H', k1, k2, k3, k4, J⟩ := pairs_laid (tk := tk) I1 zx rx ry le keep (by rw [size]; exact Nat.le_add_right _ _) e1 (by rw [e3, List.size_toArray]) en e2
    exact ⟨.ref _, H', J, rfl, q H' _ as k1 k2 k3 k4⟩⟩
end Kx

namespace Kx
open PySem PySem.Spec PyProof.Rows L2
/-! ### the errors -/
def spInit (C : Addr) (f1 f2 : Str) : Sp := fun vs H Q _ => ∃ (a : Addr) (x y : V), vs = [.ref a, x, y] ∧ H a = some (exo a C none) ∧
  ∀ dx, H dx = none → dx ≠ a → Q .non (upd (upd (upd H dx (exd dx [(f1, x)])) a (exo a C (some dx))) dx (exd dx [(f2, y), (f1, x)]))
/-- what the written part says of an error class: where it stands, that its __init__ stores the two fields -/
structure XCls (P : Program) (w : World) (K : PySem.W.Frag) (mg : Str → Option Value) (base : Heap) (x f1 f2 : Str) (C : Addr) : Prop where
  gC : mg x = some (.ref C)
  oex : OexC K C
  ini : ∃ (fI : Addr) (fd : FuncData) (ps : List Str), PySem.W.findIn K (.ref C) "__init__" = some (some (.ref fI)) ∧ PySem.W.typeIn K (.ref fI) = some (.type "function") ∧ FnOk P w K mg base CX0 1 fI fd ps (spInit C f1 f2) ∧ Binds K fd ps []
section
variable {X : Cx} {x f1 f2 : Str} {C : Addr} {k : Nat} {e : Expr} {es : List Expr} {p pos : Pos} {ta : TA}
theorem px (T : XCls X.prog X.w X.K X.mg X.base x f1 f2 C) (hr : Room 2 X.A) (hg : Gl X x) (ha : PA X (e :: es) ta)
    (hdb : (x == ("__debug__" : Str)) = false := by decide) (he : starEach (e :: es) X.env = (false, eval e X.env) :: starEach es X.env := by rfl) (hpl : (backTo pos (starEach es X.env)).any (·.1) = false := by rfl) :
    PMk X (.Call (.Name x p) (e :: es) [] pos) (tMkO C (spInit C f1 f2) [] ta) := by
  obtain ⟨fI, fd, ps, iC, tI, F1, b1⟩ := T.ini
  exact pmk_oex T.oex iC tI F1 hr b1 .nil pass0 hg T.gC ha hdb he hpl
theorem mk_ret {x1 y1 : V} {H1 : Hp} {Q : XK} (q : ∀ d H', Same H1 H' → H' d = some (.xd [(f2, y1), (f1, x1)]) → Q (.ref C) (some d) H') :
    ([x1, y1] : List V).length ≤ 1000 ∧ ∀ a, H1 a = none → spInit C f1 f2 (.ref a :: ([x1, y1] ++ [])) (upd H1 a (exo a C none))
      (fun v H2 => v = .non ∧ ∃ (d : Addr) (fs : List (Str × V)), H2 a = some (exo a C (some d)) ∧ H2 d = some (exd d fs) ∧ H1 d = none ∧ Q (.ref C) (some d) (upd (del H2 a) d (.xd fs))) (fun _ _ _ => False) := by
  refine ⟨by show 2 ≤ 1000; decide, fun a na => ⟨a, x1, y1, rfl, upd_same, fun dx hdx hne => ⟨rfl, dx, _, ?_, upd_same, ?_, q dx _ (fun b o e => ?_) upd_same⟩⟩⟩
  · rw [upd_ne (Ne.symm hne), upd_same]
  · rw [upd_ne hne] at hdx
    exact hdx
  · rw [upd_ne hne] at hdx
    have ba : b ≠ a := ne_of_none e na
    have bd : b ≠ dx := ne_of_none e hdx
    rw [upd_ne bd, del_ne ba, upd_ne bd, upd_ne ba, upd_ne bd, upd_ne ba]
    exact e
end
section
variable {P : Program} {w : World} {K : PySem.W.Frag} {mg : Str → Option Value} {base : Heap} {f : Addr} {fd : FuncData}
theorem scI1 : FnScope ["self", "word", "at"] ["self", "word", "at"] (defScope (inClass (topS 4) 0)) := ⟨rfl, rfl, rfl, by decide +kernel, rfl, by decide +kernel, by decide +kernel⟩
theorem scI2 : FnScope ["self", "line", "at"] ["self", "line", "at"] (defScope (inClass (topS 5) 0)) := ⟨rfl, rfl, rfl, by decide +kernel, rfl, by decide +kernel, by decide +kernel⟩
theorem ok_init1 {C : Addr} (F : Fun K "__init__" "NotUsable.__init__" (inClass (topS 4) 0) f fd) (T : OexC K C) (n1 : PySem.W.findIn K (.ref C) "word" = some none) (n2 : PySem.W.findIn K (.ref C) "at" = some none) :
    FnOk P w K mg base CX0 1 f fd ["self", "word", "at"] (spInit C "word" "at") := by
  refine F.ok scI1 (fun vs H Q E h => ?_) (fun cdv A outer s H vs Q E hr h => ?_)
  · obtain ⟨a, x, y, rfl, _⟩ := h
    rfl
  · obtain ⟨a, x, y, rfl, ha, q⟩ := h
    refine ⟨_, pss_cons (ps_ost (pv 0) (pv 1)) (pss_one (ps_ost (pv 0) (pv 2))), ?_⟩
    refine ⟨x, rfl, .ref a, rfl, a, C, rfl, T, n1, .inl ⟨ha, fun dx hdx hne => ?_⟩⟩
    exact ⟨y, rfl, .ref a, rfl, a, C, rfl, T, n2, .inr ⟨dx, _, upd_same, by rw [upd_ne hne]; exact upd_same, by show 1 ≤ 900; decide, q dx hdx hne⟩⟩
theorem ok_init2 {C : Addr} (F : Fun K "__init__" "InvalidText.__init__" (inClass (topS 5) 0) f fd) (T : OexC K C) (n1 : PySem.W.findIn K (.ref C) "line" = some none) (n2 : PySem.W.findIn K (.ref C) "at" = some none) :
    FnOk P w K mg base CX0 1 f fd ["self", "line", "at"] (spInit C "line" "at") := by
  refine F.ok scI2 (fun vs H Q E h => ?_) (fun cdv A outer s H vs Q E hr h => ?_)
  · obtain ⟨a, x, y, rfl, _⟩ := h
    rfl
  · obtain ⟨a, x, y, rfl, ha, q⟩ := h
    refine ⟨_, pss_cons (ps_ost (pv 0) (pv 1)) (pss_one (ps_ost (pv 0) (pv 2))), ?_⟩
    refine ⟨x, rfl, .ref a, rfl, a, C, rfl, T, n1, .inl ⟨ha, fun dx hdx hne => ?_⟩⟩
    exact ⟨y, rfl, .ref a, rfl, a, C, rfl, T, n2, .inr ⟨dx, _, upd_same, by rw [upd_ne hne]; exact upd_same, by show 1 ≤ 900; decide, q dx hdx hne⟩⟩
/-! ### _a_word_at -/
theorem cut_at (z : Str) (a b : Nat) : cutS z (some (a : Int)) (some (b : Int)) = mk (((TL.tl z).drop a).take (b - a)) := by
  have hl : z.length = (TL.tl z).length := TL.len_tl z
  unfold cutS
  rw [show HT.sIx z.length 0 (some (a : Int)) = min a z.length from HT.sIx_nat _ _ _, show HT.sIx z.length z.length (some (b : Int)) = min b z.length from HT.sIx_nat _ _ _]
  show mk (((TL.tl z).drop (min a z.length)).take (min b z.length - min a z.length)) = _
  congr 1
  rw [hl]
  rcases Nat.le_total a (TL.tl z).length with h1 | h1
  · rw [Nat.min_eq_left h1]
    rcases Nat.le_total b (TL.tl z).length with h2 | h2
    · rw [Nat.min_eq_left h2]
    · rw [Nat.min_eq_right h2, List.take_of_length_le (by rw [List.length_drop]; exact Nat.le_refl _), List.take_of_length_le (by rw [List.length_drop]; omega)]
  · rw [Nat.min_eq_right h1, List.drop_length, List.drop_eq_nil_of_le h1, List.take_nil, List.take_nil]
theorem head_at {z : Str} {k : Nat} {c : Nat} {r : List Nat} (h : (TL.tl z).drop k = c :: r) : (TL.tl z)[k]? = some c ∧ k < z.length ∧ (TL.tl z).drop (k + 1) = r := by
  have h1 : (TL.tl z)[k]? = some c := by
    have := congrArg List.head? h
    rw [List.head?_drop] at this
    exact this
  refine ⟨h1, by rw [TL.len_tl]; exact (List.getElem?_eq_some_iff.mp h1).1, ?_⟩
  rw [← List.drop_drop, h]
  rfl
theorem sgn {c d : Nat} : decide (V.str (mk [c]) = V.str (mk [d])) = decide (c = d) := by
  by_cases h : c = d
  · subst h
    rw [decide_eq_true rfl, decide_eq_true rfl]
  · rw [decide_eq_false h, decide_eq_false fun z => h (by have := mk_inj (V.str.inj z); exact List.head_eq_of_cons_eq this)]
def bad (h : Bool) (l : List Nat) : Prop := l = [] ∨ ∃ c r, l = c :: r ∧ c ∉ lowL ∧ ¬ (c = 46 ∨ (h = true ∧ c = 63))
def ErrT (CI : Addr) (H : Hp) (E : XK) (k : Nat) : Prop := ∀ d H', Same H H' → H' d = some (.xd [("at", .int (k : Int)), ("line", .int 0)]) → E (.ref CI) (some d) H'
theorem and_no {c : Bool} {A B : Prop} (hA : c = true → B → A) (hB : B) : if c = true then A else B := by
  cases c with
  | true => exact hA rfl hB
  | false => exact hB
theorem scWord : FnScope ["text", "at", "holes", "first", "end"] ["text", "at", "holes"] (defScope (topS 12)) := ⟨rfl, rfl, rfl, by decide +kernel, rfl, by decide +kernel, by decide +kernel⟩
/-- the word that stands at k -/
def WF (z : Str) (k : Nat) (h : Bool) (wd : List Nat) : Prop := (∃ c r, (TL.tl z).drop k = c :: r ∧ c ∈ lowL ∧ wd = word (c :: r)) ∨ (∃ c r, (TL.tl z).drop k = c :: r ∧ (c = 46 ∨ (h = true ∧ c = 63)) ∧ wd = [c])
def spWord (CI : Addr) : Sp := fun vs H Q E => ∃ (z : Str) (k : Nat) (h : Bool), vs = [.str z, .int k, .bl h] ∧ z.length ≤ 100000 ∧ k ≤ z.length ∧
  (∀ wd, WF z k h wd → Q (.str (mk wd)) H) ∧ (bad h ((TL.tl z).drop k) → ErrT CI H E k)
theorem ok_word {CI : Addr} (F : Fun K "_a_word_at" "_a_word_at" (topS 12) f fd) (B : Blt mg) (TI : XCls P w K mg base "InvalidText" "line" "at" CI) (c_a_begins : Cal P w K mg base CX0 1 "a_begins" ["sign"] spBegins) (c_a_goes_on : Cal P w K mg base CX0 1 "a_goes_on" ["sign"] spGoes) :
    FnOk P w K mg base (L2.CX P w) 3 f fd ["text", "at", "holes"] (spWord CI) := by
  refine F.okX scWord (fun vs H Q E h => ?_) (fun cdv A outer s H vs Q E hr h => ?_)
  · obtain ⟨z, k, h, rfl, _⟩ := h
    rfl
  · obtain ⟨z, k, h, rfl, hz, hk, q0, q3⟩ := h
    have sc := scWord
    have q1 : ∀ c r, (TL.tl z).drop k = c :: r → c ∈ lowL → Q (.str (mk (word (c :: r)))) H := fun c r e hc => q0 _ (.inl ⟨c, r, e, hc, rfl⟩)
    have q2 : ∀ c r, (TL.tl z).drop k = c :: r → (c = 46 ∨ (h = true ∧ c = 63)) → Q (.str (mk [c])) H := fun c r e hc => q0 _ (.inr ⟨c, r, e, hc, rfl⟩)
    refine ⟨_, (pss_cons (ps_if (pt_cmpR op_eq (pv 1) (pe_callB call_len_str (by rfl) B.len PySem.boot_len (pa_cons (pv 0) pa_nil)) (nomark _))
      (pss_one (ps_raise rfl (takes_of rfl rfl rfl rfl) (px TI hr (by rfl) (pa_cons pe_int (pa_cons (pv 1) pa_nil)))))
      pss_nil)
    (pss_cons (ps_set (i := 3) sc.nd rfl (Or.inl rfl) (pe_ix ix_str (pv 0) (pv 1) (fun _ _ => rfl)))
    (pss_cons (ps_if (PW.pt (pw_or (pt_cmpR op_eq (pv 3) pe_str (nomark _)) (pw_or1 (PW.pt (pw_and (pt_val (pv 2)) (pw_and1 (pt_cmpR op_eq (pv 3) pe_str (nomark _))))))))
      (pss_one (ps_ret (pv 3)))
      pss_nil)
    (pss_cons (ps_if (pt_not (pt_val (co c_a_begins (hr.mono (by decide)) (pa_cons (pv 3) pa_nil))))
      (pss_one (ps_raise rfl (takes_of rfl rfl rfl rfl) (px TI hr (by rfl) (pa_cons pe_int (pa_cons (pv 1) pa_nil)))))
      pss_nil)
    (pss_cons (ps_set (i := 4) sc.nd rfl (Or.inl rfl) (pe_op op_add (pv 1) pe_int))
    (pss_cons (ps_while (passes_of rfl) (PW.pt (pw_and (pt_cmpR op_lt (pv 4) (pe_callB call_len_str (by rfl) B.len PySem.boot_len (pa_cons (pv 0) pa_nil)) (nomark _)) (pw_and (pt_cmpR op_lt (pv 4) (pe_op op_add (pv 1) pe_int) (nomark _)) (pw_and1 (pt_val (co c_a_goes_on (hr.mono (by decide)) (pa_cons (pe_ix ix_str (pv 0) (pv 4) (fun _ _ => rfl)) pa_nil)))))))
      (pss_one (ps_set (i := 4) sc.nd rfl (Or.inl rfl) (pe_op op_add (pv 4) pe_int))))
    (pss_one (ps_ret (pe_slice sl_str (pv 0) (po_some (pv 1)) (po_some (pv 4))))))))))), ?_⟩
    have hzl : z.length = (TL.tl z).length := TL.len_tl z
    refine ⟨_, rfl, _, rfl, z, rfl, small (by omega), rfl, _, rfl, ?_⟩
    by_cases h0 : k = z.length
    · exact if_yes (decide_eq_true (by rw [h0])) ⟨_, rfl, mk_ret (Q := E) (q3 (.inl (List.drop_eq_nil_of_le (by omega))))⟩
    refine if_no (decide_eq_false fun e => h0 (by have := V.int.inj e; omega)) ?_
    obtain ⟨c, r, hr'⟩ : ∃ c r, (TL.tl z).drop k = c :: r := by
      cases e : (TL.tl z).drop k with
      | nil => exact absurd (List.drop_eq_nil_iff.mp e) (by omega)
      | cons c r => exact ⟨c, r, rfl⟩
    obtain ⟨hc, hk2, hd⟩ := head_at hr'
    refine ⟨_, rfl, _, rfl, z, _, c, rfl, rfl, small (by omega), atI_nat hc, ?_⟩
    have e1 : decide (V.str ⟨#[c]⟩ = V.str ".") = decide (c = 46) := sgn (d := 46)
    have e2 : decide (V.str ⟨#[c]⟩ = V.str "?") = decide (c = 63) := sgn (d := 63)
    by_cases c1 : c = 46
    · exact ⟨_, rfl, rfl, _, rfl, if_yes (e1.trans (decide_eq_true c1)) ⟨_, rfl, q2 c r hr' (.inl c1)⟩⟩
    by_cases c2 : h = true ∧ c = 63
    · exact ⟨_, rfl, rfl, _, rfl, if_no (e1.trans (decide_eq_false c1)) ⟨_, rfl, _, rfl, if_yes c2.1 ⟨_, rfl, rfl, _, rfl, if_yes (e2.trans (decide_eq_true c2.2)) ⟨_, rfl, q2 c r hr' (.inr c2)⟩⟩⟩⟩
    have c3 : ¬ (c = 46 ∨ (h = true ∧ c = 63)) := fun z => z.elim c1 c2
    refine ⟨_, rfl, rfl, _, rfl, if_no (e1.trans (decide_eq_false c1)) ⟨_, rfl, _, rfl, and_no (fun hh b => ⟨_, rfl, rfl, _, rfl, if_no (e2.trans (decide_eq_false fun z => c2 ⟨hh, z⟩)) b⟩) ?_⟩⟩
    refine ⟨_, rfl, c, rfl, ?_⟩
    by_cases hlow : c ∈ lowL
    · refine ⟨_, rfl, if_no (by rw [decide_eq_true hlow]; rfl) ?_⟩
      have lr : r.length + (k + 1) = z.length := by
        rw [hzl, ← hd, List.length_drop]
        omega
      have fin : ∀ (j : Nat), munch 15 r = r.take j → rSlS (.str z) (some (k : Int)) (some ((k + 1 + j : Nat) : Int)) H Q := fun j hj => by
        refine ⟨z, rfl, small (by omega), ?_⟩
        have q := q1 c r hr' hlow
        show Q (.str (cutS z (some (k : Int)) (some ((k + 1 + j : Nat) : Int)))) H
        rw [cut_at, hr', show k + 1 + j - k = j + 1 by omega, List.take_succ_cons, ← hj]
        exact q
      refine ⟨_, rfl, _, _, rfl, rfl, ?_⟩
      refine ⟨fun m σ H' => ∃ j : Nat, m = 15 - j ∧ σ = [some (.str z), some (.int (k : Int)), some (.bl h), some (.str ⟨#[c]⟩), some (.int ((k + 1 + j : Nat) : Int))] ∧ j ≤ 15 ∧ j ≤ r.length ∧ munch 15 r = r.take j ++ munch (15 - j) (r.drop j) ∧ H' = H,
        ⟨15, 0, rfl, rfl, Nat.zero_le _, Nat.zero_le _, rfl, rfl⟩, ?_⟩
      rintro m σ H' ⟨j, rfl, rfl, j15, jr, hm, rfl⟩
      have stop : munch (15 - j) (r.drop j) = [] → rSlS (.str z) (some (k : Int)) (some ((k + 1 + j : Nat) : Int)) H' Q := fun e => fin j (by rw [hm, e, List.append_nil])
      refine ⟨_, rfl, _, rfl, z, rfl, small (by omega), _, _, rfl, rfl, _, rfl, ?_⟩
      by_cases b1 : j < r.length
      · refine if_yes (decide_eq_true (by omega)) ⟨_, rfl, _, rfl, _, _, rfl, rfl, _, _, rfl, rfl, _, rfl, ?_⟩
        by_cases b2 : j < 15
        · obtain ⟨d, hdj⟩ : ∃ d, r[j]? = some d := ⟨_, List.getElem?_eq_getElem b1⟩
          have hdz : (TL.tl z)[k + 1 + j]? = some d := by rw [← hdj, ← hd, List.getElem?_drop]
          have er : r.drop j = d :: r.drop (j + 1) := by rw [List.drop_eq_getElem_cons b1]; congr 1; exact Option.some.inj ((List.getElem?_eq_getElem b1).symm.trans hdj)
          have em : munch (15 - j) (r.drop j) = if goes d = true then d :: munch (15 - (j + 1)) (r.drop (j + 1)) else [] := by
            rw [er, show 15 - j = (15 - (j + 1)) + 1 by omega]
            rfl
          refine if_yes (decide_eq_true (by omega)) ⟨_, rfl, _, rfl, z, _, d, rfl, rfl, small (by omega), atI_nat hdz, d, rfl, ?_⟩
          by_cases b3 : goes d = true
          · refine ⟨_, rfl, if_yes b3 ⟨_, fun _ _ h => h, ?_⟩⟩
            refine ⟨_, rfl, _, _, rfl, rfl, ?_⟩
            refine ⟨_, ?_, j + 1, rfl, rfl, b2, b1, ?_, rfl⟩
            · omega
            · rw [hm, em, if_pos b3, List.take_add_one, hdj, List.append_assoc]
              rfl
          · refine ⟨_, rfl, if_no (Bool.eq_false_iff.mpr b3) ⟨_, rfl, _, rfl, _, rfl, _, rfl, _, rfl, stop ?_⟩⟩
            rw [em, if_neg b3]
        · refine if_no (decide_eq_false (by omega)) ⟨_, rfl, _, rfl, _, rfl, _, rfl, _, rfl, stop ?_⟩
          rw [show 15 - j = 0 by omega]
          cases r.drop j <;> rfl
      · refine if_no (decide_eq_false (by omega)) ⟨_, rfl, _, rfl, _, rfl, _, rfl, _, rfl, stop ?_⟩
        rw [List.drop_eq_nil_of_le (by omega)]
        cases 15 - j <;> rfl
    · refine ⟨_, rfl, if_yes (by rw [decide_eq_false hlow]; rfl) ⟨_, rfl, mk_ret (Q := E) (q3 (.inr ⟨c, r, hr', hlow, c3⟩))⟩⟩
end
end Kx

namespace Kx
open PySem PySem.Spec PyProof.Rows L2
section
variable {P : Program} {w : World} {K : PySem.W.Frag} {mg : Str → Option Value} {base : Heap} {f : Addr} {fd : FuncData}
/-! ### _a_close -/
def intsV (bs : List Nat) : List V := bs.map fun (b : Nat) => V.int (b : Int)
/-- the list at a is bs, all else is as in H -/
def ButL (H H' : Hp) (a : Addr) : Prop := ∀ b o, b ≠ a → H b = some o → H' b = some o
theorem slice1 {z : Str} {k d : Nat} : decide (V.str (cutS z (some (k : Int)) (some ((k : Int) + 1))) = V.str (mk [d])) = decide (((TL.tl z).drop k).head? = some d) := by
  rw [show ((k : Int) + 1) = ((k + 1 : Nat) : Int) from rfl, cut_at, show k + 1 - k = 1 by omega]
  cases (TL.tl z).drop k with
  | nil => rw [decide_eq_false (by intro e; have := mk_inj (V.str.inj e); cases this), decide_eq_false (by intro e; cases e)]
  | cons c r =>
    show decide (V.str (mk [c]) = V.str (mk [d])) = decide (some c = some d)
    rw [sgn]
    by_cases h : c = d
    · rw [decide_eq_true h, decide_eq_true (by rw [h])]
    · rw [decide_eq_false h, decide_eq_false (fun e => h (Option.some.inj e))]
theorem head_drop {l : List Nat} {c : Nat} (h : l.head? = some c) : ∃ r, l = c :: r := by
  cases l with
  | nil => cases h
  | cons d r => exact ⟨r, by rw [Option.some.inj h]⟩
theorem ints_last {bs : List Nat} {i : Nat} (h : i < bs.length) : (intsV (bs.take (bs.length - i)))[(intsV (bs.take (bs.length - i))).length - 1]? = some (.int ((bs[bs.length - i - 1]'(by omega) : Nat) : Int)) ∧ (intsV (bs.take (bs.length - i))).dropLast = intsV (bs.take (bs.length - (i + 1))) := by
  obtain ⟨j, hj⟩ : ∃ j, bs.length - i = j + 1 := ⟨bs.length - i - 1, by omega⟩
  have hj2 : j < bs.length := by omega
  have e : bs.take (j + 1) = bs.take j ++ [bs[j]] := by
    rw [List.take_add_one, List.getElem?_eq_getElem hj2]
    rfl
  have hx : bs.length - i - 1 = j := by omega
  have hy : bs.length - (i + 1) = j := by omega
  simp only [hj, hy, Nat.add_sub_cancel]
  unfold intsV
  rw [e, List.map_append]
  refine ⟨?_, ?_⟩
  · rw [List.length_append, List.map_cons, List.map_nil, List.length_singleton, Nat.add_sub_cancel, List.getElem?_append_right (Nat.le_refl _), Nat.sub_self]
    rfl
  · rw [List.map_cons, List.map_nil, List.dropLast_concat]
theorem scClose : FnScope ["text", "at", "above"] ["text", "at", "above"] (defScope (topS 14)) := ⟨rfl, rfl, rfl, by decide +kernel, rfl, by decide +kernel, by decide +kernel⟩
def spClose : Sp := fun vs H Q _ => ∃ (z : Str) (k : Nat) (a : Addr) (bs : List Nat), vs = [.str z, .int k, .ref a] ∧ z.length ≤ 100000 ∧ k ≤ z.length ∧ H a = some (.lst (intsV bs)) ∧
  ∀ H' (m : Nat) (l : List Nat), m ≤ bs.length → (TL.tl z).drop k = List.replicate m 41 ++ l → (m = bs.length ∨ l.head? ≠ some 41) → H' a = some (.lst (intsV (bs.take (bs.length - m)))) → ButL H H' a → Q (.int ((k + m : Nat) : Int)) H'
theorem ok_close (F : Fun K "_a_close" "_a_close" (topS 14) f fd) : FnOk P w K mg base CX0 1 f fd ["text", "at", "above"] spClose := by
  refine F.ok scClose (fun vs H Q E h => ?_) (fun cdv A outer s H vs Q E hr h => ?_)
  · obtain ⟨z, k, a, bs, rfl, _⟩ := h
    rfl
  · obtain ⟨z, k, a, bs, rfl, hz, hk, ha, q⟩ := h
    have sc := scClose
    refine ⟨_, (pss_cons (ps_while PassesOwn.never (PW.pt (pw_and (pt_truth (pv 2) (by intro _; rfl)) (pw_and1 (pt_cmpR op_eq (pe_slice sl_str (pv 0) (po_some (pv 1)) (po_some (pe_op op_add (pv 1) pe_int))) pe_str (nomark _)))))
      (pss_cons (ps_expr (pe_bm0 PySem.F.plainAttrs_list PySem.F.slot_list_pop PySem.F.type_list_pop mt_pop (pv 2)))
    (pss_one (ps_set (i := 1) sc.nd rfl (Or.inl rfl) (pe_op op_add (pv 1) pe_int)))))
    (pss_one (ps_ret (pv 1)))), ?_⟩
    have hzl : z.length = (TL.tl z).length := TL.len_tl z
    refine ⟨fun n σ H' => ∃ i : Nat, n = bs.length - i ∧ σ = [some (.str z), some (.int ((k + i : Nat) : Int)), some (.ref a)] ∧ i ≤ bs.length ∧ k + i ≤ z.length ∧ (TL.tl z).drop k = List.replicate i 41 ++ (TL.tl z).drop (k + i) ∧ H' a = some (.lst (intsV (bs.take (bs.length - i)))) ∧ ButL H H' a,
      ⟨_, 0, rfl, rfl, Nat.zero_le _, hk, rfl, by rw [Nat.sub_zero, List.take_length]; exact ha, fun _ _ _ h => h⟩, ?_⟩
    rintro n σ H1 ⟨i, rfl, rfl, hi, hik, hd, h1, hb⟩
    have lt : (bs.take (bs.length - i)).length = bs.length - i := by rw [List.length_take]; omega
    have li : (intsV (bs.take (bs.length - i))).length = bs.length - i := by unfold intsV; rw [List.length_map, lt]
    refine ⟨_, rfl, _, .inl ⟨_, SqL.of h1, rfl⟩, ?_⟩
    by_cases c1 : i = bs.length
    · refine if_no (by rw [show bs.length - i = 0 by omega]; rfl) ⟨_, rfl, q _ i _ hi hd (.inl c1) h1 hb⟩
    have ne : (!(intsV (bs.take (bs.length - i))).isEmpty) = true := by
      cases e : intsV (bs.take (bs.length - i)) with
      | nil => rw [e] at li; exact absurd li (by show ¬ 0 = _; omega)
      | cons x y => rfl
    refine if_yes ne ⟨_, rfl, _, rfl, _, rfl, _, rfl, _, _, rfl, rfl, _, rfl, z, rfl, small (by omega), rfl, _, rfl, ?_⟩
    have e1 : decide (V.str (cutS z (some ((k + i : Nat) : Int)) (some (((k + i : Nat) : Int) + 1))) = V.str ")") = decide (((TL.tl z).drop (k + i)).head? = some 41) := slice1 (d := 41)
    by_cases c2 : ((TL.tl z).drop (k + i)).head? = some 41
    · refine if_yes (e1.trans (decide_eq_true c2)) ⟨_, fun _ _ h => h, ?_⟩
      obtain ⟨r, er⟩ := head_drop c2
      obtain ⟨hc, hlt, hdr⟩ := head_at er
      obtain ⟨l1, l2⟩ := ints_last (bs := bs) (i := i) (by omega)
      refine ⟨_, rfl, .inl ⟨rfl, _, SqL.of h1⟩, a, _, _, rfl, rfl, h1, l1, ?_⟩
      refine ⟨_, rfl, _, _, rfl, rfl, ?_⟩
      refine ⟨_, ?_, i + 1, rfl, rfl, by omega, hlt, ?_, ?_, fun b o n h => ?_⟩
      · omega
      · rw [hd, er, ← Nat.add_assoc, hdr, List.replicate_succ', List.append_assoc]
        rfl
      · rw [upd_same, l2]
      · rw [upd_ne n]
        exact hb b o n h
    · exact if_no (e1.trans (decide_eq_false c2)) ⟨_, rfl, q _ i _ hi hd (.inr c2) h1 hb⟩
end
end Kx

namespace Kx
open PySem PySem.Spec PyProof.Rows L2
section
variable {P : Program} {w : World} {K : PySem.W.Frag} {mg : Str → Option Value} {base : Heap} {f : Addr} {fd : FuncData}
/-! ### _a_read -/
def ErrU (CN : Addr) (H : Hp) (E : XK) : Prop := ∀ d H', Same H H' → H' d = some (.xd [("at", .int (-1)), ("word", .str "text")]) → E (.ref CN) (some d) H'
def ReadK (K : PySem.W.Frag) (CI CN : Addr) (h : Bool) (x : V) (H : Hp) (Q : VK) (E : XK) : Prop :=
  (∃ z, x = .str z ∧ z.length ≤ 100000 ∧ (∀ row, verdict h (TL.tl z) = .ok row → ∀ H' a, Same H H' → TreeAt H' a row → Q (.ref a) H') ∧ (∀ k, verdict h (TL.tl z) = .error k → ErrT CI H E k)) ∨
    ((∃ t, TyX K H x t ∧ PySem.W.kitOne K t (.type "str") = some false) ∧ ErrU CN H E)
theorem scRead : FnScope ["text", "holes", "words", "counts", "above", "at", "ended", "word"] ["text", "holes"] (defScope (topS 13)) := ⟨rfl, rfl, rfl, by decide +kernel, rfl, by decide +kernel, by decide +kernel⟩
def spRead (K : PySem.W.Frag) (CI CN : Addr) : Sp := fun vs H Q E => ∃ (x : V) (h : Bool), vs = [x, .bl h] ∧ ReadK K CI CN h x H Q E
def wdV (row : List Sy) : List V := row.map fun s => V.str (mk s.1)
def ctV (row : List Sy) : List V := intsV (row.map fun s => s.2)
structure RdSt (H : Hp) (pw pc pa : Addr) (Ws Cs As : List V) (H' : Hp) : Prop where
  same : Same H H'
  w : H' pw = some (.lst Ws)
  c : H' pc = some (.lst Cs)
  a : H' pa = some (.lst As)
  fw : H pw = none
  fc : H pc = none
  fa : H pa = none
  wc : pw ≠ pc
  wa : pw ≠ pa
  ca : pc ≠ pa
section
variable {H H1 H2 : Hp} {pw pc pa : Addr} {Ws Cs As : List V}
theorem RdSt.putW (m : RdSt H pw pc pa Ws Cs As H1) (l : List V) : RdSt H pw pc pa l Cs As (upd H1 pw (.lst l)) :=
  ⟨Same.mut m.same m.fw, upd_same, by rw [upd_ne (Ne.symm m.wc)]; exact m.c, by rw [upd_ne (Ne.symm m.wa)]; exact m.a, m.fw, m.fc, m.fa, m.wc, m.wa, m.ca⟩
theorem RdSt.putC (m : RdSt H pw pc pa Ws Cs As H1) (l : List V) : RdSt H pw pc pa Ws l As (upd H1 pc (.lst l)) :=
  ⟨Same.mut m.same m.fc, by rw [upd_ne m.wc]; exact m.w, upd_same, by rw [upd_ne (Ne.symm m.ca)]; exact m.a, m.fw, m.fc, m.fa, m.wc, m.wa, m.ca⟩
theorem RdSt.putA (m : RdSt H pw pc pa Ws Cs As H1) (l : List V) : RdSt H pw pc pa Ws Cs l (upd H1 pa (.lst l)) :=
  ⟨Same.mut m.same m.fa, by rw [upd_ne m.wa]; exact m.w, by rw [upd_ne m.ca]; exact m.c, upd_same, m.fw, m.fc, m.fa, m.wc, m.wa, m.ca⟩
theorem RdSt.close (m : RdSt H pw pc pa Ws Cs As H1) (l : List V) (k : ButL H1 H2 pa) (e : H2 pa = some (.lst l)) : RdSt H pw pc pa Ws Cs l H2 :=
  ⟨fun b o q => k b o (ne_of_none q m.fa) (m.same b o q), k _ _ m.wa m.w, k _ _ m.ca m.c, e, m.fw, m.fc, m.fa, m.wc, m.wa, m.ca⟩
end
theorem ErrT.up {CI : Addr} {H H1 : Hp} {E : XK} {k : Nat} (h : ErrT CI H E k) (s : Same H H1) : ErrT CI H1 E k := fun d H' s' e => h d H' (s.trans s') e
theorem bad_go {h : Bool} {fs : List Fr} {k : Nat} {l : List Nat} (b : bad h l) : go h ⟨fs, [], 0⟩ k l = .error k := by
  rcases b with rfl | ⟨c, r, rfl, h1, h2⟩
  · rw [go_nil, if_pos (.inl rfl)]
  · exact go_none (step_bad h1 h2)
/-- what a word leads to: a bracket opens, or the node is a leaf -/
theorem word_facts {z : Str} {k : Nat} {h : Bool} {wd : List Nat} {fs : List Fr} (f : WF z k h wd) :
    1 ≤ wd.length ∧ k + wd.length ≤ z.length ∧ ((((TL.tl z).drop (k + wd.length)).head? = some 40 ∧ wd ≠ [46] ∧ wd ≠ [63] ∧ go h ⟨fs, [], 0⟩ k ((TL.tl z).drop k) = go h ⟨(wd, 0, []) :: fs, [], 0⟩ (k + wd.length + 1) ((TL.tl z).drop (k + wd.length + 1))) ∨
      (¬ (((TL.tl z).drop (k + wd.length)).head? = some 40 ∧ wd ≠ [46] ∧ wd ≠ [63]) ∧ go h ⟨fs, [], 0⟩ k ((TL.tl z).drop k) = go h ⟨fs, [(wd, 0)], 2⟩ (k + wd.length) ((TL.tl z).drop (k + wd.length)))) := by
  have hzl : z.length = (TL.tl z).length := TL.len_tl z
  rcases f with ⟨c, r, e, hc, rfl⟩ | ⟨c, r, e, hc, rfl⟩
  · have w1 := word_len c r
    have hpre : (word (c :: r)).length ≤ (c :: r).length := by
      have := congrArg List.length (munch_pre 15 r)
      rw [List.length_append] at this
      show (munch 15 r).length + 1 ≤ r.length + 1
      omega
    have hlen : (c :: r).length = z.length - k := by rw [← e, List.length_drop, hzl]
    have hk : k < z.length := (head_at e).2.1
    have nb := low_not hc
    have n1 : word (c :: r) ≠ [46] := fun z => nb.2.2.2.1 (List.head_eq_of_cons_eq z)
    have n2 : word (c :: r) ≠ [63] := fun z => nb.2.2.2.2 (List.head_eq_of_cons_eq z)
    have g := go_word (h := h) (fs := fs) (k := k) (l := r) hc
    have ed : ∀ n, (TL.tl z).drop (k + n) = (c :: r).drop n := fun n => by rw [← e, List.drop_drop]
    refine ⟨w1.1, by omega, ?_⟩
    rw [e, Nat.add_assoc, ed, ed]
    have en : ∀ d, ((c :: r).drop (word (c :: r)).length).head? = some d → ¬ (goes d = true ∧ (word (c :: r)).length < 16) := fun d hd => word_next hd
    by_cases h40 : ((c :: r).drop (word (c :: r)).length).head? = some 40
    · refine .inl ⟨h40, n1, n2, ?_⟩
      obtain ⟨r2, e2⟩ := head_drop h40
      rw [g, ← List.drop_drop, e2, go_some step_open]
      rfl
    · exact .inr ⟨fun z => h40 z.1, g.trans (go_two fun d hd => ⟨en d hd, fun z => h40 (by rw [hd, z])⟩)⟩
  · have hk : k < z.length := (head_at e).2.1
    refine ⟨Nat.le_refl _, hk, .inr ⟨fun z => ?_, ?_⟩⟩
    · rcases hc with rfl | ⟨_, rfl⟩
      · exact z.2.1 rfl
      · exact z.2.2 rfl
    · have e3 := (head_at e).2.2
      show _ = go h ⟨fs, [([c], 0)], 2⟩ (k + 1) ((TL.tl z).drop (k + 1))
      rw [e, go_some (step_dot hc), e3]
theorem rowP_wd (fs : List Fr) : wdV (rowP fs) = wdV (rowL fs) := by
  cases fs with
  | nil => rfl
  | cons f r =>
    obtain ⟨w, n, kr⟩ := f
    show wdV (rowL r ++ (w, n) :: kr) = wdV (rowL r ++ (w, n + 1) :: kr)
    unfold wdV
    rw [List.map_append, List.map_append]
    rfl
theorem ctV_at (a : List Sy) (w : List Nat) (n : Nat) (b : List Sy) : (ctV (a ++ (w, n) :: b))[a.length]? = some (.int (n : Int)) := by
  unfold ctV intsV
  rw [List.map_append, List.map_append, List.getElem?_append_right (by rw [List.length_map, List.length_map]; exact Nat.le_refl _), List.length_map, List.length_map, Nat.sub_self]
  rfl
theorem ctV_set (a : List Sy) (w : List Nat) (n m : Nat) (b : List Sy) : (ctV (a ++ (w, n) :: b)).set a.length (.int (m : Int)) = ctV (a ++ (w, m) :: b) := by
  unfold ctV intsV
  rw [List.map_append, List.map_append, List.set_append_right _ _ (by rw [List.length_map, List.length_map]; exact Nat.le_refl _), List.length_map, List.length_map, Nat.sub_self, List.map_append, List.map_append]
  rfl
theorem ctV_len (a : List Sy) : (ctV a).length = a.length := by
  unfold ctV intsV
  rw [List.length_map, List.length_map]
theorem wdV_len (a : List Sy) : (wdV a).length = a.length := by
  unfold wdV
  rw [List.length_map]
theorem wdV_app (a b : List Sy) : wdV (a ++ b) = wdV a ++ wdV b := List.map_append ..
theorem ctV_app (a b : List Sy) : ctV (a ++ b) = ctV a ++ ctV b := by
  unfold ctV intsV
  rw [List.map_append, List.map_append]
theorem ints_app (a : List Nat) (b : Nat) : intsV (a ++ [b]) = intsV a ++ [.int (b : Int)] := List.map_append ..
theorem rowP_len (fs : List Fr) : (rowL fs).length = (rowP fs).length := by
  rw [← wdV_len, ← wdV_len, rowP_wd]
theorem zip_tree {H : Hp} : ∀ {row : List Sy} {ts : List Addr}, Paired (fun (t : Addr) (q : V × V) => H t = some (.tup [q.1, q.2])) ts ((wdV row).zip (ctV row)) → Paired (SymAt H) (ts.map V.ref) row
  | [], ts, h => by
    cases h
    exact .nil
  | s :: row, ts, h => by
    have e : (wdV (s :: row)).zip (ctV (s :: row)) = (V.str (mk s.1), V.int (s.2 : Int)) :: (wdV row).zip (ctV row) := rfl
    rw [e] at h
    cases h with
    | cons q t => exact .cons ⟨_, rfl, q⟩ (zip_tree t)
theorem wd_snoc (a : List Sy) (wd : List Nat) (n : Nat) : wdV (a ++ [(wd, n)]) = wdV a ++ [.str (mk wd)] := wdV_app ..
theorem ct_snoc (a : List Sy) (wd : List Nat) : ctV (a ++ [(wd, 0)]) = ctV a ++ [.int 0] := ctV_app ..
theorem arnd_le : ∀ fs : List Fr, fs.length ≤ (rowL fs).length
  | [] => Nat.le_refl _
  | f :: r => by
    have ih := arnd_le r
    show r.length + 1 ≤ (rowL r ++ (f.1, f.2.1 + 1) :: f.2.2).length
    rw [List.length_append, List.length_cons]
    omega
theorem sgw {a b : List Nat} : decide (V.str (mk a) = V.str (mk b)) = decide (a = b) := by
  by_cases h : a = b
  · subst h
    rw [decide_eq_true rfl, decide_eq_true rfl]
  · rw [decide_eq_false h, decide_eq_false fun z => h (mk_inj (V.str.inj z))]
theorem ok_read {CI CN : Addr} (F : Fun K "_a_read" "_a_read" (topS 13) f fd) (B : Blt mg) (TI : XCls P w K mg base "InvalidText" "line" "at" CI) (TN : XCls P w K mg base "NotUsable" "word" "at" CN)
    (c__a_word_at : Cal P w K mg base (L2.CX P w) 3 "_a_word_at" ["text", "at", "holes"] (spWord CI)) (c__a_close : Cal P w K mg base CX0 1 "_a_close" ["text", "at", "above"] spClose) :
    FnOk P w K mg base (L2.CX P w) 4 f fd ["text", "holes"] (spRead K CI CN) := by
  refine F.okX scRead (fun vs H Q E h => ?_) (fun cdv A outer s H vs Q E hr h => ?_)
  · obtain ⟨x, h, rfl, _⟩ := h
    rfl
  · obtain ⟨x, h, rfl, q⟩ := h
    have sc := scRead
    refine ⟨_, (pss_cons (ps_if (pt_not (pt_val (pe_callB call_isi (by rfl) B.isinstance PyProof.Rows.boot_isinstance (pa_cons (pv 0) (pa_cons (pe_bltn (v := .ty "str") (by rfl) B.str PyProof.Rows.boot_str rfl) pa_nil)))))
      (pss_one (ps_raise rfl (takes_of rfl rfl rfl rfl) (px TN (hr.mono (by decide)) (by rfl) (pa_cons pe_str (pa_cons (pe_un un_neg pe_int) pa_nil)))))
      pss_nil)
    (pss_cons (ps_par3 (i := 2) (j := 3) (l := 4) (by rfl) sc.nd rfl rfl rfl (by decide) (by decide) (by decide) rfl rfl rfl (pa_cons (pe_lst pa_nil) (pa_cons (pe_lst pa_nil) (pa_cons (pe_lst pa_nil) pa_nil))) (by rfl))
    (pss_cons (ps_asg (pe_tup (pa_cons pe_int (pa_cons pe_bl pa_nil))) (pg_tup rfl (pgs_cons (pg_name (i := 5) sc.nd rfl (Or.inl rfl)) (pgs_cons (pg_name (i := 6) sc.nd rfl (Or.inl rfl)) pgs_nil))))
    (pss_cons (ps_while (passes_of rfl) (pt_not (pt_val (pv 6)))
      (pss_cons (ps_set (i := 7) sc.nd rfl (Or.inl rfl) (cox c__a_word_at hr (passes_call (takes_of rfl rfl rfl rfl) (fun _ _ _ _ h => h)) (pa_cons (pv 0) (pa_cons (pv 5) (pa_cons (pv 1) pa_nil)))))
    (pss_cons (ps_set (i := 5) sc.nd rfl (Or.inl rfl) (pe_op op_add (pv 5) (pe_callB call_len_str (by rfl) B.len PySem.boot_len (pa_cons (pv 7) pa_nil))))
    (Evl.pss_cut (ps_if (pt_truth (pv 4) (by intro _; rfl))
      (pss_one (ps_asg (pe_op op_add (pe_ix ix_list (pv 3) (pe_ix ix_list (pv 4) (pe_un un_neg pe_int) (fun _ _ => rfl)) (fun _ _ => rfl)) pe_int) (pg_sub (pv 3) (pe_ix ix_list (pv 4) (pe_un un_neg pe_int) (fun _ _ => rfl)) set_list)))
      pss_nil)
    (pss_cons (ps_expr (pe_bm PySem.F.plainAttrs_list PySem.F.slot_list_append PySem.F.type_list_append mt_append (pv 2) (pa_cons (pv 7) pa_nil)))
    (pss_cons (ps_expr (pe_bm PySem.F.plainAttrs_list PySem.F.slot_list_append PySem.F.type_list_append mt_append (pv 3) (pa_cons pe_int pa_nil)))
    (pss_one (ps_if (PW.pt (pw_and (pt_cmpR op_eq (pe_slice sl_str (pv 0) (po_some (pv 5)) (po_some (pe_op op_add (pv 5) pe_int))) pe_str (nomark _)) (pw_and (pt_cmpR op_ne (pv 7) pe_str (nomark _)) (pw_and1 (pt_cmpR op_ne (pv 7) pe_str (nomark _))))))
      (pss_cons (ps_expr (pe_bm PySem.F.plainAttrs_list PySem.F.slot_list_append PySem.F.type_list_append mt_append (pv 4) (pa_cons (pe_op op_sub (pe_callB call_len_seq (by rfl) B.len PySem.boot_len (pa_cons (pv 2) pa_nil)) pe_int) pa_nil)))
    (pss_one (ps_set (i := 5) sc.nd rfl (Or.inl rfl) (pe_op op_add (pv 5) pe_int))))
      (pss_cons (ps_set (i := 5) sc.nd rfl (Or.inl rfl) (co c__a_close (hr.mono (by decide)) (pa_cons (pv 0) (pa_cons (pv 5) (pa_cons (pv 4) pa_nil)))))
    (pss_cons (ps_set (i := 6) sc.nd rfl (Or.inl rfl) (pe_notT (pv 4)))
    (pss_one (ps_if (pt_not (pt_val (pv 6)))
      (pss_cons (ps_if (PW.pt (pw_or (pt_cmpR op_ne (pe_slice sl_str (pv 0) (po_some (pv 5)) (po_some (pe_op op_add (pv 5) pe_int))) pe_str (nomark _)) (pw_or1 (pt_cmpR op_eq (pe_ix ix_list (pv 3) (pe_ix ix_list (pv 4) (pe_un un_neg pe_int) (fun _ _ => rfl)) (fun _ _ => rfl)) pe_int (nomark _)))))
      (pss_one (ps_raise rfl (takes_of rfl rfl rfl rfl) (px TI (hr.mono (by decide)) (by rfl) (pa_cons pe_int (pa_cons (pv 5) pa_nil)))))
      pss_nil)
    (pss_one (ps_set (i := 5) sc.nd rfl (Or.inl rfl) (pe_op op_add (pv 5) pe_int))))
      pss_nil))))))))))))
    (pss_cons (ps_if (pt_cmpR op_lt (pv 5) (pe_callB call_len_str (by rfl) B.len PySem.boot_len (pa_cons (pv 0) pa_nil)) (nomark _))
      (pss_one (ps_raise rfl (takes_of rfl rfl rfl rfl) (px TI (hr.mono (by decide)) (by rfl) (pa_cons pe_int (pa_cons (pv 5) pa_nil)))))
      pss_nil)
    (pss_one (ps_ret (pe_callTy call_tuple_of (by rfl) B.tuple PyProof.Rows.boot_tuple (pa_cons (pe_listZip (by rfl) B.list (by rfl) B.zip (pa_cons (pv 2) (pa_cons (pv 3) pa_nil))) pa_nil))))))))), ?_⟩
    rcases q.symm with ⟨⟨t, tx, kx⟩, qu⟩ | ⟨z, rfl, hz, qok, qer⟩
    · refine ⟨_, rfl, x, .ty "str", t, .type "str", false, rfl, .ty "str", tx, kx, _, rfl, if_yes rfl ⟨_, rfl, mk_ret (Q := E) qu⟩⟩
    refine ⟨_, rfl, _, .ty "str", .type "str", .type "str", true, rfl, .ty "str", .base (.str z), kit_ty (show kitB "str" "str" = some true from by decide +kernel), _, rfl, if_no rfl ?_⟩
    have hzl : z.length = (TL.tl z).length := TL.len_tl z
    -- words, counts, above = [], [], []
    refine ⟨Nat.zero_le _, fun pw hpw => ⟨Nat.zero_le _, fun pc hpc => ⟨Nat.zero_le _, fun pa hpa => ⟨_, _, _, rfl, ?_⟩⟩⟩⟩
    have s1 : Same H (upd H pw (.lst [])) := same_new hpw
    have s2 := s1.trans (same_new (o := .lst []) hpc)
    have s3 := s2.trans (same_new (o := .lst []) hpa)
    have nwc : pw ≠ pc := fun z => by rw [← z, upd_same] at hpc; cases hpc
    have nwa : pw ≠ pa := fun z => by rw [← z, upd_ne nwc, upd_same] at hpa; cases hpa
    have nca : pc ≠ pa := fun z => by rw [← z, upd_same] at hpa; cases hpa
    have M0 : RdSt H pw pc pa [] [] [] (upd (upd (upd H pw (.lst [])) pc (.lst [])) pa (.lst [])) :=
      ⟨s3, by rw [upd_ne nwa, upd_ne nwc, upd_same], by rw [upd_ne nca, upd_same], upd_same, hpw, s1.free hpc, s2.free hpa, nwc, nwa, nca⟩
    generalize upd (upd (upd H pw (.lst [])) pc (.lst [])) pa (.lst []) = H0 at M0
    -- at, ended = 0, False
    refine ⟨by show 2 ≤ sizeLine; decide, fun p5 hp5 => ⟨p5, _, rfl, SqT.of upd_same, rfl, _, _, rfl, _, _, rfl, rfl, ?_⟩⟩
    have M1 : RdSt H pw pc pa [] [] [] (upd H0 p5 (.tup [.int 0, .bl false])) := ⟨M0.same.trans (same_new hp5), same_new hp5 _ _ M0.w, same_new hp5 _ _ M0.c, same_new hp5 _ _ M0.a, M0.fw, M0.fc, M0.fa, nwc, nwa, nca⟩
    generalize upd H0 p5 (.tup [.int 0, .bl false]) = H1 at M1
    -- the loop
    refine ⟨fun m σ H' => ∃ (k : Nat) (e : Bool) (y : Option V), m = z.length - k ∧ σ = [some (.str z), some (.bl h), some (.ref pw), some (.ref pc), some (.ref pa), some (.int (k : Int)), some (.bl e), y] ∧ k ≤ z.length ∧
        ((e = false ∧ ∃ fs : List Fr, RdSt H pw pc pa (wdV (rowP fs)) (ctV (rowP fs)) (intsV (arnd fs)) H' ∧ (∀ f ∈ fs, f.2.1 ≤ 3) ∧ (rowP fs).length ≤ k ∧ verdict h (TL.tl z) = go h ⟨fs, [], 0⟩ k ((TL.tl z).drop k)) ∨
          (e = true ∧ ∃ cur : List Sy, RdSt H pw pc pa (wdV cur) (ctV cur) [] H' ∧ cur.length ≤ k ∧ verdict h (TL.tl z) = go h ⟨[], cur, 2⟩ k ((TL.tl z).drop k))),
      ⟨_, 0, false, none, rfl, rfl, Nat.zero_le _, .inl ⟨rfl, [], M1, fun f hf => (by cases hf), Nat.zero_le _, rfl⟩⟩, ?_⟩
    rintro m σ H2 ⟨k, e, y, rfl, rfl, hk, ⟨rfl, fs, M, hn, hlen, hv⟩ | ⟨rfl, cur, M, hlen, hv⟩⟩
    · refine ⟨_, rfl, _, rfl, if_yes rfl ⟨_, fun _ _ h => h, ?_⟩⟩
      refine ⟨_, rfl, _, rfl, _, rfl, z, k, h, rfl, hz, hk, fun wd hw => ?_, fun hb => (qer k (hv.trans (bad_go hb))).up M.same⟩
      obtain ⟨w1, w2, wf⟩ := word_facts (fs := fs) hw
      rw [← hv] at wf
      -- at = at + len(word)
      have ml : (mk wd).length = wd.length := mk_length wd
      refine ⟨_, rfl, _, rfl, mk wd, rfl, small (by omega), _, _, rfl, rfl, ?_⟩
      rw [← ml] at w1 w2 wf
      generalize hk' : k + (mk wd).length = k' at w2 wf
      -- if above: ..
      refine ⟨fun σ' H' => σ' = [some (.str z), some (.bl h), some (.ref pw), some (.ref pc), some (.ref pa), some (.int (k' : Int)), some (.bl false), some (.str (mk wd))] ∧ RdSt H pw pc pa (wdV (rowL fs)) (ctV (rowL fs)) (intsV (arnd fs)) H', ?_, ?_⟩
      · rw [← hk']
        refine ⟨_, rfl, _, .inl ⟨_, SqL.of M.a, rfl⟩, ?_⟩
        cases fs with
        | nil => exact if_no rfl ⟨rfl, M⟩
        | cons f r =>
          obtain ⟨wo, no, kr⟩ := f
          have ea : intsV (arnd ((wo, no, kr) :: r)) = intsV (arnd r) ++ [.int ((rowL r).length : Int)] := ints_app _ _
          have hlast : atI (intsV (arnd ((wo, no, kr) :: r))) (-1) = some (.int ((rowL r).length : Int)) := by rw [ea]; exact atI_last _ _
          have hyes : (!(intsV (arnd ((wo, no, kr) :: r))).isEmpty) = true := by
            rw [ea]
            cases intsV (arnd r) <;> rfl
          refine if_yes hyes ⟨.ref pc, rfl, .ref pa, rfl, 1, rfl, pa, _, -1, _, rfl, rfl, SqL.of M.a, hlast, pc, _, _, _, rfl, rfl, SqL.of M.c, atI_nat (ctV_at (rowL r) wo no kr), _, _, rfl, rfl, ?_⟩
          refine ⟨.ref pc, rfl, .ref pa, rfl, 1, rfl, pa, _, -1, _, rfl, rfl, SqL.of M.a, hlast, pc, _, _, _, rfl, rfl, M.c, Evl.ixN_nat ?_, rfl, ?_⟩
          · rw [ctV_len]
            show (rowL r).length < (rowL r ++ (wo, no) :: kr).length
            rw [List.length_append, List.length_cons]
            omega
          · have M2 := M.putC (ctV (rowL r ++ (wo, no + 1) :: kr))
            rw [← ctV_set (rowL r) wo no (no + 1) kr, rowP_wd] at M2
            have M3 : RdSt H pw pc pa (wdV (rowL ((wo, no, kr) :: r))) (ctV (rowL ((wo, no, kr) :: r))) (intsV (arnd ((wo, no, kr) :: r))) (upd H2 pc (.lst ((ctV (rowP ((wo, no, kr) :: r))).set (rowL r).length (.int ((no + 1 : Nat) : Int))))) := by
              rw [show ctV (rowL ((wo, no, kr) :: r)) = (ctV (rowL r ++ (wo, no) :: kr)).set (rowL r).length (.int ((no + 1 : Nat) : Int)) from (ctV_set (rowL r) wo no (no + 1) kr).symm]
              exact M2
            exact M3
      · rintro σ' H3 ⟨rfl, M3⟩
        have lr : (rowL fs).length ≤ k := by rw [rowP_len]; exact hlen
        -- words.append(word), counts.append(0)
        refine ⟨.ref pw, rfl, .inl ⟨rfl, _, SqL.of M3.w⟩, _, rfl, pw, _, _, rfl, rfl, M3.w, small1 (by rw [wdV_len]; omega), ?_⟩
        have M4 : RdSt H pw pc pa (wdV (rowL fs) ++ [.str (mk wd)]) (ctV (rowL fs)) (intsV (arnd fs)) (upd H3 pw (.lst (wdV (rowL fs) ++ [.str (mk wd)]))) := M3.putW _
        refine ⟨.ref pc, rfl, .inl ⟨rfl, _, SqL.of M4.c⟩, pc, _, _, rfl, rfl, M4.c, small1 (by rw [ctV_len]; omega), ?_⟩
        have M5 : RdSt H pw pc pa (wdV (rowL fs) ++ [.str (mk wd)]) (ctV (rowL fs) ++ [.int 0]) (intsV (arnd fs)) (upd (upd H3 pw (.lst (wdV (rowL fs) ++ [.str (mk wd)]))) pc (.lst (ctV (rowL fs) ++ [.int 0]))) := M4.putC _
        generalize upd (upd H3 pw (.lst (wdV (rowL fs) ++ [.str (mk wd)]))) pc (.lst (ctV (rowL fs) ++ [.int 0])) = H5 at M5 ⊢
        rw [← wd_snoc, ← ct_snoc] at M5
        have e1 : decide (V.str (cutS z (some (k' : Int)) (some ((k' : Int) + 1))) = V.str "(") = decide (((TL.tl z).drop k').head? = some 40) := slice1 (d := 40)
        have e2 : decide (V.str (mk wd) = V.str ".") = decide (wd = [46]) := sgw (b := [46])
        have e3 : decide (V.str (mk wd) = V.str "?") = decide (wd = [63]) := sgw (b := [63])
        have la : (arnd fs).length ≤ 100000 := by
          have h1 := arnd_le fs
          rw [rowP_len] at h1
          rw [arnd_length]
          omega
        have lw : (rowL fs ++ [((wd, 0) : Sy)]).length = (rowL fs).length + 1 := List.length_append
        refine ⟨_, rfl, _, rfl, _, rfl, _, rfl, _, _, rfl, rfl, _, rfl, z, rfl, small (by omega), rfl, _, rfl, ?_⟩
        rcases wf with ⟨h1, h2, h3, hv2⟩ | ⟨hno, hv2⟩
        · refine if_yes (e1.trans (decide_eq_true h1)) ⟨_, rfl, rfl, _, rfl, if_yes (by rw [e2, decide_eq_false h2]; rfl) ⟨_, rfl, rfl, _, rfl, if_yes (by rw [e3, decide_eq_false h3]; rfl) ?_⟩⟩
          obtain ⟨_, hlt, _⟩ := head_at (head_drop h1).choose_spec
          refine ⟨.ref pa, rfl, .inl ⟨rfl, _, SqL.of M5.a⟩, .ref pw, rfl, pw, _, rfl, .inl (SqL.of M5.w), _, _, rfl, rfl, pa, _, _, rfl, rfl, M5.a, small1 (by unfold intsV; rw [List.length_map]; omega), ?_⟩
          have M6 := M5.putA (intsV (arnd fs) ++ [.int (((wdV (rowL fs ++ [(wd, 0)])).length : Int) - 1)])
          have ea : intsV (arnd fs) ++ [.int (((wdV (rowL fs ++ [(wd, 0)])).length : Int) - 1)] = intsV (arnd ((wd, 0, []) :: fs)) := by
            rw [wdV_len, lw, show (((rowL fs).length + 1 : Nat) : Int) - 1 = ((rowL fs).length : Int) by omega]
            exact (ints_app _ _).symm
          have M7 : RdSt H pw pc pa (wdV (rowP ((wd, 0, []) :: fs))) (ctV (rowP ((wd, 0, []) :: fs))) (intsV (arnd ((wd, 0, []) :: fs))) (upd H5 pa (.lst (intsV (arnd fs) ++ [.int (((wdV (rowL fs ++ [(wd, 0)])).length : Int) - 1)]))) := by
            rw [← ea]
            exact M6
          refine ⟨_, rfl, _, _, rfl, rfl, ?_⟩
          refine ⟨_, ?_, k' + 1, false, some (.str (mk wd)), rfl, rfl, hlt, .inl ⟨rfl, (wd, 0, []) :: fs, M7, fun f hf => ?_, ?_, hv2⟩⟩
          · omega
          · rcases List.mem_cons.mp hf with rfl | hf
            · exact Nat.zero_le _
            · exact hn f hf
          · show (rowL fs ++ [((wd, 0) : Sy)]).length ≤ _
            omega
        · refine and_no (fun ha bA => ⟨_, rfl, rfl, _, rfl, and_no (fun hb bB => ⟨_, rfl, rfl, _, rfl, if_no ?_ bB⟩) bA⟩) ?_
          · cases hx : (!decide (V.str (mk wd) = V.str "?")) with
            | false => rfl
            | true =>
              refine absurd ⟨of_decide_eq_true (e1.symm.trans ha), fun z => ?_, fun z => ?_⟩ hno
              · rw [e2, decide_eq_true z] at hb
                cases hb
              · rw [e3, decide_eq_true z] at hx
                cases hx
          refine ⟨_, rfl, _, rfl, _, rfl, z, k', pa, arnd fs, rfl, hz, w2, M5.a, fun H6 m l hm hd hstop h6 hb6 => ?_⟩
          have M6 := M5.close _ hb6 h6
          rw [arnd_length] at hm hstop M6
          rw [← arnd_drop, ← popN_row m [(wd, 0)] fs hm] at M6
          have el : l = (TL.tl z).drop (k' + m) := by
            rw [← List.drop_drop, hd, List.drop_left' List.length_replicate]
          have hkm : k' + m ≤ z.length := by
            have := congrArg List.length hd
            rw [List.length_drop, List.length_append, List.length_replicate] at this
            omega
          have hlw : (rowL (fs.drop m) ++ popN m [(wd, 0)] fs).length ≤ k' + m := by
            rw [popN_row m [(wd, 0)] fs hm, lw]
            omega
          have hng : ∀ f ∈ fs.drop m, f.2.1 ≤ 3 := fun f hf => hn f (List.mem_of_mem_drop hf)
          rw [hd, go_pop m [(wd, 0)] fs k' l hm] at hv2
          have hst2 : fs.drop m ≠ [] → l.head? ≠ some 41 := fun hne => hstop.elim (fun z => absurd (List.drop_eq_nil_of_le (by omega)) hne) id
          generalize fs.drop m = gs at M6 hv2 hlw hng hst2
          generalize popN m [(wd, 0)] fs = cur at M6 hv2 hlw
          refine ⟨_, rfl, _, .inl ⟨_, SqL.of M6.a, rfl⟩, ?_⟩
          refine ⟨_, rfl, _, rfl, ?_⟩
          cases gs with
          | nil =>
            refine if_no rfl ?_
            refine ⟨_, ?_, k' + m, _, some (.str (mk wd)), rfl, rfl, hkm, .inr ⟨rfl, cur, M6, hlw, by rw [← el]; exact hv2⟩⟩
            omega
          | cons g r1 =>
            obtain ⟨wo, no, kr⟩ := g
            have ea : intsV (arnd ((wo, no, kr) :: r1)) = intsV (arnd r1) ++ [.int ((rowL r1).length : Int)] := ints_app _ _
            have hlast : atI (intsV (arnd ((wo, no, kr) :: r1))) (-1) = some (.int ((rowL r1).length : Int)) := by rw [ea]; exact atI_last _ _
            have hemp : (!(!(intsV (arnd ((wo, no, kr) :: r1))).isEmpty)) = false := by
              rw [ea]
              cases intsV (arnd r1) <;> rfl
            have hno3 : no ≤ 3 := hng _ (List.mem_cons_self ..)
            have erow : rowL ((wo, no, kr) :: r1) ++ cur = rowL r1 ++ (wo, no + 1) :: (kr ++ cur) := List.append_assoc ..
            rw [erow] at M6 hlw
            have f1 : decide (V.str (cutS z (some ((k' + m : Nat) : Int)) (some (((k' + m : Nat) : Int) + 1))) = V.str ",") = decide (l.head? = some 44) := by rw [el]; exact slice1 (d := 44)
            refine if_yes (by rw [hemp]; rfl) ⟨_, rfl, _, rfl, _, rfl, _, rfl, _, _, rfl, rfl, _, rfl, z, rfl, small (by omega), rfl, _, rfl, ?_⟩
            by_cases h44 : l.head? = some 44
            · obtain ⟨l2, hl2⟩ := head_drop h44
              obtain ⟨_, hlt, hdr⟩ := head_at (el.symm.trans hl2)
              refine if_no (by rw [f1, decide_eq_true h44]; rfl) ⟨.ref pc, rfl, .ref pa, rfl, 1, rfl, pa, _, -1, _, rfl, rfl, SqL.of M6.a, hlast, pc, _, _, _, rfl, rfl, SqL.of M6.c, atI_nat (ctV_at (rowL r1) wo (no + 1) (kr ++ cur)), rfl, _, rfl, ?_⟩
              by_cases h3 : no = 3
              · refine if_yes (decide_eq_true (by rw [h3]; rfl)) ⟨_, rfl, mk_ret (Q := E) ((qer (k' + m) ?_).up M6.same)⟩
                rw [hv2, hl2]
                refine go_none (step_two.trans (cls_none (by decide) (.inr fun w n kr r e => ?_)))
                cases e
                omega
              · refine if_no (decide_eq_false fun e => h3 (by have := V.int.inj e; omega)) ?_
                refine ⟨_, rfl, _, _, rfl, rfl, ?_⟩
                refine ⟨_, ?_, k' + m + 1, _, some (.str (mk wd)), rfl, rfl, hlt, .inl ⟨hemp, (wo, no + 1, kr ++ cur) :: r1, M6, fun f hf => ?_, ?_, ?_⟩⟩
                · omega
                · rcases List.mem_cons.mp hf with rfl | hf
                  · show no + 1 ≤ 3
                    omega
                  · exact hng f (List.mem_cons_of_mem _ hf)
                · show (rowL r1 ++ (wo, no + 1) :: (kr ++ cur)).length ≤ _
                  omega
                · rw [hv2, hl2, go_some (step_two.trans (cls_comma (by omega))), hdr]
            · refine if_yes (by rw [f1, decide_eq_false h44]; rfl) ⟨_, rfl, mk_ret (Q := E) ((qer (k' + m) ?_).up M6.same)⟩
              have h41 := hst2 (by intro z; cases z)
              rw [hv2]
              cases l with
              | nil => rw [go_nil, if_pos (.inr (by intro z; cases z))]
              | cons d l2 => exact go_none (step_two.trans (cls_none (fun z => h41 (by rw [z]; rfl)) (.inl fun z => h44 (by rw [z]; rfl))))
    · refine ⟨_, rfl, _, rfl, if_no rfl ?_⟩
      refine ⟨_, rfl, _, rfl, z, rfl, small (by omega), _, _, rfl, rfl, _, rfl, ?_⟩
      by_cases hlt : k < z.length
      · refine if_yes (decide_eq_true (by omega)) ⟨_, rfl, mk_ret (Q := E) ((qer k ?_).up M.same)⟩
        cases er : (TL.tl z).drop k with
        | nil => exact absurd (List.drop_eq_nil_iff.mp er) (by omega)
        | cons c r =>
          rw [hv, er]
          exact go_none (step_two.trans rfl)
      · refine if_no (decide_eq_false (by omega)) ⟨_, rfl, _, rfl, pw, pc, _, _, rfl, SqL.of M.w, SqL.of M.c, by rw [wdV_len, ctV_len], fun H' p ts s' hp hl hpair => ⟨p, _, rfl, .inl ⟨SqL.of hl, fun b hb => ?_⟩⟩⟩
        have s4 := same_new (o := .tup (ts.map V.ref)) hb
        refine qok cur ?_ _ b ((M.same.trans s').trans s4) ⟨_, upd_same, symsAt_keep (TK.of s4) (zip_tree hpair)⟩
        rw [hv, List.drop_eq_nil_of_le (by omega), go_nil, if_neg]
        rintro (h | h)
        · cases h
        · exact h rfl
end
end Kx

namespace Kx
open PySem PySem.Spec PyProof.Rows L2
section
variable {P : Program} {w : World} {K : PySem.W.Frag} {mg : Str → Option Value} {base : Heap} {f : Addr} {fd : FuncData}
/-! ### read_tree, read_pattern -/
theorem scReadT : FnScope ["text"] ["text"] (defScope (topS 15)) := ⟨rfl, rfl, rfl, by decide +kernel, rfl, by decide +kernel, by decide +kernel⟩
theorem scReadP : FnScope ["text"] ["text"] (defScope (topS 16)) := ⟨rfl, rfl, rfl, by decide +kernel, rfl, by decide +kernel, by decide +kernel⟩
def spRd (K : PySem.W.Frag) (CI CN : Addr) (h : Bool) : Sp := fun vs H Q E => ∃ x : V, vs = [x] ∧ ReadK K CI CN h x H Q E
theorem ok_read_tree {CI CN : Addr} (F : Fun K "read_tree" "read_tree" (topS 15) f fd) (c__a_read : Cal P w K mg base (L2.CX P w) 4 "_a_read" ["text", "holes"] (spRead K CI CN)) :
    FnOk P w K mg base (L2.CX P w) 5 f fd ["text"] (spRd K CI CN false) := by
  refine F.okX scReadT (fun vs H Q E h => ?_) (fun cdv A outer s H vs Q E hr h => ?_)
  · obtain ⟨x, rfl, _⟩ := h
    rfl
  · obtain ⟨x, rfl, q⟩ := h
    have sc := scReadT
    refine ⟨_, (pss_one (ps_ret (cox c__a_read hr (passes_call (takes_of rfl rfl rfl rfl) (fun _ _ _ _ h => h)) (pa_cons (pv 0) (pa_cons pe_bl pa_nil))))), ?_⟩
    exact ⟨_, rfl, x, false, rfl, q⟩
theorem ok_read_pattern {CI CN : Addr} (F : Fun K "read_pattern" "read_pattern" (topS 16) f fd) (c__a_read : Cal P w K mg base (L2.CX P w) 4 "_a_read" ["text", "holes"] (spRead K CI CN)) :
    FnOk P w K mg base (L2.CX P w) 5 f fd ["text"] (spRd K CI CN true) := by
  refine F.okX scReadP (fun vs H Q E h => ?_) (fun cdv A outer s H vs Q E hr h => ?_)
  · obtain ⟨x, rfl, _⟩ := h
    rfl
  · obtain ⟨x, rfl, q⟩ := h
    have sc := scReadP
    refine ⟨_, (pss_one (ps_ret (cox c__a_read hr (passes_call (takes_of rfl rfl rfl rfl) (fun _ _ _ _ h => h)) (pa_cons (pv 0) (pa_cons pe_bl pa_nil))))), ?_⟩
    exact ⟨_, rfl, x, true, rfl, q⟩
/-! ### shown -/
theorem join_mk (sep : List Nat) : ∀ l : List (List Nat), Txt.join (mk sep) (l.map mk) = mk (join sep l) := by
  intro l
  rw [TL.join_eq]
  refine TL.ext_tl ?_
  rw [TL.tl_join, tl_mk, tl_mk, List.map_map]
  have e : (TL.tl ∘ mk) = id := rfl
  rw [e, List.map_id]
  induction l with
  | nil => rfl
  | cons a r ih =>
    cases r with
    | nil => rfl
    | cons b r =>
      show a ++ (sep ++ TL.joinL sep (b :: r)) = a ++ sep ++ join sep (b :: r)
      rw [ih, List.append_assoc]
def txV (st : List (List Nat)) : List V := st.map fun t => V.str (mk t)
theorem txV_len (st : List (List Nat)) : (txV st).length = st.length := List.length_map _
theorem txV_app (a b : List (List Nat)) : txV (a ++ b) = txV a ++ txV b := List.map_append ..
/-- how many trees a rest of a tree's row is -/
theorem forest_drop : ∀ {row : List Sy} {n : Nat} (k : Nat), forest n row → ∃ p, forest p (row.drop k)
  | row, n, 0, h => ⟨n, h⟩
  | [], n, k + 1, h => ⟨0, rfl⟩
  | s :: r, 0, k + 1, h => h.elim
  | s :: r, n + 1, k + 1, h => forest_drop (row := r) k h
theorem short_drop {row : List Sy} (k : Nat) (h : Short row) : Short (row.drop k) := fun s hs => h s (List.mem_of_mem_drop hs)
theorem stw_len : ∀ st : List (List Nat), st.length ≤ stw st
  | [] => Nat.le_refl _
  | t :: st => by
    have ih := stw_len st
    have q : stw (t :: st) = (t.length + 1) + stw st := rfl
    rw [q, List.length_cons]
    omega
theorem sum_stw : ∀ st : List (List Nat), ((st.map mk).map (·.length)).sum + st.length = stw st
  | [] => rfl
  | t :: st => by
    have ih := sum_stw st
    have q : stw (t :: st) = (t.length + 1) + stw st := rfl
    rw [q, List.map_cons, List.map_cons, List.sum_cons, List.length_cons, mk_length]
    omega
theorem txV_map (st : List (List Nat)) : txV st = (st.map mk).map V.str := by
  unfold txV
  rw [List.map_map]
  rfl
structure ShSt (H : Hp) (pt pp : Addr) (Ts Ps : List V) (H' : Hp) : Prop where
  same : Same H H'
  t : H' pt = some (.lst Ts)
  p : H' pp = some (.lst Ps)
  ft : H pt = none
  fp : H pp = none
  ne : pt ≠ pp
theorem scShown : FnScope ["tree", "texts", "word", "many", "parts", "_", "inner"] ["tree"] (defScope (topS 18)) := ⟨rfl, rfl, rfl, by decide +kernel, rfl, by decide +kernel, by decide +kernel⟩
def spShown : Sp := fun vs H Q _ => ∃ (a : Addr) (row : List Sy), vs = [.ref a] ∧ TreeAt H a row ∧ forest 1 row ∧ Short row ∧ row.length ≤ 100000 ∧ ∀ H', Same H H' → Q (.str (mk (show_ row))) H'
theorem ok_shown (F : Fun K "shown" "shown" (topS 18) f fd) (B : Blt mg) : FnOk P w K mg base CX0 1 f fd ["tree"] spShown := by
  refine F.ok scShown (fun vs H Q E h => ?_) (fun cdv A outer s H vs Q E hr h => ?_)
  · obtain ⟨a, row, rfl, _⟩ := h
    rfl
  · obtain ⟨a, row, rfl, hT, hf, hsh, hl, q⟩ := h
    have sc := scShown
    refine ⟨_, (pss_cons (ps_set (i := 1) sc.nd rfl (Or.inl rfl) (pe_lst pa_nil))
    (pss_cons (ps_for PassesOwn.never rfl (RT.pi_revA (by rfl) B.reversed (pv 0)) (pg_tup rfl (pgs_cons (pg_name (i := 2) sc.nd rfl (Or.inl rfl)) (pgs_cons (pg_name (i := 3) sc.nd rfl (Or.inl rfl)) pgs_nil)))
      (pss_cons (ps_set (i := 4) sc.nd rfl (Or.inl rfl) (pe_lst pa_nil))
    (pss_cons (ps_for PassesOwn.never rfl (pi_range1 (by rfl) B.range (pa_cons (pv 3) pa_nil)) (pg_name (i := 5) sc.nd rfl (Or.inl rfl))
      (pss_one (ps_expr (pe_bm PySem.F.plainAttrs_list PySem.F.slot_list_append PySem.F.type_list_append mt_append (pv 4) (pa_cons (pe_bm0 PySem.F.plainAttrs_list PySem.F.slot_list_pop PySem.F.type_list_pop mt_pop (pv 1)) pa_nil)))))
    (pss_cons (ps_set (i := 6) sc.nd rfl (Or.inl rfl) (pe_join pe_str (pv 4)))
    (pss_one (ps_expr (pe_bm PySem.F.plainAttrs_list PySem.F.slot_list_append PySem.F.type_list_append mt_append (pv 1) (pa_cons (pe_ifExp (pt_cmpR op_gt (pv 3) pe_int (nomark _)) (pe_joined (PJ.cons (pe_fmt (pv 2)) (PJ.cons pe_str (PJ.cons (pe_fmt (pv 6)) (PJ.cons pe_str PJ.nil))))) (pv 2)) pa_nil))))))))
    (pss_one (ps_ret (pe_ix ix_list (pv 1) pe_int (fun _ _ => rfl)))))), ?_⟩
    obtain ⟨vs, hv, hp⟩ := hT
    have lv := pair_len hp
    refine ⟨Nat.zero_le _, fun pt hpt => ?_⟩
    have s1 : Same H (upd H pt (.lst [])) := same_new hpt
    have bd : ∀ k, stw (stack (row.drop k)) ≤ 1900000 := fun k => by
      have h1 := stw_bound (short_drop k hsh)
      have h2 : (16 + 3) * (row.drop k).length ≤ 19 * 100000 := Nat.mul_le_mul_left _ (by rw [List.length_drop]; omega)
      omega
    refine ⟨_, rfl, a, vs, rfl, .inr ⟨SqT.of (s1 _ _ hv), RT.for_ItvT (fun i σ H' => ∃ (y2 y3 y4 y5 y6 : Option V), σ = [some (.ref a), some (.ref pt), y2, y3, y4, y5, y6] ∧ Same H H' ∧ H' pt = some (.lst (txV (stack (row.drop (vs.length - i))).reverse))) ⟨none, none, none, none, none, rfl, s1, ?_⟩ ?_ ?_ ?_⟩⟩
    · rw [Nat.sub_zero, lv, List.drop_length]
      exact upd_same
    · rintro i σ H' ⟨y2, y3, y4, y5, y6, rfl, hs, _⟩
      exact SqT.of (hs _ _ hv)
    · rintro i x σ H1 hi hx ⟨y2, y3, y4, y5, y6, rfl, hs1, ht1⟩
      obtain ⟨s, hsj⟩ : ∃ s, row[vs.length - 1 - i]? = some s := ⟨_, List.getElem?_eq_getElem (by omega)⟩
      obtain ⟨vj, hvj, b, rfl, hb⟩ := pair_get hp hsj
      have ex : x = .ref b := Option.some.inj (hx.symm.trans hvj)
      subst ex
      have er : row.drop (vs.length - (i + 1)) = s :: row.drop (vs.length - i) := by
        rw [show vs.length - (i + 1) = vs.length - 1 - i by omega, show vs.length - i = vs.length - 1 - i + 1 by omega]
        have hj : vs.length - 1 - i < row.length := by omega
        rw [List.drop_eq_getElem_cons hj]
        congr 1
        exact Option.some.inj ((List.getElem?_eq_getElem hj).symm.trans hsj)
      obtain ⟨p0, hp0⟩ := forest_drop (vs.length - (i + 1)) hf
      rw [er] at hp0
      have hst : s.2 ≤ (stack (row.drop (vs.length - i))).length := by
        cases p0 with
        | zero => exact hp0.elim
        | succ p1 =>
          have := stack_length (r := row.drop (vs.length - i)) (n := p1 + s.2) hp0
          omega
      have hw16 : s.1.length ≤ 16 := hsh s (List.mem_of_getElem? hsj)
      have es : stack (row.drop (vs.length - (i + 1))) = push s (stack (row.drop (vs.length - i))) := by rw [er]; rfl
      have bst := bd (vs.length - i)
      have bst2 := bd (vs.length - (i + 1))
      rw [es] at bst2 ⊢
      generalize stack (row.drop (vs.length - i)) = st at ht1 hst bst bst2 ⊢
      have lst := stw_len st
      have ls2 := stw_len (push s st)
      refine ⟨b, _, rfl, SqT.of (hs1 _ _ hb), rfl, _, _, rfl, _, _, rfl, rfl, ?_⟩
      refine ⟨Nat.zero_le _, fun pp hpp => ?_⟩
      have M0 : ShSt H pt pp (txV (st.drop 0).reverse) (txV (st.take 0)) (upd H1 pp (.lst [])) := ⟨hs1.trans (same_new hpp), same_new hpp _ _ ht1, upd_same, hpt, hs1.free hpp, ne_of_none ht1 hpp⟩
      refine ⟨_, rfl, _, rfl, by omega, by omega, for_range (lo := 0) (n := ((s.2 : Nat) : Int).toNat) (fun t σ H' => ∃ (y5 y6 : Option V), σ = [some (.ref a), some (.ref pt), some (.str (mk s.1)), some (.int (s.2 : Int)), some (.ref pp), y5, y6] ∧ ShSt H pt pp (txV (st.drop t).reverse) (txV (st.take t)) H') ⟨y5, y6, rfl, M0⟩ ?_ ?_⟩
      · rintro t σ H2 ht ⟨y5, y6, rfl, M⟩
        rw [Int.toNat_natCast] at ht
        have htl : t < st.length := by omega
        have e1 : (st.drop t).reverse = (st.drop (t + 1)).reverse ++ [st[t]] := by
          rw [List.drop_eq_getElem_cons htl, List.reverse_cons]
        have e2 : st.take (t + 1) = st.take t ++ [st[t]] := by
          rw [List.take_add_one, List.getElem?_eq_getElem htl]
          rfl
        have Mt := M.t
        rw [e1, txV_app] at Mt
        have hlen : (txV (st.take t)).length ≤ 1900000 := by rw [txV_len, List.length_take]; omega
        have nep : upd H2 pt (.lst (txV (st.drop (t + 1)).reverse)) pp = some (.lst (txV (st.take t))) := by rw [upd_ne (Ne.symm M.ne)]; exact M.p
        refine ⟨_, rfl, .inl ⟨rfl, _, SqL.of M.p⟩, .ref pt, rfl, .inl ⟨rfl, _, SqL.of Mt⟩, pt, _, .str (mk st[t]), rfl, rfl, Mt, ?_, ?_⟩
        · rw [List.length_append, List.getElem?_append_right (by show _ ≤ _ + 1 - 1; omega)]
          show [V.str (mk st[t])][_ + 1 - 1 - _]? = _
          rw [show (txV (st.drop (t + 1)).reverse).length + 1 - 1 - (txV (st.drop (t + 1)).reverse).length = 0 by omega]
          rfl
        · have ed : (txV (st.drop (t + 1)).reverse ++ txV [st[t]]).dropLast = txV (st.drop (t + 1)).reverse := List.dropLast_concat
          rw [ed]
          refine ⟨pp, _, _, rfl, rfl, nep, small1 (by omega), _, _, rfl, Same.mut (Same.mut M.same M.ft) M.fp, by rw [upd_ne M.ne, upd_same], ?_, M.ft, M.fp, M.ne⟩
          rw [upd_same, e2, txV_app]
          rfl
      · rintro σ H2 ⟨y5, y6, rfl, M⟩
        rw [Int.toNat_natCast] at M
        have hsum := sum_stw (st.take s.2)
        have hstw : stw (st.take s.2) ≤ stw st := by
          have := stw_append (st.take s.2) (st.drop s.2)
          rw [List.take_append_drop] at this
          omega
        have ej : Txt.join "," ((st.take s.2).map mk) = mk (join [44] (st.take s.2)) := join_mk [44] (st.take s.2)
        have hjl := join_length (st.take s.2)
        have c0 : Str.empty.length = 0 := rfl
        have c1 : ("(" : Str).length = 1 := rfl
        have c2 : (")" : Str).length = 1 := rfl
        have c3 : ("," : Str).length = 1 := rfl
        have ltx : (txV (st.drop s.2).reverse).length ≤ 1900000 := by rw [txV_len, List.length_reverse, List.length_drop]; omega
        have fin : ∀ (out : Str) (y6 : Option V), out = mk (if 0 < s.2 then s.1 ++ [40] ++ join [44] (st.take s.2) ++ [41] else s.1) → ∃ (y2' y3' y4' y5' y6' : Option V), ([some (.ref a), some (.ref pt), some (.str (mk s.1)), some (.int (s.2 : Int)), some (.ref pp), y5, y6] : L2.St) = [some (.ref a), some (.ref pt), y2', y3', y4', y5', y6'] ∧ Same H (upd H2 pt (.lst (txV (st.drop s.2).reverse ++ [.str out]))) ∧ (upd H2 pt (.lst (txV (st.drop s.2).reverse ++ [.str out]))) pt = some (.lst (txV (push s st).reverse)) := fun out y6 e => by
          refine ⟨_, _, _, _, _, rfl, Same.mut M.same M.ft, ?_⟩
          rw [upd_same, e]
          show _ = some (HO.lst (txV (_ :: st.drop s.2).reverse))
          rw [List.reverse_cons, txV_app]
          rfl
        refine ⟨⟨_, rfl⟩, _, rfl, ",", pp, (st.take s.2).map mk, rfl, rfl, .inl (by rw [← txV_map]; exact SqL.of M.p), ?_, ?_⟩
        · rw [c3, List.length_map]
          omega
        · refine ⟨_, rfl, .inl ⟨rfl, _, SqL.of M.t⟩, _, rfl, _, _, rfl, rfl, _, rfl, ?_⟩
          by_cases h0 : 0 < s.2
          · refine if_yes (decide_eq_true (by omega)) ⟨_, rfl, .inl ⟨mk s.1, rfl, small (by rw [mk_length]; omega), mk s.1, rfl, small ?_, "(", rfl, small ?_, _, rfl, .inl ⟨_, rfl, small ?_, _, rfl, small ?_, ")", rfl, small ?_, pt, _, _, rfl, rfl, M.t, small1 (by omega), fin _ _ ?_⟩⟩⟩
            · simp only [Str.length_append, mk_length, c0]; omega
            · simp only [Str.length_append, mk_length, c0, c1]; omega
            · rw [ej, mk_length]; omega
            · simp only [Str.length_append, ej, mk_length, c0, c1]; omega
            · simp only [Str.length_append, ej, mk_length, c0, c1, c2]; omega
            · rw [ej, if_pos h0]
              show mk [] ++ mk s.1 ++ mk [40] ++ mk (join [44] (st.take s.2)) ++ mk [41] = _
              rw [mk_app, mk_app, mk_app, mk_app, List.nil_append]
          · refine if_no (decide_eq_false (by omega)) ⟨_, rfl, pt, _, _, rfl, rfl, M.t, small1 (by omega), fin _ _ ?_⟩
            rw [if_neg h0]
    · rintro σ H' ⟨y2, y3, y4, y5, y6, rfl, hs, ht⟩
      rw [Nat.sub_self, List.drop_zero, stack_one hf] at ht
      exact ⟨_, rfl, pt, _, 0, _, rfl, rfl, SqL.of ht, rfl, q _ hs⟩
end
end Kx

namespace Kx
open PySem PySem.Spec PyProof.Rows L2
section
variable {P : Program} {w : World} {K : PySem.W.Frag} {mg : Str → Option Value} {base : Heap} {f : Addr} {fd : FuncData}
theorem ix_listK {X : Cx} {K : PySem.W.Frag} (h : X.K = K) : IxR X (rIxL K) := by
  subst h
  exact ix_list
theorem ix_tupK {X : Cx} {K : PySem.W.Frag} (h : X.K = K) : IxR X (rIxT K) := by
  subst h
  exact ix_tup
/-! ### _law_shown -/
/-- where the nodes with parts among the first k end -/
def EE (row : List Sy) : Nat → List Nat
  | 0 => []
  | k + 1 => match row[k]? with
    | some s => if 0 < s.2 then (k + far 1 (row.drop k)) :: EE row k else EE row k
    | none => EE row k
theorem EE_succ {row : List Sy} {k : Nat} {s : Sy} (h : row[k]? = some s) : EE row (k + 1) = if 0 < s.2 then (k + far 1 (row.drop k)) :: EE row k else EE row k := by
  show (match row[k]? with
    | some s => if 0 < s.2 then (k + far 1 (row.drop k)) :: EE row k else EE row k
    | none => EE row k) = _
  rw [h]
theorem EE_len (row : List Sy) : ∀ k, (EE row k).length ≤ k
  | 0 => Nat.le_refl _
  | k + 1 => by
    have ih := EE_len row k
    show (match row[k]? with
      | some s => if 0 < s.2 then (k + far 1 (row.drop k)) :: EE row k else EE row k
      | none => EE row k).length ≤ _
    split
    · split
      · rw [List.length_cons]
        omega
      · omega
    · omega
theorem rep_flat (c : Nat) : ∀ n : Nat, (List.replicate n [c]).flatten = List.replicate n c
  | 0 => rfl
  | n + 1 => by rw [List.replicate_succ, List.flatten_cons, rep_flat c n]; rfl
/-- where the trees that begin at 0, .., n - 1 end -/
def endV (row : List Sy) (n : Nat) : List V := (List.range n).map fun j => V.int ((j + far 1 (row.drop j) : Nat) : Int)
theorem endV_succ (row : List Sy) (n : Nat) : endV row (n + 1) = endV row n ++ [.int ((n + far 1 (row.drop n) : Nat) : Int)] := by
  unfold endV
  rw [List.range_succ, List.map_append]
  rfl
theorem endV_get {row : List Sy} {n j : Nat} (h : j < n) : (endV row n)[j]? = some (.int ((j + far 1 (row.drop j) : Nat) : Int)) := by
  unfold endV
  rw [List.getElem?_map, List.getElem?_range h]
  rfl
theorem endV_len (row : List Sy) (n : Nat) : (endV row n).length = n := by
  unfold endV
  rw [List.length_map, List.length_range]
theorem emit_cons (k : Nat) (E : List Nat) (s : Sy) (r : List Sy) : emit k E (s :: r) = if 0 < s.2 then s.1 ++ [40] ++ emit (k + 1) ((k + far 1 (s :: r)) :: E) r else s.1 ++ List.replicate (E.count (k + 1)) 41 ++ (if r = [] then [] else [44]) ++ emit (k + 1) E r := rfl
theorem scLShown : FnScope ["_law_row", "_law_k", "_law_ends", "_law_line", "_law_j"] ["_law_row"] (defScope (topS 26)) := ⟨rfl, rfl, rfl, by decide +kernel, rfl, by decide +kernel, by decide +kernel⟩
def spLShown : Sp := fun vs H Q _ => ∃ (a : Addr) (row : List Sy), vs = [.ref a] ∧ TreeAt H a row ∧ forest 1 row ∧ Short row ∧ row.length ≤ 60 ∧ ∀ H', Same H H' → Q (.str (mk (show_ row))) H'
theorem ok_lshown (F : Fun K "_law_shown" "_law_shown" (topS 26) f fd) (B : Blt mg) (c__law_far : Cal P w K mg base CX0 1 "_law_far" ["_law_row", "_law_at"] spFar) : FnOk P w K mg base CX0 2 f fd ["_law_row"] spLShown := by
  refine F.ok scLShown (fun vs H Q E h => ?_) (fun cdv A outer s H vs Q E hr h => ?_)
  · obtain ⟨a, row, rfl, _⟩ := h
    rfl
  · obtain ⟨a, row, rfl, ⟨vs, hv, hp⟩, hf, hsh, hl, q⟩ := h
    have sc := scLShown
    refine ⟨_, (pss_cons (ps_set (i := 2) sc.nd rfl (Or.inr rfl) (pe_lc (own := [("_law_k", 1)]) (g := gName 1) (tt := tYes) rfl sc.nd (pi_range1 (by rfl) B.range (pa_cons (pe_callB call_len_seq (by rfl) B.len PySem.boot_len (pa_cons (pv 0) pa_nil)) pa_nil)) (blkOk_by (N := ["_law_row", "_law_k", "_law_ends", "_law_line", "_law_j"]) (sc := defScope (topS 26)) (by decide +kernel)) (fun _ _ _ _ _ => pg_name (i := 1) sc.nd rfl (Or.inl rfl)) (fun _ _ _ _ _ => pts_nil) (fun _ _ _ _ _ => (co c__law_far hr (pa_cons (pv 0) (pa_cons (pv 1) pa_nil))))))
    (pss_cons (ps_set (i := 3) sc.nd rfl (Or.inl rfl) pe_str)
    (pss_cons (ps_for PassesOwn.never rfl (pi_range1 (by rfl) B.range (pa_cons (pe_callB call_len_seq (by rfl) B.len PySem.boot_len (pa_cons (pv 0) pa_nil)) pa_nil)) (pg_name (i := 1) sc.nd rfl (Or.inr rfl))
      (pss_cons (ps_set (i := 3) sc.nd rfl (Or.inl rfl) (pe_op op_add_str (pv 3) (pe_ix ix_tup (pe_ix ix_tup (pv 0) (pv 1) (fun _ _ => rfl)) pe_int (fun _ _ => rfl))))
    (pss_one (ps_if (pt_cmpR op_gt (pe_ix ix_tup (pe_ix ix_tup (pv 0) (pv 1) (fun _ _ => rfl)) pe_int (fun _ _ => rfl)) pe_int (nomark _))
      (pss_one (ps_set (i := 3) sc.nd rfl (Or.inl rfl) (pe_op op_add_str (pv 3) pe_str)))
      (pss_cons (ps_set (i := 3) sc.nd rfl (Or.inl rfl) (pe_op op_add_str (pv 3) (pe_op op_mul_str pe_str (pe_callB call_len_seq (by rfl) B.len PySem.boot_len (pa_cons (pe_lc (own := [("_law_j", 4)]) (g := gName 4) (tt := _) rfl sc.nd (pi_range1 (by rfl) B.range (pa_cons (pv 1) pa_nil)) (blkOk_by (N := ["_law_row", "_law_k", "_law_ends", "_law_line", "_law_j"]) (sc := defScope (topS 26)) (by decide +kernel)) (fun _ _ _ _ _ => pg_name (i := 4) sc.nd rfl (Or.inl rfl)) (fun _ _ _ _ _ => pts_one (PW.pt (pw_and (pt_cmpR op_gt (pe_ix (ix_tupK (K := K) rfl) (pe_ix (ix_tupK (K := K) rfl) (pv 0) (pv 4) (fun _ _ => rfl)) pe_int (fun _ _ => rfl)) pe_int (nomark _)) (pw_and1 (pt_cmpR op_eq (pe_ix (ix_listK (K := K) rfl) (pv 2) (pv 4) (fun _ _ => rfl)) (pe_op op_add (pv 1) pe_int) (nomark _)))))) (fun _ _ _ _ _ => (pv 4))) pa_nil)))))
    (pss_one (ps_if (pt_cmpR op_lt (pe_op op_add (pv 1) pe_int) (pe_callB call_len_seq (by rfl) B.len PySem.boot_len (pa_cons (pv 0) pa_nil)) (nomark _))
      (pss_one (ps_set (i := 3) sc.nd rfl (Or.inl rfl) (pe_op op_add_str (pv 3) pe_str)))
      pss_nil)))))))
    (pss_one (ps_ret (pv 3)))))), ?_⟩
    have lv := pair_len hp
    refine ⟨_, rfl, a, vs, rfl, .inr (SqT.of hv), _, rfl, by omega, by omega, fun D hD => lc_range (lo := 0) (n := ((vs.length : Nat) : Int).toNat) (fun i H1 => H1 = upd H D (.lst (endV row i))) rfl ?_ ?_⟩
    · rintro i H1 hi rfl
      rw [Int.toNat_natCast] at hi
      have sD := same_new (o := .lst (endV row i)) hD
      obtain ⟨x, y, ed, hx, _⟩ := piece_of hf (show i < row.length by omega)
      refine ⟨rfl, ?_⟩
      refine ⟨_, rfl, _, rfl, a, row, i, x, y, by rw [Int.zero_add]; rfl, ⟨vs, sD _ _ hv, symsAt_keep (TK.of sD) hp⟩, ed, hx, _, upd_same, small1 (by rw [endV_len]; omega), ?_⟩
      rw [upd_upd, endV_succ, ed, far_forest y hx]
    · rintro H1 rfl
      rw [Int.toNat_natCast, lv]
      have sD := same_new (o := .lst (endV row row.length)) hD
      have hDv : upd H D (.lst (endV row row.length)) D = some (.lst (endV row row.length)) := upd_same
      generalize upd H D (.lst (endV row row.length)) = H1 at sD hDv ⊢
      have bnd : (show_ row).length ≤ 1140 := by
        have h1 := show_le (row := row)
        have h2 := stw_bound hsh
        have h3 : (16 + 3) * row.length ≤ 19 * 60 := Nat.mul_le_mul_left _ hl
        omega
      refine ⟨_, rfl, a, vs, rfl, .inr (SqT.of (sD _ _ hv)), _, rfl, by omega, by omega, for_range (lo := 0) (n := ((vs.length : Nat) : Int).toNat) (fun k σ H' => ∃ (y1 y4 : Option V) (pre : List Nat), σ = [some (.ref a), y1, some (.ref D), some (.str (mk pre)), y4] ∧ pre ++ emit k (EE row k) (row.drop k) = show_ row ∧ Same H1 H') ⟨_, _, [], rfl, emit_show hf, Same.refl _⟩ ?_ ?_⟩
      · rintro k σ H2 hk ⟨y1, y4, pre, rfl, hpre, hs2⟩
        rw [Int.toNat_natCast] at hk
        have ek : (0 : Int) + (k : Int) = (k : Int) := Int.zero_add _
        obtain ⟨s, hsk⟩ : ∃ s, row[k]? = some s := ⟨_, List.getElem?_eq_getElem (by omega)⟩
        have hT2 := symsAt_keep (TK.of (sD.trans hs2)) hp
        obtain ⟨vk, hvk, b, rfl, hb⟩ := pair_get hT2 hsk
        have hv2 := hs2 _ _ (sD _ _ hv)
        have er : row.drop k = s :: row.drop (k + 1) := by
          have hj : k < row.length := by omega
          rw [List.drop_eq_getElem_cons hj]
          congr 1
          exact Option.some.inj ((List.getElem?_eq_getElem hj).symm.trans hsk)
        have hEE := EE_succ hsk
        have hlen := congrArg List.length hpre
        rw [List.length_append] at hlen
        have hpre' := hpre
        rw [er, emit_cons] at hpre
        have hw16 : s.1.length ≤ 16 := hsh s (List.mem_of_getElem? hsk)
        refine ⟨_, rfl, _, rfl, _, rfl, a, vs, _, _, rfl, rfl, SqT.of hv2, at_of ek hvk, b, _, 0, _, rfl, rfl, SqT.of hb, rfl, _, _, rfl, rfl, small (by rw [mk_length, mk_length]; omega), ?_⟩
        refine ⟨_, rfl, _, rfl, a, vs, _, _, rfl, rfl, SqT.of hv2, at_of ek hvk, b, _, 1, _, rfl, rfl, SqT.of hb, rfl, _, _, rfl, rfl, _, rfl, ?_⟩
        by_cases h0 : 0 < s.2
        · refine if_yes (decide_eq_true (by omega)) ⟨_, rfl, _, _, rfl, rfl, small ?_, ?_⟩
          · rw [mk_app, mk_length, List.length_append]
            show _ + 1 ≤ _
            omega
          · rw [if_pos h0, List.append_assoc] at hpre
            refine ⟨_, _, pre ++ s.1 ++ [40], by rw [← mk_app, ← mk_app]; rfl, ?_, hs2⟩
            rw [hEE, if_pos h0, er, List.append_assoc, List.append_assoc]
            exact hpre
        · rw [if_neg h0] at hpre
          refine if_no (decide_eq_false (by omega)) ⟨_, rfl, _, rfl, _, rfl, by omega, by omega, fun D2 hD2 => lc_range (lo := 0) (n := ((0 : Int) + (k : Int)).toNat) (fun j H3 => ∃ l, H3 = upd H2 D2 (.lst l) ∧ l.length = (EE row j).count (k + 1)) ⟨[], rfl, rfl⟩ ?_ ?_⟩
          · rintro j H3 hj ⟨l, rfl, hcl⟩
            rw [ek, Int.toNat_natCast] at hj
            have s3 := same_new (o := .lst l) hD2
            have ej : (0 : Int) + (j : Int) = (j : Int) := Int.zero_add _
            obtain ⟨sj, hsj⟩ : ∃ s, row[j]? = some s := ⟨_, List.getElem?_eq_getElem (by omega)⟩
            obtain ⟨vj, hvj, bj, rfl, hbj⟩ := pair_get hT2 hsj
            have hEj := EE_succ hsj
            have hcount := List.count_le_length (a := k + 1) (l := EE row j)
            have hEl := EE_len row j
            refine ⟨rfl, ?_⟩
            refine ⟨_, rfl, _, rfl, a, vs, _, _, rfl, rfl, SqT.of (s3 _ _ hv2), at_of ej hvj, bj, _, 1, _, rfl, rfl, SqT.of (s3 _ _ hbj), rfl, _, _, rfl, rfl, _, rfl, ?_⟩
            by_cases hj0 : 0 < sj.2
            · rw [if_pos hj0] at hEj
              refine if_yes (decide_eq_true (by omega)) ⟨_, rfl, _, rfl, D, _, _, _, rfl, rfl, SqL.of (s3 _ _ (hs2 _ _ hDv)), at_of ej (endV_get (by omega)), _, rfl, _, _, rfl, rfl, rfl, _, rfl, ?_⟩
              by_cases hje : j + far 1 (row.drop j) = k + 1
              · refine if_yes (decide_eq_true (by rw [hje, ek]; rfl)) ⟨_, rfl, _, upd_same, small1 (by omega), _, by rw [upd_upd], ?_⟩
                rw [List.length_append, List.length_singleton, hcl, hEj, hje, List.count_cons_self]
              · refine if_no (decide_eq_false fun e => hje (by have := V.int.inj e; omega)) ⟨l, rfl, ?_⟩
                rw [hcl, hEj, List.count_cons_of_ne hje]
            · rw [if_neg hj0] at hEj
              exact if_no (decide_eq_false (by omega)) ⟨l, rfl, by rw [hcl, hEj]⟩
          · rintro H3 ⟨l, rfl, hcl⟩
            rw [ek, Int.toNat_natCast] at hcl
            have hcount := List.count_le_length (a := k + 1) (l := EE row k)
            have hEl := EE_len row k
            have s3 := same_new (o := .lst l) hD2
            have hf41 : (List.replicate l.length (TL.tl (")" : Str))).flatten = List.replicate ((EE row k).count (k + 1)) 41 := by
              rw [← hcl]
              exact rep_flat 41 _
            have hll : (mk (List.replicate l.length (TL.tl (")" : Str))).flatten).length = (EE row k).count (k + 1) := by rw [hf41, mk_length, List.length_replicate]
            refine ⟨D2, l, rfl, .inl (SqL.of upd_same), ")", l.length, rfl, rfl, by decide, by omega, _, _, rfl, rfl, small (by rw [hll, mk_app, mk_length, List.length_append]; omega), ?_⟩
            refine ⟨_, rfl, _, _, rfl, rfl, _, rfl, a, vs, rfl, .inr (SqT.of (s3 _ _ hv2)), _, _, rfl, rfl, _, rfl, ?_⟩
            by_cases hk1 : k + 1 < row.length
            · rw [if_neg (fun z => absurd (List.drop_eq_nil_iff.mp z) (by omega))] at hpre
              refine if_yes (decide_eq_true (by omega)) ⟨_, rfl, _, _, rfl, rfl, small ?_, ?_⟩
              · rw [Str.length_append, hll, mk_app, mk_length, List.length_append]
                show _ + 1 ≤ _
                omega
              · refine ⟨_, _, pre ++ s.1 ++ List.replicate ((EE row k).count (k + 1)) 41 ++ [44], by rw [← hf41, ← mk_app, ← mk_app, ← mk_app]; rfl, ?_, hs2.trans s3⟩
                rw [hEE, if_neg h0, List.append_assoc, List.append_assoc, List.append_assoc]
                rw [List.append_assoc, List.append_assoc] at hpre
                exact hpre
            · refine if_no (decide_eq_false (by omega)) ⟨_, _, pre ++ s.1 ++ List.replicate ((EE row k).count (k + 1)) 41, by rw [← hf41, ← mk_app, ← mk_app]; rfl, ?_, hs2.trans s3⟩
              rw [if_pos (List.drop_eq_nil_of_le (by omega))] at hpre
              rw [hEE, if_neg h0, List.append_assoc, List.append_assoc]
              rw [List.append_nil, List.append_assoc] at hpre
              exact hpre
      · rintro σ H2 ⟨y1, y4, pre, rfl, hpre, hs2⟩
        rw [Int.toNat_natCast, lv, List.drop_length] at hpre
        refine ⟨_, rfl, ?_⟩
        have e : pre = show_ row := by
          rw [← hpre]
          exact (List.append_nil pre).symm
        rw [e]
        exact q _ (sD.trans hs2)
end
end Kx

namespace Kx
open PySem PySem.Spec PyProof.Rows L2
section
variable {P : Program} {w : World} {K : PySem.W.Frag} {mg : Str → Option Value} {base : Heap} {f : Addr} {fd : FuncData}
/-! ### _law_read -/
def NdAt (H : Hp) (b : Addr) (s : Sy) : Prop := H b = some (.lst [.str (mk s.1), .int (s.2 : Int)])
theorem mem_ne {b a : Addr} {bs : List Addr} (hb : b ∈ bs) (n : a ∉ bs) : b ≠ a := fun z => n (by rw [← z]; exact hb)
structure LrSt (H : Hp) (pr pa : Addr) (bs : List Addr) (rows : List Sy) (As : List V) (H' : Hp) : Prop where
  same : Same H H'
  r : H' pr = some (.lst (bs.map V.ref))
  a : H' pa = some (.lst As)
  n : Paired (NdAt H') bs rows
  fr : H pr = none
  fa : H pa = none
  fb : ∀ b ∈ bs, H b = none
  ne : pr ≠ pa
  nr : pr ∉ bs
  na : pa ∉ bs
  nd : bs.Nodup
theorem nds_keep {H H' : Hp} : ∀ {bs : List Addr} {rows : List Sy}, (∀ b ∈ bs, ∀ o, H b = some o → H' b = some o) → Paired (NdAt H) bs rows → Paired (NdAt H') bs rows
  | _, _, _, .nil => .nil
  | _, _, k, .cons q t => .cons (k _ (List.mem_cons_self ..) _ q) (nds_keep (fun b hb => k b (List.mem_cons_of_mem _ hb)) t)
theorem nds_set {H : Hp} {x : V} {y : V} {s : Sy} {b : Addr} (hs : [x, y] = [V.str (mk s.1), V.int (s.2 : Int)]) {bs : List Addr} {rows : List Sy} (p : Paired (NdAt H) bs rows) :
    ∀ {i : Nat}, bs.Nodup → bs[i]? = some b → Paired (NdAt (upd H b (.lst [x, y]))) bs (rows.set i s) := by
  induction p with
  | nil =>
    intro i _ h
    simp at h
  | @cons c s2 l m q t ih =>
    intro i nd h
    have nd2 := List.nodup_cons.mp nd
    cases i with
    | zero =>
      have e : c = b := Option.some.inj h
      subst e
      refine .cons ?_ (nds_keep (fun b hb o e => ?_) t)
      · show upd H c _ c = _
        rw [upd_same, hs]
      · rw [upd_ne (mem_ne hb nd2.1)]
        exact e
    | succ i =>
      have h' : l[i]? = some b := h
      have hi : b ∈ l := List.mem_of_getElem? h'
      refine .cons ?_ (ih nd2.2 h')
      show upd H b _ c = _
      rw [upd_ne (Ne.symm (mem_ne hi nd2.1))]
      exact q
section
variable {H H1 : Hp} {pr pa : Addr} {bs : List Addr} {rows : List Sy} {As : List V}
theorem LrSt.putA (m : LrSt H pr pa bs rows As H1) (l : List V) : LrSt H pr pa bs rows l (upd H1 pa (.lst l)) :=
  ⟨Same.mut m.same m.fa, by rw [upd_ne m.ne]; exact m.r, upd_same, nds_keep (fun b hb o e => by rw [upd_ne (mem_ne hb m.na)]; exact e) m.n, m.fr, m.fa, m.fb, m.ne, m.nr, m.na, m.nd⟩
theorem LrSt.set (m : LrSt H pr pa bs rows As H1) {i : Nat} {b : Addr} {x y : V} {s : Sy} (h : bs[i]? = some b) (hs : [x, y] = [V.str (Kx.mk s.1), V.int (s.2 : Int)]) : LrSt H pr pa bs (rows.set i s) As (upd H1 b (.lst [x, y])) := by
  have hb := List.mem_of_getElem? h
  exact ⟨Same.mut m.same (m.fb b hb), by rw [upd_ne (Ne.symm (mem_ne hb m.nr))]; exact m.r, by rw [upd_ne (Ne.symm (mem_ne hb m.na))]; exact m.a, nds_set hs m.n m.nd h, m.fr, m.fa, m.fb, m.ne, m.nr, m.na, m.nd⟩
theorem LrSt.push (m : LrSt H pr pa bs rows As H1) {b : Addr} {s : Sy} (h : H1 b = none) : LrSt H pr pa (bs ++ [b]) (rows ++ [s]) As (upd (upd H1 b (.lst [.str (Kx.mk s.1), .int (s.2 : Int)])) pr (.lst (bs.map V.ref ++ [.ref b]))) := by
  have nb : ∀ c ∈ bs, c ≠ b := fun c hc z => by
    obtain ⟨i, hi⟩ := List.mem_iff_getElem?.mp hc
    have hi2 : i < rows.length := by
      rw [← pair_len m.n]
      exact (List.getElem?_eq_some_iff.mp hi).1
    obtain ⟨c2, hc2, q⟩ := pair_get m.n (List.getElem?_eq_getElem hi2)
    have e : c2 = c := Option.some.inj (hc2.symm.trans hi)
    rw [e, z] at q
    rw [show H1 b = _ from q] at h
    cases h
  have nr : pr ≠ b := ne_of_none m.r h
  have na : pa ≠ b := ne_of_none m.a h
  refine ⟨Same.mut (m.same.trans (same_new h)) m.fr, by rw [upd_same, List.map_append]; rfl, by rw [upd_ne (Ne.symm m.ne), upd_ne na]; exact m.a, pair_snoc (nds_keep (fun c hc o e => ?_) m.n) ?_, m.fr, m.fa, fun c hc => ?_, m.ne, ?_, ?_, ?_⟩
  · rw [upd_ne (mem_ne hc m.nr), upd_ne (nb c hc)]
    exact e
  · show upd (upd H1 b _) pr _ b = _
    rw [upd_ne (Ne.symm nr), upd_same]
  · rcases List.mem_append.mp hc with hc | hc
    · exact m.fb c hc
    · rw [List.mem_singleton.mp hc]
      exact m.same.free h
  · intro z
    rcases List.mem_append.mp z with z | z
    · exact m.nr z
    · exact nr (List.mem_singleton.mp z)
  · intro z
    rcases List.mem_append.mp z with z | z
    · exact m.na z
    · exact na (List.mem_singleton.mp z)
  · refine List.nodup_append.mpr ⟨m.nd, List.nodup_cons.mpr ⟨List.not_mem_nil, List.nodup_nil⟩, fun x hx y hy => ?_⟩
    rw [List.mem_singleton.mp hy]
    exact nb x hx
end
theorem raised_mk {H : Hp} {p : Addr} {k : Nat} (h : H p = some (.tup [.str "raised", .bl true, .int 0, .int k])) : DAt H (resD (.error k)) (.ref p) :=
  ⟨p, _, rfl, h, _, _, rfl, rfl, _, _, rfl, rfl, _, _, rfl, rfl, _, _, rfl, rfl, rfl⟩
theorem told_mk {H : Hp} {p a : Addr} {row : List Sy} (h : H p = some (.tup [.str "told", .ref a])) (t : TreeAt H a row) : DAt H (resD (.ok row)) (.ref p) :=
  ⟨p, _, rfl, h, _, _, rfl, rfl, _, _, rfl, rowD_at.mpr ⟨a, rfl, t⟩, rfl⟩
theorem set_mid (a : List Sy) (s t : Sy) (b : List Sy) : (a ++ s :: b).set a.length t = a ++ t :: b := by
  rw [List.set_append_right _ _ (Nat.le_refl _), Nat.sub_self]
  rfl
theorem goes_in (c : Nat) : decide (c ∈ (("abcdefghijklmnopqrstuvwxyz" : Str) ++ "0123456789-").cps.toList) = goes c := by
  have e : (("abcdefghijklmnopqrstuvwxyz" : Str) ++ "0123456789-").cps.toList = lowL ++ othL := by decide +kernel
  rw [e]
  unfold goes
  rw [Bool.eq_iff_iff, decide_eq_true_iff, Bool.or_eq_true, decide_eq_true_iff, decide_eq_true_iff, List.mem_append]
theorem syms_of {H : Hp} : ∀ {ps : List Addr} {row : List Sy}, Paired (fun p s => H p = some (.tup [.str (mk s.1), .int (s.2 : Int)])) ps row → Paired (SymAt H) (ps.map V.ref) row
  | _, _, .nil => .nil
  | _, _, .cons q t => .cons ⟨_, rfl, q⟩ (syms_of t)
theorem scLRead : FnScope ["_law_line", "_law_holes", "_law_low", "_law_row", "_law_around", "_law_state", "_law_k", "_law_sign", "_law_pair"] ["_law_line", "_law_holes"] (defScope (topS 27)) := ⟨rfl, rfl, rfl, by decide +kernel, rfl, by decide +kernel, by decide +kernel⟩
def spLRead : Sp := fun vs H Q _ => ∃ (z : Str) (h : Bool), vs = [.str z, .bl h] ∧ z.length ≤ 100000 ∧ ∀ H' v, Same H H' → DAt H' (resD (verdict h (TL.tl z))) v → Q v H'
theorem ok_lread (F : Fun K "_law_read" "_law_read" (topS 27) f fd) (B : Blt mg) : FnOk P w K mg base CX0 1 f fd ["_law_line", "_law_holes"] spLRead := by
  refine F.ok scLRead (fun vs H Q E h => ?_) (fun cdv A outer s H vs Q E hr h => ?_)
  · obtain ⟨z, h, rfl, _⟩ := h
    rfl
  · obtain ⟨z, h, rfl, hz, q⟩ := h
    have sc := scLRead
    refine ⟨_, (pss_cons (ps_set (i := 2) sc.nd rfl (Or.inl rfl) pe_str)
    (pss_cons (ps_set (i := 3) sc.nd rfl (Or.inl rfl) (pe_lst pa_nil))
    (pss_cons (ps_set (i := 4) sc.nd rfl (Or.inl rfl) (pe_lst pa_nil))
    (pss_cons (ps_set (i := 5) sc.nd rfl (Or.inl rfl) pe_int)
    (pss_cons (ps_for PassesOwn.never rfl (pi_range1 (by rfl) B.range (pa_cons (pe_callB call_len_str (by rfl) B.len PySem.boot_len (pa_cons (pv 0) pa_nil)) pa_nil)) (pg_name (i := 6) sc.nd rfl (Or.inl rfl))
      (pss_cons (ps_set (i := 7) sc.nd rfl (Or.inl rfl) (pe_ix ix_str (pv 0) (pv 6) (fun _ _ => rfl)))
    (pss_one (ps_if (PW.pt (pw_and (pt_cmpR op_eq (pv 5) pe_int (nomark _)) (pw_and1 (pt_cmpR op_in_sign (pv 7) (pv 2) (by rfl)))))
      (pss_cons (ps_expr (pe_bm PySem.F.plainAttrs_list PySem.F.slot_list_append PySem.F.type_list_append mt_append (pv 3) (pa_cons (pe_lst (pa_cons (pv 7) (pa_cons pe_int pa_nil))) pa_nil)))
    (pss_one (ps_set (i := 5) sc.nd rfl (Or.inl rfl) pe_int)))
      (pss_one (ps_if (PW.pt (pw_and (pt_cmpR op_eq (pv 5) pe_int (nomark _)) (pw_and1 (PW.pt (pw_or (pt_cmpR op_eq (pv 7) pe_str (nomark _)) (pw_or1 (PW.pt (pw_and (pt_val (pv 1)) (pw_and1 (pt_cmpR op_eq (pv 7) pe_str (nomark _)))))))))))
      (pss_cons (ps_expr (pe_bm PySem.F.plainAttrs_list PySem.F.slot_list_append PySem.F.type_list_append mt_append (pv 3) (pa_cons (pe_lst (pa_cons (pv 7) (pa_cons pe_int pa_nil))) pa_nil)))
    (pss_one (ps_set (i := 5) sc.nd rfl (Or.inl rfl) pe_int)))
      (pss_one (ps_if (PW.pt (pw_and (pt_cmpR op_eq (pv 5) pe_int (nomark _)) (pw_and (pt_cmpR op_in_sign (pv 7) (pe_op op_add_str (pv 2) pe_str) (by rfl)) (pw_and1 (pt_cmpR op_lt (pe_callB call_len_str (by rfl) B.len PySem.boot_len (pa_cons (pe_ix ix_list (pe_ix ix_list (pv 3) (pe_un un_neg pe_int) (fun _ _ => rfl)) pe_int (fun _ _ => rfl)) pa_nil)) pe_int (nomark _))))))
      (pss_one (ps_asg (pe_op op_add_str (pe_ix ix_list (pe_ix ix_list (pv 3) (pe_un un_neg pe_int) (fun _ _ => rfl)) pe_int (fun _ _ => rfl)) (pv 7)) (pg_sub (pe_ix ix_list (pv 3) (pe_un un_neg pe_int) (fun _ _ => rfl)) pe_int set_list)))
      (pss_one (ps_if (PW.pt (pw_and (pt_cmpR op_eq (pv 5) pe_int (nomark _)) (pw_and1 (pt_cmpR op_eq (pv 7) pe_str (nomark _)))))
      (pss_cons (ps_expr (pe_bm PySem.F.plainAttrs_list PySem.F.slot_list_append PySem.F.type_list_append mt_append (pv 4) (pa_cons (pe_op op_sub (pe_callB call_len_seq (by rfl) B.len PySem.boot_len (pa_cons (pv 3) pa_nil)) pe_int) pa_nil)))
    (pss_cons (ps_asg pe_int (pg_sub (pe_ix ix_list (pv 3) (pe_un un_neg pe_int) (fun _ _ => rfl)) pe_int set_list))
    (pss_one (ps_set (i := 5) sc.nd rfl (Or.inl rfl) pe_int))))
      (pss_one (ps_if (PW.pt (pw_and (pt_cmpR op_gt (pv 5) pe_int (nomark _)) (pw_and (pt_cmpR op_eq (pv 7) pe_str (nomark _)) (pw_and (pt_cmpR op_gt (pe_callB call_len_seq (by rfl) B.len PySem.boot_len (pa_cons (pv 4) pa_nil)) pe_int (nomark _)) (pw_and1 (pt_cmpR op_lt (pe_ix ix_list (pe_ix ix_list (pv 3) (pe_ix ix_list (pv 4) (pe_un un_neg pe_int) (fun _ _ => rfl)) (fun _ _ => rfl)) pe_int (fun _ _ => rfl)) pe_int (nomark _)))))))
      (pss_cons (ps_asg (pe_op op_add (pe_ix ix_list (pe_ix ix_list (pv 3) (pe_ix ix_list (pv 4) (pe_un un_neg pe_int) (fun _ _ => rfl)) (fun _ _ => rfl)) pe_int (fun _ _ => rfl)) pe_int) (pg_sub (pe_ix ix_list (pv 3) (pe_ix ix_list (pv 4) (pe_un un_neg pe_int) (fun _ _ => rfl)) (fun _ _ => rfl)) pe_int set_list))
    (pss_one (ps_set (i := 5) sc.nd rfl (Or.inl rfl) pe_int)))
      (pss_one (ps_if (PW.pt (pw_and (pt_cmpR op_gt (pv 5) pe_int (nomark _)) (pw_and (pt_cmpR op_eq (pv 7) pe_str (nomark _)) (pw_and1 (pt_cmpR op_gt (pe_callB call_len_seq (by rfl) B.len PySem.boot_len (pa_cons (pv 4) pa_nil)) pe_int (nomark _))))))
      (pss_cons (ps_expr (pe_bm0 PySem.F.plainAttrs_list PySem.F.slot_list_pop PySem.F.type_list_pop mt_pop (pv 4)))
    (pss_one (ps_set (i := 5) sc.nd rfl (Or.inl rfl) pe_int)))
      (pss_one (ps_ret (pe_tup (pa_cons pe_str (pa_cons pe_bl (pa_cons pe_int (pa_cons (pv 6) pa_nil)))))))))))))))))))))
    (pss_cons (ps_if (PW.pt (pw_or (pt_cmpR op_eq (pv 5) pe_int (nomark _)) (pw_or1 (pt_cmpR op_gt (pe_callB call_len_seq (by rfl) B.len PySem.boot_len (pa_cons (pv 4) pa_nil)) pe_int (nomark _)))))
      (pss_one (ps_ret (pe_tup (pa_cons pe_str (pa_cons pe_bl (pa_cons pe_int (pa_cons (pe_callB call_len_str (by rfl) B.len PySem.boot_len (pa_cons (pv 0) pa_nil)) pa_nil)))))))
      pss_nil)
    (pss_one (ps_ret (pe_tup (pa_cons pe_str (pa_cons (pe_callTy call_tuple_of (by rfl) B.tuple PyProof.Rows.boot_tuple (pa_cons (pe_lc (own := [("_law_pair", 8)]) (g := gName 8) (tt := tYes) rfl sc.nd (pi_list (pv 3)) (blkOk_by (N := ["_law_line", "_law_holes", "_law_low", "_law_row", "_law_around", "_law_state", "_law_k", "_law_sign", "_law_pair"]) (sc := defScope (topS 27)) (by decide +kernel)) (fun _ _ _ _ _ => pg_name (i := 8) sc.nd rfl (Or.inl rfl)) (fun _ _ _ _ _ => pts_nil) (fun _ _ _ _ _ => (pe_tup (pa_cons (pe_ix (ix_listK (K := K) rfl) (pv 8) pe_int (fun _ _ => rfl)) (pa_cons (pe_ix (ix_listK (K := K) rfl) (pv 8) pe_int (fun _ _ => rfl)) pa_nil))))) pa_nil)) pa_nil))))))))))), ?_⟩
    have hzl : z.length = (TL.tl z).length := TL.len_tl z
    refine ⟨Nat.zero_le _, fun pr hpr => ⟨Nat.zero_le _, fun pa hpa => ?_⟩⟩
    have s1 : Same H (upd H pr (.lst [])) := same_new hpr
    have s2 := s1.trans (same_new (o := .lst []) hpa)
    have nra : pr ≠ pa := fun z => by rw [← z, upd_same] at hpa; cases hpa
    have M0 : LrSt H pr pa [] [] [] (upd (upd H pr (.lst [])) pa (.lst [])) :=
      ⟨s2, by rw [upd_ne nra, upd_same]; rfl, upd_same, .nil, hpr, s1.free hpa, fun b hb => (by cases hb), nra, List.not_mem_nil, List.not_mem_nil, List.nodup_nil⟩
    generalize upd (upd H pr (.lst [])) pa (.lst []) = H0 at M0
    refine ⟨_, rfl, z, rfl, small (by omega), _, rfl, by omega, by omega, for_range (lo := 0) (n := ((z.length : Nat) : Int).toNat) (fun k σ H' => ∃ (fs : List Fr) (cur : List Sy) (st : Nat) (bs : List Addr) (y6 y7 : Option V), σ = [some (.str z), some (.bl h), some (.str "abcdefghijklmnopqrstuvwxyz"), some (.ref pr), some (.ref pa), some (.int (st : Int)), y6, y7, none] ∧
        LrSt H pr pa bs (rowL fs ++ cur) (intsV (arnd fs)) H' ∧ (rowL fs ++ cur).length ≤ k ∧ ((st = 0 ∧ cur = []) ∨ (st = 1 ∧ ∃ w, cur = [(w, 0)] ∧ w.length ≤ 16) ∨ st = 2) ∧ verdict h (TL.tl z) = go h ⟨fs, cur, st⟩ k ((TL.tl z).drop k)) ⟨[], [], 0, [], none, none, rfl, M0, Nat.le_refl _, .inl ⟨rfl, rfl⟩, rfl⟩ ?_ ?_⟩
    · rintro k σ H1 hk ⟨fs, cur, st, bs, y6, y7, rfl, M, hlen, hst, hv⟩
      rw [Int.toNat_natCast] at hk
      have ek : (0 : Int) + (k : Int) = (k : Int) := Int.zero_add _
      obtain ⟨c, r, hr'⟩ : ∃ c r, (TL.tl z).drop k = c :: r := by
        cases e : (TL.tl z).drop k with
        | nil => exact absurd (List.drop_eq_nil_iff.mp e) (by omega)
        | cons c r => exact ⟨c, r, rfl⟩
      obtain ⟨hc, hk2, hd⟩ := head_at hr'
      have hat : atI z.cps.toList ((0 : Int) + (k : Int)) = some c := by rw [ek]; exact atI_nat hc
      have lb := pair_len M.n
      have fin : ∀ H' p, Same H H' → H' p = none → verdict h (TL.tl z) = .error k → Q (.ref p) (upd H' p (.tup [.str "raised", .bl true, .int 0, .int ((0 : Int) + (k : Int))])) := fun H' p hs hp hv => by
        refine q _ _ (hs.trans (same_new hp)) ?_
        rw [hv]
        refine raised_mk ?_
        rw [upd_same, ek]
      have e46 : decide (V.str ⟨#[c]⟩ = V.str ".") = decide (c = 46) := sgn (d := 46)
      have e63 : decide (V.str ⟨#[c]⟩ = V.str "?") = decide (c = 63) := sgn (d := 63)
      have e40 : decide (V.str ⟨#[c]⟩ = V.str "(") = decide (c = 40) := sgn (d := 40)
      have e41 : decide (V.str ⟨#[c]⟩ = V.str ")") = decide (c = 41) := sgn (d := 41)
      have e44 : decide (V.str ⟨#[c]⟩ = V.str ",") = decide (c = 44) := sgn (d := 44)
      rw [hr'] at hv
      refine ⟨_, rfl, _, rfl, z, _, c, rfl, rfl, small (by omega), hat, ?_⟩
      by_cases h0 : st = 0
      · subst h0
        have hcur : cur = [] := by
          rcases hst with ⟨_, e⟩ | ⟨e, _⟩ | e
          · exact e
          · cases e
          · cases e
        subst hcur
        by_cases c1 : c ∈ lowL
        · refine ⟨_, rfl, rfl, _, rfl, if_yes rfl ⟨_, rfl, _, rfl, c, _, rfl, rfl, _, rfl, if_yes (by rw [low_tl]; exact decide_eq_true c1) ?_⟩⟩
          refine ⟨.ref pr, rfl, .inl ⟨rfl, _, SqL.of M.r⟩, _, rfl, by show 2 ≤ sizeLine; decide, fun b hb => ⟨pr, _, _, rfl, rfl, same_new hb _ _ M.r, small1 (by rw [List.length_map]; omega), ?_⟩⟩
          refine ⟨fs, [([c], 0)], 1, bs ++ [b], _, _, rfl, ?_, ?_, .inr (.inl ⟨rfl, _, rfl, by show 1 ≤ 16; decide⟩), ?_⟩
          · have M2 := M.push (b := b) (s := ([c], 0)) hb
            rw [List.append_nil] at M2
            exact M2
          · rw [List.append_nil] at hlen
            rw [List.length_append, List.length_singleton]
            omega
          · rw [hv, go_some (step_low c1), hd]
        · by_cases c2 : c = 46 ∨ (h = true ∧ c = 63)
          · have body : ∀ (Z : Prop), Z → Z := fun _ z => z
            have next : ∀ b, H1 b = none → LrSt H pr pa (bs ++ [b]) (rowL fs ++ [([c], 0)]) (intsV (arnd fs)) (upd (upd H1 b (.lst [.str (mk [c]), .int ((0 : Nat) : Int)])) pr (.lst (bs.map V.ref ++ [.ref b]))) ∧ (rowL fs ++ [(([c], 0) : Sy)]).length ≤ k + 1 ∧ verdict h (TL.tl z) = go h ⟨fs, [([c], 0)], 2⟩ (k + 1) ((TL.tl z).drop (k + 1)) := fun b hb => by
              refine ⟨?_, ?_, ?_⟩
              · have M2 := M.push (b := b) (s := ([c], 0)) hb
                rw [List.append_nil] at M2
                exact M2
              · rw [List.append_nil] at hlen
                rw [List.length_append, List.length_singleton]
                omega
              · rw [hv, go_some (step_dot c2), hd]
            refine ⟨_, rfl, rfl, _, rfl, if_yes rfl ⟨_, rfl, _, rfl, c, _, rfl, rfl, _, rfl, if_no (by rw [low_tl]; exact decide_eq_false c1) ?_⟩⟩
            refine ⟨_, rfl, rfl, _, rfl, if_yes rfl ⟨_, rfl, rfl, _, rfl, ?_⟩⟩
            by_cases c3 : c = 46
            · refine if_yes (e46.trans (decide_eq_true c3)) ⟨.ref pr, rfl, .inl ⟨rfl, _, SqL.of M.r⟩, _, rfl, by show 2 ≤ sizeLine; decide, fun b hb => ⟨pr, _, _, rfl, rfl, same_new hb _ _ M.r, small1 (by rw [List.length_map]; omega), ?_⟩⟩
              obtain ⟨n1, n2, n3⟩ := next b hb
              exact ⟨fs, [([c], 0)], 2, bs ++ [b], _, _, rfl, n1, n2, .inr (.inr rfl), n3⟩
            · have c4 := c2.resolve_left c3
              refine if_no (e46.trans (decide_eq_false c3)) ⟨_, rfl, _, rfl, if_yes c4.1 ⟨_, rfl, rfl, _, rfl, if_yes (e63.trans (decide_eq_true c4.2)) ⟨.ref pr, rfl, .inl ⟨rfl, _, SqL.of M.r⟩, _, rfl, by show 2 ≤ sizeLine; decide, fun b hb => ⟨pr, _, _, rfl, rfl, same_new hb _ _ M.r, small1 (by rw [List.length_map]; omega), ?_⟩⟩⟩⟩
              obtain ⟨n1, n2, n3⟩ := next b hb
              exact ⟨fs, [([c], 0)], 2, bs ++ [b], _, _, rfl, n1, n2, .inr (.inr rfl), n3⟩
          · have he : verdict h (TL.tl z) = .error k := hv.trans (go_none (step_bad c1 c2))
            refine ⟨_, rfl, rfl, _, rfl, if_yes rfl ⟨_, rfl, _, rfl, c, _, rfl, rfl, _, rfl, if_no (by rw [low_tl]; exact decide_eq_false c1) ?_⟩⟩
            refine ⟨_, rfl, rfl, _, rfl, if_yes rfl ⟨_, rfl, rfl, _, rfl, if_no (e46.trans (decide_eq_false fun z => c2 (.inl z))) ⟨_, rfl, _, rfl, and_no (fun hh b => ⟨_, rfl, rfl, _, rfl, if_no (e63.trans (decide_eq_false fun z => c2 (.inr ⟨hh, z⟩))) b⟩) ?_⟩⟩⟩
            refine ⟨_, rfl, rfl, _, rfl, if_no rfl ⟨_, rfl, rfl, _, rfl, if_no rfl ⟨_, rfl, _, _, rfl, rfl, _, rfl, if_no rfl ⟨_, rfl, _, _, rfl, rfl, _, rfl, if_no rfl ⟨_, rfl, by show 4 ≤ sizeLine; decide, fun p hp => fin _ _ M.same hp he⟩⟩⟩⟩⟩
      · have d0 : decide (V.int (st : Int) = V.int 0) = false := decide_eq_false fun e => h0 (by have := V.int.inj e; omega)
        have dp : decide ((0 : Int) < (st : Int)) = true := decide_eq_true (by omega)
        have hst' : (st = 1 ∧ ∃ w, cur = [(w, 0)] ∧ w.length ≤ 16) ∨ st = 2 := by
          rcases hst with ⟨e, _⟩ | e
          · exact absurd e h0
          · exact e
        have last : ∀ w, cur = [(w, 0)] → ∃ b, bs[(rowL fs).length]? = some b ∧ H1 b = some (.lst [.str (mk w), .int ((0 : Nat) : Int)]) ∧ atI (bs.map V.ref) (-1) = some (.ref b) ∧ ixN (bs.map V.ref).length (-1) = some (rowL fs).length := fun w e => by
          subst e
          rw [List.length_append, List.length_singleton] at lb
          have hg : (rowL fs ++ [((w, 0) : Sy)])[(rowL fs).length]? = some (w, 0) := by
            rw [List.getElem?_append_right (Nat.le_refl _), Nat.sub_self]
            rfl
          obtain ⟨b, hb, hn⟩ := pair_get M.n hg
          have hix : ixN (bs.map V.ref).length (-1) = some (rowL fs).length := by
            rw [List.length_map]
            unfold ixN
            rw [if_neg (by decide), if_pos (by omega)]
            congr 1
            omega
          refine ⟨b, hb, hn, ?_, hix⟩
          unfold atI
          rw [hix]
          show (bs.map V.ref)[(rowL fs).length]? = _
          rw [List.getElem?_map, hb]
          rfl
        refine ⟨_, rfl, rfl, _, rfl, if_no d0 ⟨_, rfl, rfl, _, rfl, if_no d0 ⟨_, rfl, rfl, _, rfl, ?_⟩⟩⟩
        by_cases h3 : st = 1 ∧ goes c = true ∧ (wrd cur).length < 16
        · -- one more sign of the word
          obtain ⟨h31, h32, h33⟩ := h3
          subst h31
          obtain ⟨w, ew, lw16⟩ : ∃ w, cur = [(w, 0)] ∧ w.length ≤ 16 := by
            rcases hst' with ⟨_, e⟩ | e
            · exact e
            · cases e
          obtain ⟨b, hb, hn, hlast, hix⟩ := last w ew
          subst ew
          have h33' : w.length < 16 := h33
          refine if_yes rfl ⟨_, rfl, _, rfl, _, _, rfl, rfl, by decide, c, _, rfl, rfl, _, rfl, if_yes ((goes_in c).trans h32) ?_⟩
          refine ⟨_, rfl, 1, rfl, pr, _, -1, _, rfl, rfl, SqL.of M.r, hlast, b, _, 0, _, rfl, rfl, SqL.of hn, rfl, mk w, rfl, small (by rw [mk_length]; omega), _, _, rfl, rfl, _, rfl, if_yes (decide_eq_true (by rw [mk_length]; omega)) ?_⟩
          refine ⟨_, rfl, 1, rfl, pr, _, -1, _, rfl, rfl, SqL.of M.r, hlast, b, _, 0, _, rfl, rfl, SqL.of hn, rfl, _, rfl, _, _, rfl, rfl, small (by rw [mk_length]; show _ + 1 ≤ _; omega), ?_⟩
          refine ⟨_, rfl, 1, rfl, pr, _, -1, _, rfl, rfl, SqL.of M.r, hlast, b, _, 0, 0, rfl, rfl, hn, rfl, ?_⟩
          have M2 := M.set (s := (w ++ [c], 0)) (x := .str (mk w ++ ⟨#[c]⟩)) (y := .int ((0 : Nat) : Int)) hb (by rw [← mk_app]; rfl)
          rw [set_mid] at M2
          refine ⟨fs, [(w ++ [c], 0)], 1, bs, _, _, rfl, M2, ?_, .inr (.inl ⟨rfl, _, rfl, by rw [List.length_append, List.length_singleton]; omega⟩), ?_⟩
          · rw [List.length_append, List.length_singleton] at hlen ⊢
            omega
          · rw [hv, go_some (step_go h32 h33'), hd]
        · refine and_no (fun hs1 bB => ?_) ?_
          · have hs1' : st = 1 := by have := V.int.inj (of_decide_eq_true hs1); omega
            obtain ⟨w, ew, lw16⟩ : ∃ w, cur = [(w, 0)] ∧ w.length ≤ 16 := by
              rcases hst' with ⟨_, e⟩ | e
              · exact e
              · omega
            obtain ⟨b, hb, hn, hlast, hix⟩ := last w ew
            refine ⟨_, rfl, _, rfl, _, _, rfl, rfl, by decide, c, _, rfl, rfl, _, rfl, and_no (fun hg bC => ?_) bB⟩
            have h33 : ¬ w.length < 16 := fun z => h3 ⟨hs1', (goes_in c).symm.trans hg, by rw [ew]; exact z⟩
            have hw16 : (mk w).length ≤ 16000000 := by rw [mk_length]; omega
            exact ⟨_, rfl, 1, rfl, pr, _, -1, _, rfl, rfl, SqL.of M.r, hlast, b, _, 0, _, rfl, rfl, SqL.of hn, rfl, mk w, rfl, small hw16, _, _, rfl, rfl, _, rfl, if_no (decide_eq_false (by rw [mk_length]; omega)) bC⟩
          · refine ⟨_, rfl, rfl, _, rfl, ?_⟩
            by_cases h4 : st = 1 ∧ c = 40
            · -- a bracket opens
              obtain ⟨h41, h42⟩ := h4
              subst h41 h42
              obtain ⟨w, ew, lw16⟩ : ∃ w, cur = [(w, 0)] ∧ w.length ≤ 16 := by
                rcases hst' with ⟨_, e⟩ | e
                · exact e
                · cases e
              obtain ⟨b, hb, hn, hlast, hix⟩ := last w ew
              subst ew
              have la := arnd_le fs
              have hlen' := hlen
              rw [List.length_append, List.length_singleton] at hlen'
              refine if_yes rfl ⟨_, rfl, rfl, _, rfl, if_yes (e40.trans rfl) ?_⟩
              refine ⟨.ref pa, rfl, .inl ⟨rfl, _, SqL.of M.a⟩, _, rfl, pr, _, rfl, .inl (SqL.of M.r), _, _, rfl, rfl, pa, _, _, rfl, rfl, M.a, small1 (by unfold intsV; rw [List.length_map, arnd_length]; omega), ?_⟩
              have M2 := M.putA (intsV (arnd fs) ++ [.int (((bs.map V.ref).length : Int) - 1)])
              have hn2 : upd H1 pa (.lst (intsV (arnd fs) ++ [.int (((bs.map V.ref).length : Int) - 1)])) b = some (.lst [.str (mk w), .int ((0 : Nat) : Int)]) := by
                rw [upd_ne (mem_ne (List.mem_of_getElem? hb) M.na)]
                exact hn
              refine ⟨_, rfl, 1, rfl, pr, _, -1, _, rfl, rfl, SqL.of M2.r, hlast, b, _, 1, 1, rfl, rfl, hn2, rfl, ?_⟩
              have M3 := M2.set (s := (w, 1)) (x := .str (mk w)) (y := .int 1) hb rfl
              rw [set_mid] at M3
              have ea : intsV (arnd fs) ++ [.int (((bs.map V.ref).length : Int) - 1)] = intsV (arnd ((w, 0, []) :: fs)) := by
                rw [List.length_map, lb, List.length_append, List.length_singleton, show (((rowL fs).length + 1 : Nat) : Int) - 1 = ((rowL fs).length : Int) by omega]
                exact (ints_app _ _).symm
              have er : rowL ((w, 0, []) :: fs) ++ [] = rowL fs ++ (w, 1) :: [] := List.append_nil _
              refine ⟨(w, 0, []) :: fs, [], 0, bs, _, _, rfl, ?_, ?_, .inl ⟨rfl, rfl⟩, ?_⟩
              · rw [er]
                rw [← ea]
                exact M3
              · rw [er, List.length_append, List.length_singleton]
                omega
              · rw [hv, go_some step_open, hd]
            · refine and_no (fun hs1 bB => ⟨_, rfl, rfl, _, rfl, if_no (e40.trans (decide_eq_false fun z => h4 ⟨by have := V.int.inj (of_decide_eq_true hs1); omega, z⟩)) bB⟩) ?_
              have hcls : step h ⟨fs, cur, st⟩ c = cls c cur fs := step_cls h0 fun e => ⟨fun z => h3 ⟨e, z⟩, fun z => h4 ⟨e, z⟩⟩
              rw [go_eq, hcls] at hv
              refine ⟨_, rfl, _, _, rfl, rfl, _, rfl, if_yes dp ⟨_, rfl, rfl, _, rfl, ?_⟩⟩
              by_cases c44 : c = 44
              · subst c44
                refine if_yes (e44.trans rfl) ?_
                have n41 : decide (V.str ⟨#[44]⟩ = V.str ")") = false := e41.trans rfl
                cases fs with
                | nil => exact ⟨_, rfl, pa, _, rfl, .inl (SqL.of M.a), _, _, rfl, rfl, _, rfl, if_no rfl ⟨_, rfl, _, _, rfl, rfl, _, rfl, if_yes dp ⟨_, rfl, rfl, _, rfl, if_no n41 ⟨_, rfl, by show 4 ≤ sizeLine; decide, fun p hp => fin _ _ M.same hp hv⟩⟩⟩⟩
                | cons g r1 =>
                  obtain ⟨wo, no, kr⟩ := g
                  have ea : intsV (arnd ((wo, no, kr) :: r1)) = intsV (arnd r1) ++ [.int ((rowL r1).length : Int)] := ints_app _ _
                  have hlast : atI (intsV (arnd ((wo, no, kr) :: r1))) (-1) = some (.int ((rowL r1).length : Int)) := by rw [ea]; exact atI_last _ _
                  have hpos : decide ((0 : Int) < ((intsV (arnd ((wo, no, kr) :: r1))).length : Int)) = true := by
                    rw [ea, List.length_append]
                    exact decide_eq_true (by show (0 : Int) < ((_ + 1 : Nat) : Int); omega)
                  have erow : rowL ((wo, no, kr) :: r1) ++ cur = rowL r1 ++ (wo, no + 1) :: (kr ++ cur) := List.append_assoc ..
                  rw [erow] at M hlen
                  have hg : (rowL r1 ++ (wo, no + 1) :: (kr ++ cur))[(rowL r1).length]? = some (wo, no + 1) := by
                    rw [List.getElem?_append_right (Nat.le_refl _), Nat.sub_self]
                    rfl
                  obtain ⟨b, hb, hn⟩ := pair_get M.n hg
                  have hbv : (bs.map V.ref)[(rowL r1).length]? = some (.ref b) := by rw [List.getElem?_map, hb]; rfl
                  refine ⟨_, rfl, pa, _, rfl, .inl (SqL.of M.a), _, _, rfl, rfl, _, rfl, if_yes hpos ?_⟩
                  refine ⟨_, rfl, _, rfl, 1, rfl, pa, _, -1, _, rfl, rfl, SqL.of M.a, hlast, pr, _, _, _, rfl, rfl, SqL.of M.r, atI_nat hbv, b, _, 1, _, rfl, rfl, SqL.of hn, rfl, _, _, rfl, rfl, _, rfl, ?_⟩
                  rw [cls_eq] at hv
                  by_cases h3 : no < 3
                  · rw [if_pos ⟨rfl, h3⟩] at hv
                    refine if_yes (decide_eq_true (by show ((no + 1 : Nat) : Int) < 4; omega)) ?_
                    refine ⟨_, rfl, _, rfl, 1, rfl, pa, _, -1, _, rfl, rfl, SqL.of M.a, hlast, pr, _, _, _, rfl, rfl, SqL.of M.r, atI_nat hbv, b, _, 1, _, rfl, rfl, SqL.of hn, rfl, _, _, rfl, rfl, ?_⟩
                    refine ⟨_, rfl, _, rfl, 1, rfl, pa, _, -1, _, rfl, rfl, SqL.of M.a, hlast, pr, _, _, _, rfl, rfl, SqL.of M.r, atI_nat hbv, b, _, 1, 1, rfl, rfl, hn, rfl, ?_⟩
                    have M2 := M.set (s := (wo, no + 2)) (x := .str (mk wo)) (y := .int (((no + 1 : Nat) : Int) + 1)) hb rfl
                    rw [set_mid] at M2
                    refine ⟨(wo, no + 1, kr ++ cur) :: r1, [], 0, bs, _, _, rfl, ?_, ?_, .inl ⟨rfl, rfl⟩, by rw [hv, hd]⟩
                    · rw [List.append_nil]
                      exact M2
                    · rw [List.append_nil]
                      show (rowL r1 ++ (wo, no + 2) :: (kr ++ cur)).length ≤ _
                      rw [List.length_append, List.length_cons] at hlen ⊢
                      omega
                  · rw [if_neg (fun z => h3 z.2), if_neg (by decide)] at hv
                    exact if_no (decide_eq_false (by show ¬ ((no + 1 : Nat) : Int) < 4; omega)) ⟨_, rfl, _, _, rfl, rfl, _, rfl, if_yes dp ⟨_, rfl, rfl, _, rfl, if_no n41 ⟨_, rfl, by show 4 ≤ sizeLine; decide, fun p hp => fin _ _ M.same hp hv⟩⟩⟩
              · refine if_no (e44.trans (decide_eq_false c44)) ⟨_, rfl, _, _, rfl, rfl, _, rfl, if_yes dp ⟨_, rfl, rfl, _, rfl, ?_⟩⟩
                by_cases c41 : c = 41
                · subst c41
                  refine if_yes (e41.trans rfl) ?_
                  cases fs with
                  | nil => exact ⟨_, rfl, pa, _, rfl, .inl (SqL.of M.a), _, _, rfl, rfl, _, rfl, if_no rfl ⟨_, rfl, by show 4 ≤ sizeLine; decide, fun p hp => fin _ _ M.same hp hv⟩⟩
                  | cons g r1 =>
                    obtain ⟨wo, no, kr⟩ := g
                    have ea : intsV (arnd ((wo, no, kr) :: r1)) = intsV (arnd r1) ++ [.int ((rowL r1).length : Int)] := ints_app _ _
                    have hpos : decide ((0 : Int) < ((intsV (arnd ((wo, no, kr) :: r1))).length : Int)) = true := by
                      rw [ea, List.length_append]
                      exact decide_eq_true (by show (0 : Int) < ((_ + 1 : Nat) : Int); omega)
                    have erow : rowL ((wo, no, kr) :: r1) ++ cur = rowL r1 ++ (wo, no + 1) :: (kr ++ cur) := List.append_assoc ..
                    rw [erow] at M hlen
                    have Ma := M.a
                    rw [ea] at Ma
                    rw [cls_eq, if_neg (fun z => absurd z.1 (by decide)), if_pos rfl] at hv
                    refine ⟨_, rfl, pa, _, rfl, .inl (SqL.of M.a), _, _, rfl, rfl, _, rfl, if_yes hpos ?_⟩
                    refine ⟨_, rfl, .inl ⟨rfl, _, SqL.of Ma⟩, pa, _, .int ((rowL r1).length : Int), rfl, rfl, Ma, ?_, ?_⟩
                    · rw [List.length_append, List.length_singleton, Nat.add_sub_cancel, List.getElem?_append_right (Nat.le_refl _), Nat.sub_self]
                      rfl
                    · rw [List.dropLast_concat]
                      exact ⟨r1, (wo, no + 1) :: (kr ++ cur), 2, bs, _, _, rfl, M.putA _, by omega, .inr (.inr rfl), by rw [hv, hd]⟩
                · refine if_no (e41.trans (decide_eq_false c41)) ⟨_, rfl, by show 4 ≤ sizeLine; decide, fun p hp => fin _ _ M.same hp ?_⟩
                  rw [hv, cls_none c41 (.inl c44)]
    · rintro σ H1 ⟨fs, cur, st, bs, y6, y7, rfl, M, hlen, hst, hv⟩
      rw [Int.toNat_natCast] at hlen hv
      rw [List.drop_eq_nil_of_le (by omega), go_nil] at hv
      have fin : ∀ H' p, Same H H' → H' p = none → verdict h (TL.tl z) = .error z.length → Q (.ref p) (upd H' p (.tup [.str "raised", .bl true, .int 0, .int (z.length : Int)])) := fun H' p hs hp hv => by
        refine q _ _ (hs.trans (same_new hp)) ?_
        rw [hv]
        refine raised_mk ?_
        rw [upd_same]
      refine ⟨_, rfl, rfl, _, rfl, ?_⟩
      by_cases h0 : st = 0
      · rw [if_pos (.inl h0)] at hv
        exact if_yes (decide_eq_true (by rw [h0]; rfl)) ⟨_, rfl, z, rfl, small (by omega), by show 4 ≤ sizeLine; decide, fun p hp => fin _ _ M.same hp hv⟩
      · refine if_no (decide_eq_false fun e => h0 (by have := V.int.inj e; omega)) ⟨_, rfl, pa, _, rfl, .inl (SqL.of M.a), _, _, rfl, rfl, _, rfl, ?_⟩
        cases fs with
        | cons g r1 =>
          rw [if_pos (.inr (by intro z; cases z))] at hv
          have ea : intsV (arnd (g :: r1)) = intsV (arnd r1) ++ [.int ((rowL r1).length : Int)] := ints_app _ _
          have hpos : decide ((0 : Int) < ((intsV (arnd (g :: r1))).length : Int)) = true := by
            rw [ea, List.length_append]
            exact decide_eq_true (by show (0 : Int) < ((_ + 1 : Nat) : Int); omega)
          exact if_yes hpos ⟨_, rfl, z, rfl, small (by omega), by show 4 ≤ sizeLine; decide, fun p hp => fin _ _ M.same hp hv⟩
        | nil =>
          rw [if_neg (fun z => z.elim h0 fun y => y rfl)] at hv
          refine if_no rfl ?_
          have lb := pair_len M.n
          refine ⟨.ref pr, rfl, pr, rfl, ⟨_, SqL.of M.r⟩, fun D hD => lc_list (K := K) (xs := bs.map V.ref) (fun i H2 => ∃ ps : List Addr, H2 D = some (.lst (ps.map V.ref)) ∧ Paired (fun p s => H2 p = some (.tup [.str (mk s.1), .int (s.2 : Int)])) ps (cur.take i) ∧ Same H1 H2) ⟨[], upd_same, .nil, same_new hD⟩ ?_ ?_ ?_⟩
          · rintro i H2 _ ⟨ps, _, _, hs⟩
            exact SqL.of (hs _ _ M.r)
          · rintro i x H2 hx ⟨ps, hD2, hps, hs⟩
            rw [List.getElem?_map] at hx
            obtain ⟨b, hb, rfl⟩ := Option.map_eq_some_iff.mp hx
            have hil : i < cur.length := by
              have := (List.getElem?_eq_some_iff.mp hb).1
              rw [lb] at this
              exact this
            obtain ⟨sy, hsy⟩ : ∃ sy, cur[i]? = some sy := ⟨_, List.getElem?_eq_getElem hil⟩
            obtain ⟨b2, hb2, hn⟩ := pair_get M.n hsy
            have e : b2 = b := Option.some.inj (hb2.symm.trans hb)
            subst e
            have hn2 := hs _ _ hn
            have lps := pair_len hps
            rw [List.length_take] at lps
            have hcur : cur.length ≤ z.length := hlen
            refine ⟨rfl, ?_⟩
            refine ⟨_, rfl, b2, _, 0, _, rfl, rfl, SqL.of hn2, rfl, _, rfl, b2, _, 1, _, rfl, rfl, SqL.of hn2, rfl, by show 2 ≤ sizeLine; decide, fun p hp => ?_⟩
            have s3 := same_new (o := .tup [.str (mk sy.1), .int (sy.2 : Int)]) hp
            have hD3 := s3 _ _ hD2
            refine ⟨_, hD3, small1 (by rw [List.length_map]; omega), ps ++ [p], by rw [upd_same, List.map_append]; rfl, ?_, ?_⟩
            · rw [List.take_add_one, hsy]
              refine pair_snoc (Paired.mapP hps fun p2 s q => ?_) ?_
              · exact TK.set (o := .lst (ps.map V.ref ++ [.ref p])) hD3 _ _ (s3 _ _ q)
              · show upd _ D _ p = _
                exact TK.set (o := .lst (ps.map V.ref ++ [.ref p])) hD3 _ _ upd_same
            · exact Same.mut (hs.trans s3) hD
          · rintro H2 ⟨ps, hD2, hps, hs⟩
            rw [List.length_map, lb, show (rowL ([] : List Fr) ++ cur).length = cur.length from rfl, List.take_length] at hps
            refine ⟨D, _, rfl, .inl ⟨SqL.of hD2, fun l hl => ⟨by show 2 ≤ sizeLine; decide, fun p hp => ?_⟩⟩⟩
            have s3 := same_new (o := .tup (ps.map V.ref)) hl
            have s4 := s3.trans (same_new (o := .tup [.str "told", .ref l]) hp)
            refine q _ _ ((M.same.trans hs).trans s4) ?_
            rw [hv]
            refine told_mk upd_same ⟨_, same_new hp _ _ upd_same, ?_⟩
            exact symsAt_keep (TK.of s4) (syms_of hps)
end
end Kx

namespace Kx
open PySem PySem.Spec PyProof.Rows L2
section
variable {X : Cx} {W : WX} {k : Nat} {x : Str} {ps : List Str} {sp : Sp} {p pos : Pos} {e : Expr} {es : List Expr} {t : TA}
/-- a call in a try: what the def lets out is the clauses' matter -/
theorem coS (c : Cal X.prog X.w X.K X.mg X.base (L2.CX X.prog X.w) k x ps sp) (hr : Room k X.A) (tk : Takes X W) (ha : PA X (e :: es) t) (hg : Gl X x := by rfl) (hdb : (x == ("__debug__" : Str)) = false := by decide)
    (he : starEach (e :: es) X.env = (false, eval e X.env) :: starEach es X.env := by rfl) (hpl : (backTo pos (starEach es X.env)).any (·.1) = false := by rfl) : PE X (.Call (.Name x p) (e :: es) [] pos) (tCallS sp (WE W) t) := by
  obtain ⟨f, fd, F, hm, hk, hb⟩ := c.ex
  exact pe_callS F hr hg hm hk hb (fun σ => passAt tk σ) ha hdb he hpl
end
section
variable {P : Program} {w : World} {K : PySem.W.Frag} {mg : Str → Option Value} {base : Heap} {f : Addr} {fd : FuncData}
/-! ### _law_asks -/
structure AskC (K : PySem.W.Frag) (mg : Str → Option Value) (CI CN CT CU : Addr) : Prop where
  gI : mg "InvalidText" = some (.ref CI)
  gN : mg "NotUsable" = some (.ref CN)
  gT : mg "TextError" = some (.ref CT)
  gU : mg "UseError" = some (.ref CU)
  xI : XfC K CI
  xN : XfC K CN
  eI : ExcC K CI
  eN : ExcC K CN
  nIl : PySem.W.findIn K (.ref CI) "line" = some none
  nIa : PySem.W.findIn K (.ref CI) "at" = some none
  nNw : PySem.W.findIn K (.ref CN) "word" = some none
  nNa : PySem.W.findIn K (.ref CN) "at" = some none
  exII : PySem.W.exmOne K (.ref CI) (.ref CI) = some true
  exNI : PySem.W.exmOne K (.ref CN) (.ref CI) = some false
  exNN : PySem.W.exmOne K (.ref CN) (.ref CN) = some true
  kI : PySem.W.kitOne K (.ref CI) (.ref CT) = some true
  kN : PySem.W.kitOne K (.ref CN) (.ref CU) = some true
def refD : Dd := .tup [.str "refused", .bl true, .str "text", .int (-1)]
def NoStr (K : PySem.W.Frag) (H : Hp) (x : V) : Prop := ∃ t, TyX K H x t ∧ PySem.W.kitOne K t (.type "str") = some false
theorem scAsks : FnScope ["_law_line", "_law_holes", "e"] ["_law_line", "_law_holes"] (defScope (topS 28)) := ⟨rfl, rfl, rfl, by decide +kernel, rfl, by decide +kernel, by decide +kernel⟩
def spAsks (K : PySem.W.Frag) : Sp := fun vs H Q _ => ∃ (x : V) (h : Bool), vs = [x, .bl h] ∧
  ((∃ z, x = .str z ∧ z.length ≤ 100000 ∧ ∀ H' v, Same H H' → DAt H' (resD (verdict h (TL.tl z))) v → Q v H') ∨ (NoStr K H x ∧ ∀ H' v, Same H H' → DAt H' refD v → Q v H'))
theorem ref_mk {H : Hp} {p : Addr} (h : H p = some (.tup [.str "refused", .bl true, .str "text", .int (-1)])) : DAt H refD (.ref p) :=
  ⟨p, _, rfl, h, _, _, rfl, rfl, _, _, rfl, rfl, _, _, rfl, rfl, _, _, rfl, rfl, rfl⟩
theorem ask_read {CI CN : Addr} {h : Bool} {x : V} {H : Hp} {Q Q' : VK} {E' : XK}
    (q : (∃ z, x = .str z ∧ z.length ≤ 100000 ∧ ∀ H' v, Same H H' → DAt H' (resD (verdict h (TL.tl z))) v → Q v H') ∨ (NoStr K H x ∧ ∀ H' v, Same H H' → DAt H' refD v → Q v H'))
    (told : ∀ row a H', Same H H' → TreeAt H' a row → (∀ H2 v, Same H H2 → DAt H2 (resD (.ok row)) v → Q v H2) → Q' (.ref a) H')
    (errT : ∀ k, (∀ H2 v, Same H H2 → DAt H2 (resD (.error k)) v → Q v H2) → ErrT CI H E' k) (errU : (∀ H2 v, Same H H2 → DAt H2 refD v → Q v H2) → ErrU CN H E') : ReadK K CI CN h x H Q' E' := by
  rcases q with ⟨z, rfl, hz, q⟩ | ⟨hn, q⟩
  · exact .inl ⟨z, rfl, hz, fun row e H' a hs ht => told row a H' hs ht fun H2 v h2 d => q H2 v h2 (by rw [e]; exact d), fun k e => errT k fun H2 v h2 d => q H2 v h2 (by rw [e]; exact d)⟩
  · exact .inr ⟨hn, errU q⟩
theorem ok_asks {CI CN CT CU : Addr} (F : Fun K "_law_asks" "_law_asks" (topS 28) f fd) (B : Blt mg) (C : AskC K mg CI CN CT CU)
    (c_read_tree : Cal P w K mg base (L2.CX P w) 5 "read_tree" ["text"] (spRd K CI CN false)) (c_read_pattern : Cal P w K mg base (L2.CX P w) 5 "read_pattern" ["text"] (spRd K CI CN true)) :
    FnOk P w K mg base CX0 6 f fd ["_law_line", "_law_holes"] (spAsks K) := by
  refine F.ok scAsks (fun vs H Q E h => ?_) (fun cdv A outer s H vs Q E hr h => ?_)
  · obtain ⟨x, h, rfl, _⟩ := h
    rfl
  · obtain ⟨x, h, rfl, q⟩ := h
    have sc := scAsks
    have hr1 : Room 5 _ := hr
    refine ⟨_, (pss_one (ps_try_named (Wout := fun _ _ _ _ => False) rfl rfl sc.nd takes_none5
      (fun W pn xe tk _ => pss_cons (ps_if (pt_val (pv 1)) (pss_one (ps_ret (pe_tup (pa_cons pe_str (pa_cons (coS c_read_pattern hr1 tk (pa_cons (pv 0) pa_nil)) pa_nil))))) pss_nil)
        (pss_one (ps_ret (pe_tup (pa_cons pe_str (pa_cons (coS c_read_tree hr1 tk (pa_cons (pv 0) pa_nil)) pa_nil))))))
      (HdsNamed.cons (i := 2) ⟨rfl, by decide, Or.inl C.gI⟩ rfl rfl
        (fun a oe cls d pn hz hf => pss_one (ps_ret (pe_tup (pa_cons pe_str (pa_cons (pe_callB (call_isX hz hf) (by rfl) B.isinstance PyProof.Rows.boot_isinstance (pa_cons (pv 2) (pa_cons (pe_glob (v := .ref CT) (by rfl) C.gT rfl) pa_nil)))
          (pa_cons (pe_xf C.xI C.nIl hz hf (pv 2)) (pa_cons (pe_xf C.xI C.nIa hz hf (pv 2)) pa_nil)))))))
      (HdsNamed.cons (i := 2) ⟨rfl, by decide, Or.inl C.gN⟩ rfl rfl
        (fun a oe cls d pn hz hf => pss_one (ps_ret (pe_tup (pa_cons pe_str (pa_cons (pe_callB (call_isX hz hf) (by rfl) B.isinstance PyProof.Rows.boot_isinstance (pa_cons (pv 2) (pa_cons (pe_glob (v := .ref CU) (by rfl) C.gU rfl) pa_nil)))
          (pa_cons (pe_xf C.xN C.nNw hz hf (pv 2)) (pa_cons (pe_xf C.xN C.nNa hz hf (pv 2)) pa_nil)))))))
      HdsNamed.nil)))), ?_⟩
    cases h with
    | true =>
      refine ⟨_, rfl, _, rfl, if_yes rfl ⟨_, rfl, x, rfl, ask_read q (fun row a H' hs ht hq => ?_) (fun k hq d H' hs hd => ?_) (fun hq d H' hs hd => ?_)⟩⟩
      · exact ⟨by show 2 ≤ sizeLine; decide, fun p hp => hq _ _ (hs.trans (same_new hp)) (told_mk upd_same (ht.keep (TK.of (same_new hp))))⟩
      · refine ⟨true, C.exII, fun _ a na => ?_, fun z => by cases z⟩
        exact ⟨_, rfl, .ref CT, .ref CT, true, CI, d, _, rfl, fun u r => r, rfl, rfl, hd, C.eI, C.kI, _, rfl, rfl, rfl, d, _, .int 0, rfl, hd, rfl, _, rfl, rfl, rfl, d, _, .int k, rfl, hd, rfl, by show 4 ≤ sizeLine; decide, fun p hp => hq _ _ (hs.trans (same_new hp)) (raised_mk upd_same)⟩
      · refine ⟨false, C.exNI, fun z => (by cases z), fun _ => ⟨true, C.exNN, fun _ a na => ?_, fun z => by cases z⟩⟩
        exact ⟨_, rfl, .ref CU, .ref CU, true, CN, d, _, rfl, fun u r => r, rfl, rfl, hd, C.eN, C.kN, _, rfl, rfl, rfl, d, _, .str "text", rfl, hd, rfl, _, rfl, rfl, rfl, d, _, .int (-1), rfl, hd, rfl, by show 4 ≤ sizeLine; decide, fun p hp => hq _ _ (hs.trans (same_new hp)) (ref_mk upd_same)⟩
    | false =>
      refine ⟨_, rfl, _, rfl, if_no rfl ⟨_, rfl, x, rfl, ask_read q (fun row a H' hs ht hq => ?_) (fun k hq d H' hs hd => ?_) (fun hq d H' hs hd => ?_)⟩⟩
      · exact ⟨by show 2 ≤ sizeLine; decide, fun p hp => hq _ _ (hs.trans (same_new hp)) (told_mk upd_same (ht.keep (TK.of (same_new hp))))⟩
      · refine ⟨true, C.exII, fun _ a na => ?_, fun z => by cases z⟩
        exact ⟨_, rfl, .ref CT, .ref CT, true, CI, d, _, rfl, fun u r => r, rfl, rfl, hd, C.eI, C.kI, _, rfl, rfl, rfl, d, _, .int 0, rfl, hd, rfl, _, rfl, rfl, rfl, d, _, .int k, rfl, hd, rfl, by show 4 ≤ sizeLine; decide, fun p hp => hq _ _ (hs.trans (same_new hp)) (raised_mk upd_same)⟩
      · refine ⟨false, C.exNI, fun z => (by cases z), fun _ => ⟨true, C.exNN, fun _ a na => ?_, fun z => by cases z⟩⟩
        exact ⟨_, rfl, .ref CU, .ref CU, true, CN, d, _, rfl, fun u r => r, rfl, rfl, hd, C.eN, C.kN, _, rfl, rfl, rfl, d, _, .str "text", rfl, hd, rfl, _, rfl, rfl, rfl, d, _, .int (-1), rfl, hd, rfl, by show 4 ≤ sizeLine; decide, fun p hp => hq _ _ (hs.trans (same_new hp)) (ref_mk upd_same)⟩
end
end Kx

namespace Kx
open PySem PySem.Spec PyProof.Rows L2
section
variable {P : Program} {w : World} {K : PySem.W.Frag} {mg : Str → Option Value} {base : Heap} {f : Addr} {fd : FuncData}
/-! ### _law_right -/
theorem szs_sym : ∀ row : List Sy, szs (row.map symD) = 3 * row.length
  | [] => rfl
  | s :: r => by
    have ih := szs_sym r
    show sz (symD s) + szs (r.map symD) = 3 * (r.length + 1)
    have e : sz (symD s) = 3 := rfl
    omega
theorem sz_rowD (row : List Sy) : sz (rowD row) = 1 + 3 * row.length := by
  show 1 + szs (row.map symD) = _
  rw [szs_sym]
theorem sz_resD {h : Bool} {l : List Nat} (hl : l.length ≤ 100000) : sz (resD (verdict h l)) ≤ 1000000 := by
  cases e : verdict h l with
  | error k =>
    show 5 ≤ _
    omega
  | ok row =>
    have h1 := read_rows e
    have h2 := sz_rowD row
    show 1 + (1 + (sz (rowD row) + 0)) ≤ _
    omega
theorem scRight : FnScope ["_law_line", "_law_holes", "_law_due", "_law_told"] ["_law_line"] (defScope (topS 29)) := ⟨rfl, rfl, rfl, by decide +kernel, rfl, by decide +kernel, by decide +kernel⟩
def spRight : Sp := fun vs H Q _ => ∃ z : Str, vs = [.str z] ∧ z.length ≤ 100000 ∧ ∀ H', Same H H' → Q (.bl true) H'
theorem ok_right (F : Fun K "_law_right" "_law_right" (topS 29) f fd) (B : Blt mg) (c__law_read : Cal P w K mg base CX0 1 "_law_read" ["_law_line", "_law_holes"] spLRead) (c__law_asks : Cal P w K mg base CX0 6 "_law_asks" ["_law_line", "_law_holes"] (spAsks K))
    (c__law_same : Cal P w K mg base CX0 1 "_law_same" ["_law_told", "_law_due"] spSame) (c_shown : Cal P w K mg base CX0 1 "shown" ["tree"] spShown) : FnOk P w K mg base CX0 7 f fd ["_law_line"] spRight := by
  refine F.ok scRight (fun vs H Q E h => ?_) (fun cdv A outer s H vs Q E hr h => ?_)
  · obtain ⟨z, rfl, _⟩ := h
    rfl
  · obtain ⟨z, rfl, hz, q⟩ := h
    have sc := scRight
    have hzl : z.length = (TL.tl z).length := TL.len_tl z
    refine ⟨_, (pss_cons (ps_for PassesOwn.never rfl (pi_list (pe_lst (pa_cons pe_bl (pa_cons pe_bl pa_nil)))) (pg_name (i := 1) sc.nd rfl (Or.inl rfl))
      (pss_cons (ps_set (i := 2) sc.nd rfl (Or.inl rfl) (co c__law_read (hr.mono (by decide)) (pa_cons (pv 0) (pa_cons (pv 1) pa_nil))))
    (pss_cons (ps_set (i := 3) sc.nd rfl (Or.inl rfl) (co c__law_asks hr (pa_cons (pv 0) (pa_cons (pv 1) pa_nil))))
    (pss_cons (ps_if (pt_not (pt_val (co c__law_same (hr.mono (by decide)) (pa_cons (pv 3) (pa_cons (pv 2) pa_nil)))))
      (pss_one (ps_ret pe_bl))
      pss_nil)
    (pss_one (ps_if (PW.pt (pw_and (pt_cmpR op_eq (pe_ix ix_tup (pv 3) pe_int (fun _ _ => rfl)) pe_str (nomark _)) (pw_and1 (pt_not (pt_val (co c__law_same (hr.mono (by decide)) (pa_cons (co c_shown (hr.mono (by decide)) (pa_cons (pe_ix ix_tup (pv 3) pe_int (fun _ _ => rfl)) pa_nil)) (pa_cons (pv 0) pa_nil))))))))
      (pss_one (ps_ret pe_bl))
      pss_nil))))))
    (pss_one (ps_ret pe_bl))), ?_⟩
    refine ⟨by show 2 ≤ sizeLine; decide, fun pl hpl => ⟨pl, rfl, ⟨_, SqL.of upd_same⟩, for_list (xs := [.bl false, .bl true]) (fun i σ H' => ∃ (y1 y2 y3 : Option V), σ = [some (.str z), y1, y2, y3] ∧ Same (upd H pl (.lst [.bl false, .bl true])) H') ⟨none, none, none, rfl, Same.refl _⟩ ?_ ?_ ?_⟩⟩
    · rintro i σ H' _ ⟨y1, y2, y3, rfl, hs⟩
      exact SqL.of (hs _ _ upd_same)
    · rintro i x σ H' hx ⟨y1, y2, y3, rfl, hs⟩
      obtain ⟨h, rfl⟩ : ∃ h, x = .bl h := by
        match i, hx with
        | 0, hx => exact ⟨_, (Option.some.inj hx).symm⟩
        | 1, hx => exact ⟨_, (Option.some.inj hx).symm⟩
      have hsz := sz_resD (h := h) (l := TL.tl z) (by omega)
      refine ⟨_, rfl, _, rfl, z, h, rfl, hz, fun H1 due s1 d1 => ?_⟩
      refine ⟨_, rfl, _, rfl, .str z, h, rfl, .inl ⟨z, rfl, hz, fun H2 told s2 d2 => ?_⟩⟩
      refine ⟨_, rfl, _, rfl, told, due, _, rfl, d2, d1.keep (TK.of s2), by omega, fun H3 s3 => ⟨_, rfl, if_no rfl ?_⟩⟩
      have s4 : Same (upd H pl (.lst [.bl false, .bl true])) H3 := ((hs.trans s1).trans s2).trans s3
      have d3 := d2.keep (TK.of s3)
      cases ev : verdict h (TL.tl z) with
      | error k =>
        rw [ev] at d3
        obtain ⟨a, rfl, ha⟩ := raised_at d3
        exact ⟨_, rfl, a, _, 0, _, rfl, rfl, SqT.of ha, rfl, rfl, _, rfl, if_no rfl ⟨_, _, _, rfl, s4⟩⟩
      | ok row =>
        rw [ev] at d3
        obtain ⟨a, b, rfl, ha, hb⟩ := told_at d3
        obtain ⟨hf, hsh⟩ := read_shown ev
        have hl := read_rows ev
        refine ⟨_, rfl, a, _, 0, _, rfl, rfl, SqT.of ha, rfl, rfl, _, rfl, if_yes rfl ?_⟩
        refine ⟨_, rfl, a, _, 1, _, rfl, rfl, SqT.of ha, rfl, b, row, rfl, hb, hf, read_short ev, by omega, fun H4 s5 => ⟨_, rfl, _, .str z, .str z, rfl, ?_, rfl, by show 1 ≤ _; decide, fun H5 s6 => ⟨_, rfl, if_no rfl ⟨_, _, _, rfl, (s4.trans s5).trans s6⟩⟩⟩⟩
        show V.str (mk (show_ row)) = .str z
        rw [hsh, mk_tl]
    · rintro σ H' ⟨y1, y2, y3, rfl, hs⟩
      exact q _ ((same_new hpl).trans hs)
/-! ### _law_turned -/
theorem cutS_to (z : Str) (a : Nat) : cutS z none (some (a : Int)) = mk ((TL.tl z).take a) := by
  have hl : z.length = (TL.tl z).length := TL.len_tl z
  unfold cutS
  rw [HT.sIx_none, show HT.sIx z.length z.length (some (a : Int)) = min a z.length from HT.sIx_nat _ _ _]
  show mk (((TL.tl z).drop 0).take (min a z.length - 0)) = _
  rw [List.drop_zero, Nat.sub_zero, hl]
  congr 1
  rcases Nat.le_total a (TL.tl z).length with h | h
  · rw [Nat.min_eq_left h]
  · rw [Nat.min_eq_right h, List.take_length, List.take_of_length_le h]
theorem cutS_from (z : Str) (a : Nat) : cutS z (some (a : Int)) none = mk ((TL.tl z).drop a) := by
  have hl : z.length = (TL.tl z).length := TL.len_tl z
  unfold cutS
  rw [HT.sIx_none, show HT.sIx z.length 0 (some (a : Int)) = min a z.length from HT.sIx_nat _ _ _]
  show mk (((TL.tl z).drop (min a z.length)).take (z.length - min a z.length)) = _
  rw [hl]
  congr 1
  rcases Nat.le_total a (TL.tl z).length with h | h
  · rw [Nat.min_eq_left h, List.take_of_length_le (by rw [List.length_drop]; exact Nat.le_refl _)]
  · rw [Nat.min_eq_right h, Nat.sub_self, List.drop_length, List.drop_eq_nil_of_le h]
    rfl
theorem lto (z : Str) (a : Nat) : (cutS z none (some (a : Int))).length = min a z.length := by
  rw [cutS_to, mk_length, List.length_take, TL.len_tl]
theorem lfrom (z : Str) (a : Nat) : (cutS z (some (a : Int)) none).length = z.length - a := by
  rw [cutS_from, mk_length, List.length_drop, TL.len_tl]
theorem lat (z : Str) (a b : Nat) : (cutS z (some (a : Int)) (some (b : Int))).length = min (b - a) (z.length - a) := by
  rw [cut_at, mk_length, List.length_take, List.length_drop, TL.len_tl]
theorem lat1 (z : Str) (a : Nat) : (cutS z (some (a : Int)) (some ((a : Int) + 1))).length = min 1 (z.length - a) := by
  have := lat z a (a + 1)
  rw [show a + 1 - a = 1 by omega] at this
  exact this
theorem lfrom1 (z : Str) (a : Nat) : (cutS z (some ((a : Int) + 1)) none).length = z.length - (a + 1) := lfrom z (a + 1)
theorem lfrom2 (z : Str) (a : Nat) : (cutS z (some ((a : Int) + 2)) none).length = z.length - (a + 2) := lfrom z (a + 2)
theorem lat12 (z : Str) (a : Nat) : (cutS z (some ((a : Int) + 1)) (some ((a : Int) + 2))).length = min 1 (z.length - (a + 1)) := by
  have := lat z (a + 1) (a + 2)
  rw [show a + 2 - (a + 1) = 1 by omega] at this
  exact this
theorem sign_at {z : Str} {r : Nat} (h : r < z.length) : ∃ c, atI z.cps.toList (r : Int) = some c := by
  have hl : r < (TL.tl z).length := by
    rw [← TL.len_tl]
    exact h
  exact ⟨_, atI_nat (List.getElem?_eq_getElem hl)⟩
theorem one_len (c : Nat) : (⟨#[c]⟩ : Str).length = 1 := rfl
theorem scTurned : FnScope ["_law_tape_here", "_law_line", "_law_signs", "_law_at", "_law_sign", "_law_way"] ["_law_tape_here", "_law_line"] (defScope (topS 31)) := ⟨rfl, rfl, rfl, by decide +kernel, rfl, by decide +kernel, by decide +kernel⟩
def spTurned : Sp := fun vs H Q _ => ∃ (t ca sa : Addr) (z : Str), vs = [.ref t, .str z] ∧ Tape H t ca sa ∧ z.length ≤ 90000 ∧ ∀ H' z', z'.length ≤ z.length + 1 → Tape H' t ca sa → But H H' ca sa → Q (.str z') H'
theorem ok_turned (F : Fun K "_law_turned" "_law_turned" (topS 31) f fd) (B : Blt mg) (c__law_pick : Cal P w K mg base CX0 1 "_law_pick" ["_law_tape_here", "_law_many"] spPick) : FnOk P w K mg base CX0 2 f fd ["_law_tape_here", "_law_line"] spTurned := by
  refine F.ok scTurned (fun vs H Q E h => ?_) (fun cdv A outer s H vs Q E hr h => ?_)
  · obtain ⟨t, ca, sa, z, rfl, _⟩ := h
    rfl
  · obtain ⟨t, ca, sa, z, rfl, T0, hz, q⟩ := h
    have sc := scTurned
    refine ⟨_, (pss_cons (ps_set (i := 2) sc.nd rfl (Or.inl rfl) pe_str)
    (pss_cons (ps_set (i := 3) sc.nd rfl (Or.inl rfl) (co c__law_pick hr (pa_cons (pv 0) (pa_cons (pe_op op_add (pe_callB call_len_str (by rfl) B.len PySem.boot_len (pa_cons (pv 1) pa_nil)) pe_int) pa_nil))))
    (pss_cons (ps_set (i := 4) sc.nd rfl (Or.inl rfl) (pe_ix ix_str (pv 2) (co c__law_pick hr (pa_cons (pv 0) (pa_cons (pe_callB call_len_str (by rfl) B.len PySem.boot_len (pa_cons (pv 2) pa_nil)) pa_nil))) (fun _ _ => rfl)))
    (pss_cons (ps_set (i := 5) sc.nd rfl (Or.inl rfl) (co c__law_pick hr (pa_cons (pv 0) (pa_cons pe_int pa_nil))))
    (pss_cons (ps_if (pt_cmpR op_eq (pv 5) pe_int (nomark _))
      (pss_one (ps_ret (pe_op op_add_str (pe_op op_add_str (pe_slice sl_str (pv 1) po_none (po_some (pv 3))) (pv 4)) (pe_slice sl_str (pv 1) (po_some (pv 3)) po_none))))
      pss_nil)
    (pss_cons (ps_if (pt_cmpR op_eq (pv 5) pe_int (nomark _))
      (pss_one (ps_ret (pe_op op_add_str (pe_slice sl_str (pv 1) po_none (po_some (pv 3))) (pe_slice sl_str (pv 1) (po_some (pe_op op_add (pv 3) pe_int)) po_none))))
      pss_nil)
    (pss_cons (ps_if (pt_cmpR op_eq (pv 5) pe_int (nomark _))
      (pss_one (ps_ret (pe_slice sl_str (pv 1) po_none (po_some (pv 3)))))
      pss_nil)
    (pss_cons (ps_if (pt_cmpR op_eq (pv 5) pe_int (nomark _))
      (pss_one (ps_ret (pe_op op_add_str (pe_op op_add_str (pe_slice sl_str (pv 1) po_none (po_some (pv 3))) (pe_slice sl_str (pv 1) (po_some (pv 3)) (po_some (pe_op op_add (pv 3) pe_int)))) (pe_slice sl_str (pv 1) (po_some (pv 3)) po_none))))
      pss_nil)
    (pss_cons (ps_if (pt_cmpR op_eq (pv 5) pe_int (nomark _))
      (pss_one (ps_ret (pe_op op_add_str (pe_op op_add_str (pe_op op_add_str (pe_slice sl_str (pv 1) po_none (po_some (pv 3))) (pe_slice sl_str (pv 1) (po_some (pe_op op_add (pv 3) pe_int)) (po_some (pe_op op_add (pv 3) pe_int)))) (pe_slice sl_str (pv 1) (po_some (pv 3)) (po_some (pe_op op_add (pv 3) pe_int)))) (pe_slice sl_str (pv 1) (po_some (pe_op op_add (pv 3) pe_int)) po_none))))
      pss_nil)
    (pss_cons (ps_if (pt_cmpR op_eq (pv 5) pe_int (nomark _))
      (pss_one (ps_ret (pe_op op_add_str (pv 1) (pv 4))))
      pss_nil)
    (pss_one (ps_ret (pe_op op_add_str (pe_op op_add_str (pe_slice sl_str (pv 1) po_none (po_some (pv 3))) (pv 4)) (pe_slice sl_str (pv 1) (po_some (pe_op op_add (pv 3) pe_int)) po_none)))))))))))))), ?_⟩
    refine ⟨_, rfl, _, rfl, z, rfl, small (by omega), _, _, rfl, rfl, t, ca, sa, z.length + 1, rfl, by omega, by omega, T0, fun H1 r1 hr1 T1 k1 => ?_⟩
    have hsl : ("az09-.?(),(),()?A_{[/:+ q" : Str).length = 25 := by decide +kernel
    refine ⟨_, rfl, _, rfl, _, rfl, _, rfl, small (by omega), t, ca, sa, ("az09-.?(),(),()?A_{[/:+ q" : Str).length, rfl, by omega, by omega, T1, fun H2 r2 hr2 T2 k2 => ?_⟩
    obtain ⟨c, hc⟩ := sign_at hr2
    refine ⟨_, _, c, rfl, rfl, small (by omega), hc, ?_⟩
    refine ⟨_, rfl, t, ca, sa, 8, rfl, by decide, by decide, T2, fun H3 r3 hr3 T3 k3 => ?_⟩
    have fin : ∀ z', z'.length ≤ z.length + 1 → Q (.str z') H3 := fun z' h => q H3 z' h T3 ((k1.trans k2).trans k3)
    refine ⟨_, rfl, rfl, _, rfl, ite2 (fun _ => ?_) (fun _ => ?_)⟩
    · exact ⟨_, rfl, _, rfl, _, rfl, z, rfl, small (by omega), _, rfl, _, _, rfl, rfl, small (by rw [lto, one_len]; omega), _, rfl, _, rfl, _, rfl, z, rfl, small (by omega), _, _, rfl, rfl, small (by simp only [Str.length_append, lto, lfrom, one_len]; omega), fin _ (by simp only [Str.length_append, lto, lfrom, one_len]; omega)⟩
    refine ⟨_, rfl, rfl, _, rfl, ite2 (fun _ => ?_) (fun _ => ?_)⟩
    · exact ⟨_, rfl, _, rfl, _, rfl, z, rfl, small (by omega), _, rfl, _, rfl, _, _, rfl, rfl, _, rfl, z, rfl, small (by omega), _, _, rfl, rfl, small (by simp only [Str.length_append, lto, lfrom1, one_len]; omega), fin _ (by simp only [Str.length_append, lto, lfrom1, one_len]; omega)⟩
    refine ⟨_, rfl, rfl, _, rfl, ite2 (fun _ => ?_) (fun _ => ?_)⟩
    · exact ⟨_, rfl, _, rfl, _, rfl, z, rfl, small (by omega), fin _ (by rw [lto]; omega)⟩
    refine ⟨_, rfl, rfl, _, rfl, ite2 (fun _ => ?_) (fun _ => ?_)⟩
    · exact ⟨_, rfl, _, rfl, _, rfl, z, rfl, small (by omega), _, rfl, _, rfl, _, rfl, _, rfl, _, _, rfl, rfl, _, rfl, z, rfl, small (by omega), _, _, rfl, rfl, small (by simp only [Str.length_append, lto, lat1, one_len]; omega), _, rfl, _, rfl, _, rfl, z, rfl, small (by omega), _, _, rfl, rfl, small (by simp only [Str.length_append, lto, lat1, lfrom]; omega), fin _ (by simp only [Str.length_append, lto, lat1, lfrom]; omega)⟩
    refine ⟨_, rfl, rfl, _, rfl, ite2 (fun _ => ?_) (fun _ => ?_)⟩
    · exact ⟨_, rfl, _, rfl, _, rfl, z, rfl, small (by omega), _, rfl, _, rfl, _, _, rfl, rfl, _, rfl, _, rfl, _, _, rfl, rfl, _, rfl, z, rfl, small (by omega), _, _, rfl, rfl, small (by simp only [Str.length_append, lto, lat12]; omega),
        _, rfl, _, rfl, _, rfl, _, rfl, _, _, rfl, rfl, _, rfl, z, rfl, small (by omega), _, _, rfl, rfl, small (by simp only [Str.length_append, lto, lat12, lat1]; omega), _, rfl, _, rfl, _, _, rfl, rfl, _, rfl, z, rfl, small (by omega), _, _, rfl, rfl, small (by simp only [Str.length_append, lto, lat12, lat1, lfrom2]; omega), fin _ (by simp only [Str.length_append, lto, lat12, lat1, lfrom2]; omega)⟩
    refine ⟨_, rfl, rfl, _, rfl, ite2 (fun _ => ?_) (fun _ => ?_)⟩
    · exact ⟨_, rfl, _, rfl, _, _, rfl, rfl, small (by rw [one_len]; omega), fin _ (by rw [Str.length_append, one_len]; omega)⟩
    · exact ⟨_, rfl, _, rfl, _, rfl, z, rfl, small (by omega), _, rfl, _, _, rfl, rfl, small (by rw [lto, one_len]; omega), _, rfl, _, rfl, _, _, rfl, rfl, _, rfl, z, rfl, small (by omega), _, _, rfl, rfl, small (by simp only [Str.length_append, lto, lfrom1, one_len]; omega), fin _ (by simp only [Str.length_append, lto, lfrom1, one_len]; omega)⟩
end
end Kx

namespace Kx
open PySem PySem.Spec PyProof.Rows L2
section
variable {P : Program} {w : World} {K : PySem.W.Frag} {mg : Str → Option Value} {base : Heap} {f : Addr} {fd : FuncData}
/-! ### _law_built -/
/-- strs of at most B signs -/
inductive Strs (B : Nat) : List V → Prop
  | nil : Strs B []
  | cons {z : Str} {vs : List V} (h : z.length ≤ B) (r : Strs B vs) : Strs B (.str z :: vs)
theorem Strs.get {B : Nat} {vs : List V} (h : Strs B vs) : ∀ {r : Nat}, r < vs.length → ∃ z : Str, vs[r]? = some (.str z) ∧ z.length ≤ B := by
  induction h with
  | nil => exact fun h => absurd h (Nat.not_lt_zero _)
  | @cons z vs hz t ih =>
    intro r hr
    cases r with
    | zero => exact ⟨z, rfl, hz⟩
    | succ r => exact ih (Nat.lt_of_succ_lt_succ hr)
theorem Strs.app {B : Nat} {vs ws : List V} (h : Strs B vs) (k : Strs B ws) : Strs B (vs ++ ws) := by
  induction h with
  | nil => exact k
  | cons hz t ih => exact .cons hz ih
theorem Strs.mono {B C : Nat} {vs : List V} (h : Strs B vs) (l : B ≤ C) : Strs C vs := by
  induction h with
  | nil => exact .nil
  | cons hz t ih => exact .cons (Nat.le_trans hz l) ih
/-- what a pick leaves of an object that is no part of the tape -/
theorem But.keepL {H H1 H2 : Hp} {t ca sa p : Addr} {xs : List V} (T0 : Tape H t ca sa) (h : H p = none) (e : H1 p = some (.lst xs)) (k : But H1 H2 ca sa) : H2 p = some (.lst xs) := by
  have o := T0.off h
  exact k _ _ (Ne.symm o.2.1) (Ne.symm o.2.2) e
theorem cutS_le (z : Str) (lo hi : Option Int) : (cutS z lo hi).length ≤ z.length := by
  unfold cutS
  have e : ∀ (l : List Nat), (⟨l.toArray⟩ : Str).length = l.length := mk_length
  rw [e, List.length_take, List.length_drop]
  have : (TL.tl z).length = z.length := (TL.len_tl z).symm
  have h2 : z.cps.toList.length = z.length := this
  omega
def sevL : List Str := ["a", ".", "?", "f(a)", "b-1", "c"]
theorem sev_small : ∀ n : Fin 7, ((sevL.take n.1).map (·.length)).sum + (sevL.take n.1).length * ("," : Str).length ≤ 30 := by decide +kernel
theorem deep_at : ∀ r : Fin 6, ∃ n : Nat, ([.int 0, .int 1, .int 2, .int 9, .int 61, .int 150] : List V)[r.1]? = some (.int (n : Int)) ∧ n ≤ 150
  | ⟨0, _⟩ => ⟨0, rfl, by decide⟩
  | ⟨1, _⟩ => ⟨1, rfl, by decide⟩
  | ⟨2, _⟩ => ⟨2, rfl, by decide⟩
  | ⟨3, _⟩ => ⟨9, rfl, by decide⟩
  | ⟨4, _⟩ => ⟨61, rfl, by decide⟩
  | ⟨5, _⟩ => ⟨150, rfl, by decide⟩
theorem off_at : ∀ r : Fin 4, ∃ n : Int, ([.int 0, .int 0, .int (-1), .int 1] : List V)[r.1]? = some (.int n) ∧ n ≤ 1
  | ⟨0, _⟩ => ⟨0, rfl, by decide⟩
  | ⟨1, _⟩ => ⟨0, rfl, by decide⟩
  | ⟨2, _⟩ => ⟨-1, rfl, by decide⟩
  | ⟨3, _⟩ => ⟨1, rfl, by decide⟩
theorem rep_len (n : Nat) (l : List Nat) : (mk (List.replicate n l).flatten).length = n * l.length := by
  rw [mk_length, List.length_flatten, List.map_replicate, List.sum_replicate_nat]
theorem scBuilt : FnScope ["_law_tape_here", "_law_letters", "_law_far_here", "_law_several", "_law_head", "_law_deep", "_law_off", "_law_rows"] ["_law_tape_here"] (defScope (topS 32)) := ⟨rfl, rfl, rfl, by decide +kernel, rfl, by decide +kernel, by decide +kernel⟩
def spBuilt : Sp := fun vs H Q _ => ∃ (t ca sa : Addr), vs = [.ref t] ∧ Tape H t ca sa ∧ ∀ H' z', z'.length ≤ 1000 → Tape H' t ca sa → But H H' ca sa → Q (.str z') H'
theorem ok_built (F : Fun K "_law_built" "_law_built" (topS 32) f fd) (B : Blt mg) (c__law_pick : Cal P w K mg base CX0 1 "_law_pick" ["_law_tape_here", "_law_many"] spPick) : FnOk P w K mg base CX0 2 f fd ["_law_tape_here"] spBuilt := by
  refine F.ok scBuilt (fun vs H Q E h => ?_) (fun cdv A outer s H vs Q E hr h => ?_)
  · obtain ⟨t, ca, sa, rfl, _⟩ := h
    rfl
  · obtain ⟨t, ca, sa, rfl, T0, q⟩ := h
    have sc := scBuilt
    refine ⟨_, (pss_cons (ps_set (i := 1) sc.nd rfl (Or.inl rfl) pe_str)
    (pss_cons (ps_set (i := 2) sc.nd rfl (Or.inl rfl) (pe_op op_add_str pe_str (pe_slice sl_str (pe_op op_mul_str pe_str pe_int) po_none (po_some (pe_op op_add pe_int (co c__law_pick hr (pa_cons (pv 0) (pa_cons pe_int pa_nil))))))))
    (pss_cons (ps_set (i := 3) sc.nd rfl (Or.inl rfl) (pe_join pe_str (pe_slice sl_list (pe_lst (pa_cons pe_str (pa_cons pe_str (pa_cons pe_str (pa_cons pe_str (pa_cons pe_str (pa_cons pe_str pa_nil))))))) po_none (po_some (pe_op op_add pe_int (co c__law_pick hr (pa_cons (pv 0) (pa_cons pe_int pa_nil))))))))
    (pss_cons (ps_set (i := 4) sc.nd rfl (Or.inl rfl) (pe_ix ix_list (pe_lst (pa_cons pe_str (pa_cons pe_str (pa_cons pe_str (pa_cons pe_str (pa_cons pe_str (pa_cons pe_str (pa_cons (pv 2) pa_nil)))))))) (co c__law_pick hr (pa_cons (pv 0) (pa_cons pe_int pa_nil))) (fun _ _ => rfl)))
    (pss_cons (ps_set (i := 5) sc.nd rfl (Or.inl rfl) (pe_ix ix_list (pe_lst (pa_cons pe_int (pa_cons pe_int (pa_cons pe_int (pa_cons pe_int (pa_cons pe_int (pa_cons pe_int pa_nil))))))) (co c__law_pick hr (pa_cons (pv 0) (pa_cons pe_int pa_nil))) (fun _ _ => rfl)))
    (pss_cons (ps_set (i := 6) sc.nd rfl (Or.inl rfl) (pe_ix ix_list (pe_lst (pa_cons pe_int (pa_cons pe_int (pa_cons (pe_un un_neg pe_int) (pa_cons pe_int pa_nil))))) (co c__law_pick hr (pa_cons (pv 0) (pa_cons pe_int pa_nil))) (fun _ _ => rfl)))
    (pss_cons (ps_set (i := 7) sc.nd rfl (Or.inl rfl) (pe_lst (pa_cons (pv 2) (pa_cons (pe_op op_add_str (pe_op op_add_str (pe_op op_add_str (pv 2) pe_str) (pv 2)) pe_str) (pa_cons (pe_op op_add_str (pe_op op_add_str (pe_op op_add_str (pv 4) pe_str) (pv 3)) pe_str) (pa_cons (pe_op op_add_str (pv 4) pe_str) (pa_cons (pe_op op_add_str (pv 4) pe_str) (pa_cons (pe_op op_add_str (pv 4) pe_str) (pa_cons (pe_op op_add_str (pv 4) pe_str) pa_nil)))))))))
    (pss_cons (ps_set (i := 7) sc.nd rfl (Or.inl rfl) (pe_op op_cat (pv 7) (pe_lst (pa_cons (pe_op op_add_str (pe_op op_add_str (pe_op op_mul_str pe_str (pv 5)) (pe_ix ix_str (pv 1) (co c__law_pick hr (pa_cons (pv 0) (pa_cons pe_int pa_nil))) (fun _ _ => rfl))) (pe_op op_mul_str pe_str (pe_callB (call_max2 rfl) (by rfl) B.max PyProof.Rows.boot_max (pa_cons pe_int (pa_cons (pe_op op_add (pv 5) (pv 6)) pa_nil))))) (pa_cons (pe_op op_add_str (pe_op op_add_str (pe_op op_mul_str pe_str (pv 5)) pe_str) (pe_op op_mul_str pe_str (pv 5))) pa_nil)))))
    (pss_cons (ps_set (i := 7) sc.nd rfl (Or.inl rfl) (pe_op op_cat (pv 7) (pe_lst (pa_cons pe_str (pa_cons pe_str (pa_cons pe_str (pa_cons pe_str (pa_cons pe_str (pa_cons pe_str (pa_cons pe_str (pa_cons pe_str (pa_cons pe_str (pa_cons pe_str (pa_cons pe_str (pa_cons pe_str (pa_cons pe_str (pa_cons pe_str (pa_cons pe_str pa_nil))))))))))))))))))
    (pss_one (ps_ret (pe_ix ix_list (pv 7) (co c__law_pick hr (pa_cons (pv 0) (pa_cons (pe_callB call_len_seq (by rfl) B.len PySem.boot_len (pa_cons (pv 7) pa_nil)) pa_nil))) (fun _ _ => rfl))))))))))))), ?_⟩
    -- far_here
    refine ⟨"c-9", 6, rfl, rfl, by decide, by decide, _, rfl, t, ca, sa, 5, rfl, by decide, by decide, T0, fun H1 r1 hr1 T1 k1 => ⟨_, _, rfl, rfl, _, rfl, _, rfl, ?_, _, _, rfl, rfl, ?_, ?_⟩⟩
    · refine small ?_
      rw [rep_len]
      exact Nat.le_trans (Nat.mul_le_mul_left 6 (show (TL.tl ("c-9" : Str)).length ≤ 3 by decide +kernel)) (by decide)
    · refine small ?_
      have := cutS_le (mk (List.replicate 6 (TL.tl ("c-9" : Str))).flatten) none (some ((13 : Int) + (r1 : Int)))
      rw [rep_len] at this
      have h2 := Nat.mul_le_mul_left 6 (show (TL.tl ("c-9" : Str)).length ≤ 3 by decide +kernel)
      have h3 : ("b" : Str).length = 1 := rfl
      rw [h3]
      omega
    have lfh : (("b" : Str) ++ cutS (mk (List.replicate 6 (TL.tl ("c-9" : Str))).flatten) none (some ((13 : Int) + (r1 : Int)))).length ≤ 20 := by
      have := cutS_le (mk (List.replicate 6 (TL.tl ("c-9" : Str))).flatten) none (some ((13 : Int) + (r1 : Int)))
      rw [rep_len] at this
      have h2 := Nat.mul_le_mul_left 6 (show (TL.tl ("c-9" : Str)).length ≤ 3 by decide +kernel)
      have h3 : ("b" : Str).length = 1 := rfl
      rw [Str.length_append, h3]
      omega
    generalize (("b" : Str) ++ cutS (mk (List.replicate 6 (TL.tl ("c-9" : Str))).flatten) none (some ((13 : Int) + (r1 : Int)))) = fh at lfh ⊢
    -- several
    refine ⟨⟨_, rfl⟩, by show 6 ≤ sizeLine; decide, fun p1 hp1 => ?_⟩
    refine ⟨_, rfl, t, ca, sa, 6, rfl, by decide, by decide, T1.same (same_new hp1), fun H2 r2 hr2 T2 k2 => ⟨_, _, rfl, rfl, _, rfl, p1, sevL.map V.str, rfl, SqL.of (k2.keepL T1 hp1 upd_same), fun p2 hp2 => ⟨",", p2, sevL.take (1 + r2), rfl, rfl, .inl ?_, ?_, ?_⟩⟩⟩
    · have e : cutV (sevL.map V.str) none (some ((1 : Int) + (r2 : Int))) = (sevL.take (1 + r2)).map V.str := by
        rw [show ((1 : Int) + (r2 : Int)) = ((1 + r2 : Nat) : Int) from rfl, cut_to, List.map_take]
      rw [e]
      exact SqL.of upd_same
    · exact Nat.le_trans (sev_small ⟨1 + r2, by omega⟩) (by decide)
    have lsev : (Txt.join "," (sevL.take (1 + r2))).length ≤ 30 := by
      rw [TL.join_eq]
      exact Nat.le_trans (StrLaws.join_length_le _ _) (sev_small ⟨1 + r2, by omega⟩)
    have k12 : But H1 (upd H2 p2 (.lst (cutV (sevL.map V.str) none (some ((1 : Int) + (r2 : Int)))))) ca sa := ((But.of (same_new hp1)).trans k2).trans (.of (same_new hp2))
    have T2' := T2.same (same_new (o := .lst (cutV (sevL.map V.str) none (some ((1 : Int) + (r2 : Int))))) hp2)
    generalize Txt.join "," (sevL.take (1 + r2)) = sv at lsev ⊢
    generalize upd H2 p2 (.lst (cutV (sevL.map V.str) none (some ((1 : Int) + (r2 : Int))))) = H3 at k12 T2' ⊢
    have k3 := k1.trans k12
    -- head
    refine ⟨_, rfl, by show 7 ≤ sizeLine; decide, fun p3 hp3 => ?_⟩
    refine ⟨_, rfl, t, ca, sa, 7, rfl, by decide, by decide, T2'.same (same_new hp3), fun H4 r4 hr4 T4 k4 => ?_⟩
    have S4 : Strs 100 [.str "f", .str "g-", .str ".", .str "?", .str "", .str "(", .str fh] :=
      .cons (by decide) (.cons (by decide) (.cons (by decide) (.cons (by decide) (.cons (by decide) (.cons (by decide) (.cons (by omega) .nil))))))
    obtain ⟨hd, hhd, lhd⟩ := S4.get (r := r4) hr4
    refine ⟨p3, _, _, _, rfl, rfl, SqL.of (k4.keepL T2' hp3 upd_same), atI_nat hhd, ?_⟩
    have k5 := k3.trans ((But.of (same_new hp3)).trans k4)
    -- deep
    refine ⟨by show 6 ≤ sizeLine; decide, fun p5 hp5 => ?_⟩
    refine ⟨_, rfl, t, ca, sa, 6, rfl, by decide, by decide, T4.same (same_new hp5), fun H6 r6 hr6 T6 k6 => ?_⟩
    obtain ⟨dp, hdp, ldp⟩ := deep_at ⟨r6, hr6⟩
    refine ⟨p5, _, _, _, rfl, rfl, SqL.of (k6.keepL T4 hp5 upd_same), atI_nat hdp, ?_⟩
    have k7 := k5.trans ((But.of (same_new hp5)).trans k6)
    -- off
    refine ⟨1, rfl, by show 4 ≤ sizeLine; decide, fun p7 hp7 => ?_⟩
    refine ⟨_, rfl, t, ca, sa, 4, rfl, by decide, by decide, T6.same (same_new hp7), fun H8 r8 hr8 T8 k8 => ?_⟩
    obtain ⟨of_, hof, lof⟩ := off_at ⟨r8, hr8⟩
    refine ⟨p7, _, _, _, rfl, rfl, SqL.of (k8.keepL T6 hp7 upd_same), atI_nat hof, ?_⟩
    have k9 := k7.trans ((But.of (same_new hp7)).trans k8)
    clear k1 k12 k3 k4 k5 k6 k7 k8 k2
    have c1 : ("(" : Str).length = 1 := rfl
    have c2 : (")" : Str).length = 1 := rfl
    have c3 : ("()" : Str).length = 2 := rfl
    have c4 : ("(,a)" : Str).length = 4 := rfl
    have c5 : ("(a,)" : Str).length = 4 := rfl
    -- the first rows
    refine ⟨_, rfl, _, rfl, _, _, rfl, rfl, small (by omega), _, rfl, _, _, rfl, rfl, small (by simp only [Str.length_append]; omega), _, _, rfl, rfl, small (by simp only [Str.length_append]; omega), ?_⟩
    refine ⟨_, rfl, _, _, rfl, rfl, small (by omega), _, rfl, _, _, rfl, rfl, small (by simp only [Str.length_append]; omega), _, _, rfl, rfl, small (by simp only [Str.length_append]; omega), ?_⟩
    refine ⟨_, rfl, _, _, rfl, rfl, small (by omega), _, rfl, _, _, rfl, rfl, small (by omega), _, rfl, _, _, rfl, rfl, small (by omega), _, rfl, _, _, rfl, rfl, small (by omega), by show 7 ≤ sizeLine; decide, fun p9 hp9 => ?_⟩
    have S9 : Strs 1000 [.str fh, .str (fh ++ "(" ++ fh ++ ")"), .str (hd ++ "(" ++ sv ++ ")"), .str (hd ++ "()"), .str (hd ++ "(,a)"), .str (hd ++ "(a,)"), .str (hd ++ ")")] :=
      .cons (by omega) (.cons (by simp only [Str.length_append]; omega) (.cons (by simp only [Str.length_append]; omega) (.cons (by simp only [Str.length_append]; omega) (.cons (by simp only [Str.length_append]; omega) (.cons (by simp only [Str.length_append]; omega) (.cons (by simp only [Str.length_append]; omega) .nil))))))
    have l9 : [V.str fh, .str (fh ++ "(" ++ fh ++ ")"), .str (hd ++ "(" ++ sv ++ ")"), .str (hd ++ "()"), .str (hd ++ "(,a)"), .str (hd ++ "(a,)"), .str (hd ++ ")")].length = 7 := rfl
    generalize [V.str fh, .str (fh ++ "(" ++ fh ++ ")"), .str (hd ++ "(" ++ sv ++ ")"), .str (hd ++ "()"), .str (hd ++ "(,a)"), .str (hd ++ "(a,)"), .str (hd ++ ")")] = L1 at S9 l9 ⊢
    have T9 := T8.same (same_new (o := .lst L1) hp9)
    have b9 := k9.trans (.of (same_new (o := .lst L1) hp9))
    -- the deep rows
    have hll : ("abcdefghijklmnopqrstuvwxyz" : Str).length = 26 := by decide +kernel
    have m1 : (TL.tl ("f(" : Str)).length = 2 := by decide +kernel
    have m2 : (TL.tl (")" : Str)).length = 1 := by decide +kernel
    have m3 : (TL.tl ("g(a," : Str)).length = 4 := by decide +kernel
    have m4 : ("." : Str).length = 1 := rfl
    refine ⟨_, rfl, _, rfl, "f(", dp, rfl, rfl, by decide, by omega, ?_⟩
    refine ⟨_, rfl, _, rfl, t, ca, sa, 26, rfl, by decide, by decide, T9, fun H10 r10 hr10 T10 k10 => ?_⟩
    obtain ⟨c, hc⟩ := sign_at (z := "abcdefghijklmnopqrstuvwxyz") (r := r10) (by rw [hll]; exact hr10)
    have h9 := k10.keepL T8 hp9 upd_same
    have b10 := b9.trans k10
    obtain ⟨n, hn, ln⟩ : ∃ n : Nat, V.int (if (dp : Int) + of_ > 0 then (dp : Int) + of_ else 0) = V.int (n : Int) ∧ n ≤ 151 := by
      by_cases h : (dp : Int) + of_ > 0
      · exact ⟨((dp : Int) + of_).toNat, by rw [if_pos h, Int.toNat_of_nonneg (by omega)], by omega⟩
      · exact ⟨0, by rw [if_neg h]; rfl, by omega⟩
    refine ⟨_, _, c, rfl, rfl, small (by omega), hc, _, _, rfl, rfl, small (by rw [rep_len, m1, one_len]; omega), ?_⟩
    refine ⟨_, rfl, _, rfl, _, _, rfl, rfl, 0, _, rfl, ")", n, rfl, hn, by decide, by omega, _, _, rfl, rfl, small (by simp only [Str.length_append, rep_len, m1, m2, one_len]; omega), ?_⟩
    refine ⟨_, rfl, "g(a,", dp, rfl, rfl, by decide, by omega, _, _, rfl, rfl, small (by rw [rep_len, m3, m4]; omega), ?_⟩
    refine ⟨_, rfl, ")", dp, rfl, rfl, by decide, by omega, _, _, rfl, rfl, small (by simp only [Str.length_append, rep_len, m2, m3, m4]; omega), by show 2 ≤ sizeLine; decide, fun p10 hp10 => ?_⟩
    have S10 : Strs 1000 [.str (mk (List.replicate dp (TL.tl ("f(" : Str))).flatten ++ ⟨#[c]⟩ ++ mk (List.replicate n (TL.tl (")" : Str))).flatten), .str (mk (List.replicate dp (TL.tl ("g(a," : Str))).flatten ++ "." ++ mk (List.replicate dp (TL.tl (")" : Str))).flatten)] :=
      .cons (by simp only [Str.length_append, rep_len, m1, m2, one_len]; omega) (.cons (by simp only [Str.length_append, rep_len, m2, m3, m4]; omega) .nil)
    have l10 : [V.str (mk (List.replicate dp (TL.tl ("f(" : Str))).flatten ++ ⟨#[c]⟩ ++ mk (List.replicate n (TL.tl (")" : Str))).flatten), .str (mk (List.replicate dp (TL.tl ("g(a," : Str))).flatten ++ "." ++ mk (List.replicate dp (TL.tl (")" : Str))).flatten)].length = 2 := rfl
    generalize [V.str (mk (List.replicate dp (TL.tl ("f(" : Str))).flatten ++ ⟨#[c]⟩ ++ mk (List.replicate n (TL.tl (")" : Str))).flatten), .str (mk (List.replicate dp (TL.tl ("g(a," : Str))).flatten ++ "." ++ mk (List.replicate dp (TL.tl (")" : Str))).flatten)] = L2 at S10 l10 ⊢
    refine ⟨p9, p10, L1, L2, rfl, rfl, same_new hp10 _ _ h9, upd_same, small (by omega), fun p11 hp11 => ?_⟩
    have S11 := S9.app S10
    have l11 : (L1 ++ L2).length = 9 := by rw [List.length_append, l9, l10]
    have s11 := (same_new (o := .lst L2) hp10).trans (same_new (o := .lst (L1 ++ L2)) hp11)
    have h11 : upd (upd H10 p10 (.lst L2)) p11 (.lst (L1 ++ L2)) p11 = some (.lst (L1 ++ L2)) := upd_same
    have T11 := T10.same s11
    have b11 := b10.trans (.of s11)
    generalize upd (upd H10 p10 (.lst L2)) p11 (.lst (L1 ++ L2)) = H11 at h11 T11 b11 ⊢
    generalize L1 ++ L2 = L3 at S11 l11 h11 ⊢
    -- the odd rows
    refine ⟨_, rfl, by show 15 ≤ sizeLine; decide, fun p12 hp12 => ?_⟩
    have S12 : Strs 1000 [.str "", .str ".", .str "?", .str "..", .str "a?", .str "a.", .str ".a", .str "?(a)", .str ".(a)", .str "a,b", .str "f(a)b", .str "f(a)(b)", .str "f(a) ", .str " f(a)", .str "f (a)"] := by
      repeat (first | exact .nil | refine .cons (by decide) ?_)
    have l12 : [V.str "", .str ".", .str "?", .str "..", .str "a?", .str "a.", .str ".a", .str "?(a)", .str ".(a)", .str "a,b", .str "f(a)b", .str "f(a)(b)", .str "f(a) ", .str " f(a)", .str "f (a)"].length = 15 := rfl
    generalize [V.str "", .str ".", .str "?", .str "..", .str "a?", .str "a.", .str ".a", .str "?(a)", .str ".(a)", .str "a,b", .str "f(a)b", .str "f(a)(b)", .str "f(a) ", .str " f(a)", .str "f (a)"] = L4 at S12 l12 ⊢
    refine ⟨p11, p12, L3, L4, rfl, rfl, same_new hp12 _ _ h11, upd_same, small (by omega), fun p13 hp13 => ?_⟩
    have S13 := S11.app S12
    have l13 : (L3 ++ L4).length = 24 := by rw [List.length_append, l11, l12]
    have T12 := T11.same (same_new (o := .lst L4) hp12)
    have T13 := T12.same (same_new (o := .lst (L3 ++ L4)) hp13)
    have b13 := b11.trans (.of ((same_new (o := .lst L4) hp12).trans (same_new (o := .lst (L3 ++ L4)) hp13)))
    refine ⟨_, rfl, _, rfl, _, rfl, p13, _, rfl, .inl (SqL.of upd_same), t, ca, sa, (L3 ++ L4).length, rfl, by omega, by omega, T13, fun H14 r14 hr14 T14 k14 => ?_⟩
    obtain ⟨z', hz', lz'⟩ := S13.get hr14
    exact ⟨p13, _, _, _, rfl, rfl, SqL.of (k14.keepL T12 hp13 upd_same), atI_nat hz', q _ _ lz' T14 (b13.trans k14)⟩
end
end Kx

namespace Kx
open PySem PySem.Spec PyProof.Rows L2
section
variable {P : Program} {w : World} {K : PySem.W.Frag} {mg : Str → Option Value} {base : Heap} {f : Addr} {fd : FuncData}
/-! ### _law_refusals -/
/-- no str, and no part of the tape -/
inductive Odd (ca sa : Addr) (H : Hp) : V → Prop
  | non : Odd ca sa H .non
  | int (i : Int) : Odd ca sa H (.int i)
  | bl (b : Bool) : Odd ca sa H (.bl b)
  | tup {a : Addr} {xs : List V} (h : H a = some (.tup xs)) : Odd ca sa H (.ref a)
  | lst {a : Addr} {xs : List V} (h : H a = some (.lst xs)) (n1 : a ≠ ca) (n2 : a ≠ sa) : Odd ca sa H (.ref a)
theorem Odd.keep {H H' : Hp} {t ca sa : Addr} (T : Tape H t ca sa) (k : But H H' ca sa) {v : V} (o : Odd ca sa H v) : Odd ca sa H' v := by
  cases o with
  | non => exact .non
  | int i => exact .int i
  | bl b => exact .bl b
  | tup h => exact .tup (k.tk T _ _ h)
  | lst h n1 n2 => exact .lst (k _ _ n1 n2 h) n1 n2
theorem Odd.no {H : Hp} {ca sa : Addr} {v : V} (o : Odd ca sa H v) : NoStr K H v := by
  cases o with
  | non => exact ⟨.type "NoneType", .base .non, kit_ty (show kitB "NoneType" "str" = some false from by decide +kernel)⟩
  | int i => exact ⟨.type "int", .base (.int i), kit_ty (show kitB "int" "str" = some false from by decide +kernel)⟩
  | bl b => exact ⟨.type "bool", .base (.bl b), kit_ty (show kitB "bool" "str" = some false from by decide +kernel)⟩
  | tup h => exact ⟨.type "tuple", .base (.tup h), kit_ty (show kitB "tuple" "str" = some false from by decide +kernel)⟩
  | lst h n1 n2 => exact ⟨.type "list", .base (.lst h), kit_ty (show kitB "list" "str" = some false from by decide +kernel)⟩
theorem scRefusals : FnScope ["_law_tape_here", "_law_tall", "_law_odd", "_law_k", "_law_bad", "_law_due"] ["_law_tape_here", "_law_tall"] (defScope (topS 33)) := ⟨rfl, rfl, rfl, by decide +kernel, rfl, by decide +kernel, by decide +kernel⟩
def spRefusals : Sp := fun vs H Q _ => ∃ (t ca sa a : Addr) (xs : List V), vs = [.ref t, .ref a] ∧ Tape H t ca sa ∧ H a = some (.tup xs) ∧ ∀ H', Q (.bl true) H'
theorem ok_refusals (F : Fun K "_law_refusals" "_law_refusals" (topS 33) f fd) (B : Blt mg) (c__law_pick : Cal P w K mg base CX0 1 "_law_pick" ["_law_tape_here", "_law_many"] spPick) (c__law_asks : Cal P w K mg base CX0 6 "_law_asks" ["_law_line", "_law_holes"] (spAsks K))
    (c__law_same : Cal P w K mg base CX0 1 "_law_same" ["_law_told", "_law_due"] spSame) : FnOk P w K mg base CX0 7 f fd ["_law_tape_here", "_law_tall"] spRefusals := by
  refine F.ok scRefusals (fun vs H Q E h => ?_) (fun cdv A outer s H vs Q E hr h => ?_)
  · obtain ⟨t, ca, sa, a, xs, rfl, _⟩ := h
    rfl
  · obtain ⟨t, ca, sa, a, xs, rfl, T0, ha, q⟩ := h
    have sc := scRefusals
    refine ⟨_, (pss_cons (ps_set (i := 2) sc.nd rfl (Or.inl rfl) (pe_lst (pa_cons pe_non (pa_cons pe_int (pa_cons pe_bl (pa_cons (pe_tup pa_nil) (pa_cons (pe_tup (pa_cons pe_str pa_nil)) (pa_cons (pe_lst (pa_cons pe_str (pa_cons pe_str pa_nil))) (pa_cons (pv 1) (pa_cons (pe_tup (pa_cons (pe_tup (pa_cons pe_str (pa_cons pe_int pa_nil))) pa_nil)) (pa_cons (pe_lst (pa_cons pe_str pa_nil)) (pa_cons (pe_un un_neg pe_int) (pa_cons (pe_tup (pa_cons pe_non pa_nil)) (pa_cons pe_bl (pa_cons (pe_lst pa_nil) (pa_cons (pe_op op_pow pe_int pe_int) pa_nil))))))))))))))))
    (pss_cons (ps_for PassesOwn.never rfl (pi_range1 (by rfl) B.range (pa_cons pe_int pa_nil)) (pg_name (i := 3) sc.nd rfl (Or.inl rfl))
      (pss_cons (ps_set (i := 4) sc.nd rfl (Or.inl rfl) (pe_ix ix_list (pv 2) (co c__law_pick (hr.mono (by decide)) (pa_cons (pv 0) (pa_cons (pe_callB call_len_seq (by rfl) B.len PySem.boot_len (pa_cons (pv 2) pa_nil)) pa_nil))) (fun _ _ => rfl)))
    (pss_cons (ps_set (i := 5) sc.nd rfl (Or.inl rfl) (pe_tup (pa_cons pe_str (pa_cons pe_bl (pa_cons pe_str (pa_cons (pe_un un_neg pe_int) pa_nil))))))
    (pss_one (ps_if (pt_not (pt_val (co c__law_same (hr.mono (by decide)) (pa_cons (pe_tup (pa_cons (co c__law_asks hr (pa_cons (pv 4) (pa_cons pe_bl pa_nil))) (pa_cons (co c__law_asks hr (pa_cons (pv 4) (pa_cons pe_bl pa_nil))) pa_nil))) (pa_cons (pe_tup (pa_cons (pv 5) (pa_cons (pv 5) pa_nil))) pa_nil)))))
      (pss_one (ps_ret pe_bl))
      pss_nil)))))
    (pss_one (ps_ret pe_bl)))), ?_⟩
    have z1 : (1 : Nat) ≤ sizeLine := by decide
    have z2 : (2 : Nat) ≤ sizeLine := by decide
    have z4 : (4 : Nat) ≤ sizeLine := by decide
    have z14 : (14 : Nat) ≤ sizeLine := by decide
    refine ⟨Nat.zero_le _, fun p1 hp1 => ?_⟩
    have T1 := T0.same (same_new (o := .tup []) hp1)
    refine ⟨z1, fun p2 hp2 => ?_⟩
    have T2 := T1.same (same_new (o := .tup [.str "a"]) hp2)
    refine ⟨z2, fun p3 hp3 => ?_⟩
    have T3 := T2.same (same_new (o := .lst [.str "f", .str "a"]) hp3)
    refine ⟨_, rfl, z2, fun p4 hp4 => ?_⟩
    have T4 := T3.same (same_new (o := .tup [.str "a", .int 0]) hp4)
    refine ⟨z1, fun p5 hp5 => ?_⟩
    have T5 := T4.same (same_new (o := .tup [.ref p4]) hp5)
    refine ⟨z1, fun p6 hp6 => ?_⟩
    have T6 := T5.same (same_new (o := .lst [.str "a"]) hp6)
    refine ⟨1, rfl, z1, fun p7 hp7 => ?_⟩
    have T7 := T6.same (same_new (o := .tup [.non]) hp7)
    refine ⟨Nat.zero_le _, fun p8 hp8 => ?_⟩
    have T8 := T7.same (same_new (o := .lst []) hp8)
    refine ⟨_, _, rfl, rfl, ⟨by decide, by decide, by decide⟩, z14, fun p9 hp9 => ?_⟩
    have S9 := same_new (o := .lst [.non, .int 0, .bl true, .ref p1, .ref p2, .ref p3, .ref a, .ref p5, .ref p6, .int (-1), .ref p7, .bl false, .ref p8, .int ((10 : Int) ^ ((20 : Int)).toNat)]) hp9
    have S8 := (same_new (o := .lst []) hp8).trans S9
    have S7 := (same_new (o := .tup [.non]) hp7).trans S8
    have S6 := (same_new (o := .lst [.str "a"]) hp6).trans S7
    have S5 := (same_new (o := .tup [.ref p4]) hp5).trans S6
    have S4 := (same_new (o := .tup [.str "a", .int 0]) hp4).trans S5
    have S3 := (same_new (o := .lst [.str "f", .str "a"]) hp3).trans S4
    have S2 := (same_new (o := .tup [.str "a"]) hp2).trans S3
    have S1 := (same_new (o := .tup []) hp1).trans S2
    have o3 := T2.off hp3
    have o6 := T5.off hp6
    have o8 := T7.off hp8
    have o9 := T8.off hp9
    have T9 := T8.same S9
    have OD : ∀ v ∈ [V.non, .int 0, .bl true, .ref p1, .ref p2, .ref p3, .ref a, .ref p5, .ref p6, .int (-1), .ref p7, .bl false, .ref p8, .int ((10 : Int) ^ ((20 : Int)).toNat)], Odd ca sa _ v :=
      List.forall_mem_cons.mpr ⟨.non, List.forall_mem_cons.mpr ⟨.int 0, List.forall_mem_cons.mpr ⟨.bl true, List.forall_mem_cons.mpr ⟨.tup (S2 _ _ upd_same), List.forall_mem_cons.mpr ⟨.tup (S3 _ _ upd_same), List.forall_mem_cons.mpr ⟨.lst (S4 _ _ upd_same) (Ne.symm o3.2.1) (Ne.symm o3.2.2),
        List.forall_mem_cons.mpr ⟨.tup (S1 _ _ ha), List.forall_mem_cons.mpr ⟨.tup (S6 _ _ upd_same), List.forall_mem_cons.mpr ⟨.lst (S7 _ _ upd_same) (Ne.symm o6.2.1) (Ne.symm o6.2.2), List.forall_mem_cons.mpr ⟨.int (-1), List.forall_mem_cons.mpr ⟨.tup (S8 _ _ upd_same), List.forall_mem_cons.mpr ⟨.bl false,
        List.forall_mem_cons.mpr ⟨.lst (S9 _ _ upd_same) (Ne.symm o8.2.1) (Ne.symm o8.2.2), List.forall_mem_cons.mpr ⟨.int _, fun v hv => (by cases hv)⟩⟩⟩⟩⟩⟩⟩⟩⟩⟩⟩⟩⟩⟩
    have h9 := upd_same (H := (upd (upd (upd (upd (upd (upd (upd (upd H p1 (.tup [])) p2 (.tup [.str "a"])) p3 (.lst [.str "f", .str "a"])) p4 (.tup [.str "a", .int 0])) p5 (.tup [.ref p4])) p6 (.lst [.str "a"])) p7 (.tup [.non])) p8 (.lst []))) (a := p9) (o := .lst [.non, .int 0, .bl true, .ref p1, .ref p2, .ref p3, .ref a, .ref p5, .ref p6, .int (-1), .ref p7, .bl false, .ref p8, .int ((10 : Int) ^ ((20 : Int)).toNat)])
    have lvs : [V.non, .int 0, .bl true, .ref p1, .ref p2, .ref p3, .ref a, .ref p5, .ref p6, .int (-1), .ref p7, .bl false, .ref p8, .int ((10 : Int) ^ ((20 : Int)).toNat)].length = 14 := rfl
    generalize [V.non, .int 0, .bl true, .ref p1, .ref p2, .ref p3, .ref a, .ref p5, .ref p6, .int (-1), .ref p7, .bl false, .ref p8, .int ((10 : Int) ^ ((20 : Int)).toNat)] = vals at OD h9 lvs T9 ⊢
    generalize upd (upd (upd (upd (upd (upd (upd (upd (upd H p1 (.tup [])) p2 (.tup [.str "a"])) p3 (.lst [.str "f", .str "a"])) p4 (.tup [.str "a", .int 0])) p5 (.tup [.ref p4])) p6 (.lst [.str "a"])) p7 (.tup [.non])) p8 (.lst [])) p9 (.lst vals) = H9 at OD h9 T9 ⊢
    refine ⟨2, rfl, by decide, by decide, for_range (lo := 0) (n := ((2 : Int)).toNat) (fun i σ H' => ∃ (y3 y4 y5 : Option V), σ = [some (.ref t), some (.ref a), some (.ref p9), y3, y4, y5] ∧ Tape H' t ca sa ∧ H' p9 = some (.lst vals) ∧ ∀ v ∈ vals, Odd ca sa H' v) ⟨none, none, none, rfl, T9, h9, OD⟩ ?_ ?_⟩
    · rintro i σ H1 hi ⟨y3, y4, y5, rfl, T, hl, od⟩
      refine ⟨_, rfl, _, rfl, _, rfl, p9, _, rfl, .inl (SqL.of hl), t, ca, sa, vals.length, rfl, by omega, by omega, T, fun H2 r hr2 T2 k2 => ?_⟩
      have hl2 := k2 _ _ (Ne.symm o9.2.1) (Ne.symm o9.2.2) hl
      have hv : vals[r]? = some vals[r] := List.getElem?_eq_getElem hr2
      have ov := od _ (List.getElem_mem hr2)
      generalize vals[r] = v at hv ov
      have ov2 := ov.keep T k2
      refine ⟨p9, _, _, _, rfl, rfl, SqL.of hl2, atI_nat hv, ?_⟩
      refine ⟨1, rfl, z4, fun pd hpd => ?_⟩
      have s3 := same_new (o := .tup [.str "refused", .bl true, .str "text", .int (-1)]) hpd
      have T3 := T2.same s3
      have d3 : DAt (upd H2 pd (.tup [.str "refused", .bl true, .str "text", .int (-1)])) refD (.ref pd) := ref_mk upd_same
      generalize upd H2 pd (.tup [.str "refused", .bl true, .str "text", .int (-1)]) = H3 at s3 T3 d3 ⊢
      have ov3 := ov2.keep T2 (.of s3)
      refine ⟨_, rfl, v, false, rfl, .inr ⟨ov3.no, fun H4 x1 s4 d4 => ?_⟩⟩
      have ov4 := ov3.keep T3 (.of s4)
      refine ⟨_, rfl, v, true, rfl, .inr ⟨ov4.no, fun H5 x2 s5 d5 => ?_⟩⟩
      refine ⟨z2, fun pe hpe => ⟨_, rfl, _, rfl, z2, fun pf hpf => ?_⟩⟩
      have s6 := same_new (o := .tup [x1, x2]) hpe
      have s7 := same_new (o := .tup [.ref pd, .ref pd]) hpf
      have tk5 := TK.of s5
      have tk67 := (TK.of s6).trans (TK.of s7)
      have dd := d3.keep (((TK.of s4).trans tk5).trans tk67)
      refine ⟨.ref pe, .ref pf, .tup [refD, refD], rfl, ⟨pe, _, rfl, s7 _ _ upd_same, x1, [x2], rfl, (d4.keep tk5).keep tk67, x2, [], rfl, d5.keep tk67, rfl⟩, ⟨pf, _, rfl, upd_same, _, _, rfl, dd, _, _, rfl, dd, rfl⟩, by decide, fun H6 s8 => ⟨_, rfl, if_no rfl ?_⟩⟩
      have sA := ((((s3.trans s4).trans s5).trans s6).trans s7).trans s8
      exact ⟨_, _, _, rfl, T2.same sA, sA _ _ hl2, fun v hv => ((od v hv).keep T k2).keep T2 (.of sA)⟩
    · rintro σ H1 _
      exact q H1
end
end Kx

namespace Kx
open PySem PySem.Spec PyProof.Rows L2
section
variable {P : Program} {w : World} {K : PySem.W.Frag} {mg : Str → Option Value} {base : Heap} {f : Addr} {fd : FuncData}
/-! ### law -/
structure Ln0 (t ca sa pm : Addr) (mvs : List V) (ms : List Sy) (H' : Hp) : Prop where
  tape : Tape H' t ca sa
  mks : H' pm = some (.lst mvs)
  sy : Paired (SymAt H') mvs ms
theorem Ln0.pick {t ca sa pm : Addr} {mvs : List V} {ms : List Sy} {H1 H2 : Hp} (m : Ln0 t ca sa pm mvs ms H1) (pc : pm ≠ ca) (ps : pm ≠ sa) (T : Tape H2 t ca sa) (k : But H1 H2 ca sa) : Ln0 t ca sa pm mvs ms H2 :=
  ⟨T, k _ _ pc ps m.mks, symsAt_keep (k.tk m.tape) m.sy⟩
/-- a row of words that the law shows and reads back -/
structure GoodT (h : Bool) (row : List Sy) : Prop where
  f : forest 1 row
  ok : AllOk h row
  len : row.length ≤ 60
theorem GoodT.short {h : Bool} {row : List Sy} (g : GoodT h row) : Short row := fun s hs => by
  rcases g.ok s hs with ⟨e, _⟩ | ⟨_, e, _⟩ | ⟨⟨c, v, e, _, _, l⟩, _⟩
  · rw [e]
    decide
  · rw [e]
    decide
  · rw [e]
    show v.length + 1 ≤ 16
    omega
theorem GoodT.shown {h : Bool} {row : List Sy} (g : GoodT h row) : (Kx.mk (show_ row)).length ≤ 1140 := by
  have h1 := show_le (row := row)
  have h2 := stw_bound g.short
  have h3 : (16 + 3) * row.length ≤ 19 * 60 := Nat.mul_le_mul_left _ g.len
  rw [mk_length]
  omega
theorem But.free {HB H1 : Hp} {t ca sa p : Addr} (T : Tape H1 t ca sa) (k : But HB H1 ca sa) (h : H1 p = none) : HB p = none := by
  cases e : HB p with
  | none => rfl
  | some o =>
    have o2 := T.off h
    have := k _ _ (Ne.symm o2.2.1) (Ne.symm o2.2.2) e
    rw [this] at h
    cases h
/-- a list of the law's own, made behind HB -/
structure LnSt (HB : Hp) (t ca sa p : Addr) (vs : List V) (H' : Hp) : Prop where
  tape : Tape H' t ca sa
  but : But HB H' ca sa
  lst : H' p = some (.lst vs)
  fr : HB p = none
section
variable {HB H1 H2 : Hp} {t ca sa p : Addr} {vs : List V}
theorem LnSt.pick (T0 : Tape HB t ca sa) (m : LnSt HB t ca sa p vs H1) (T : Tape H2 t ca sa) (k : But H1 H2 ca sa) : LnSt HB t ca sa p vs H2 := by
  have o := T0.off m.fr
  exact ⟨T, m.but.trans k, k _ _ (Ne.symm o.2.1) (Ne.symm o.2.2) m.lst, m.fr⟩
theorem LnSt.same (m : LnSt HB t ca sa p vs H1) (s : Same H1 H2) : LnSt HB t ca sa p vs H2 := ⟨m.tape.same s, m.but.trans (.of s), s _ _ m.lst, m.fr⟩
theorem LnSt.new {p2 : Addr} {ws : List V} (T : Tape H1 t ca sa) (k : But HB H1 ca sa) (h : H1 p2 = none) : LnSt HB t ca sa p2 ws (upd H1 p2 (.lst ws)) := ⟨T.same (same_new h), k.trans (.of (same_new h)), upd_same, k.free T h⟩
theorem LnSt.put {ws : List V} (T0 : Tape HB t ca sa) (m : LnSt HB t ca sa p vs H1) : LnSt HB t ca sa p ws (upd H1 p (.lst ws)) := by
  have o := T0.off m.fr
  exact ⟨m.tape.mut o.1 o.2.1 o.2.2, m.but.mut m.fr, upd_same, m.fr⟩
/-- .. beside another one that changes -/
theorem LnSt.side {p2 : Addr} {ws vs2 : List V} (T0 : Tape HB t ca sa) (m : LnSt HB t ca sa p vs H1) (m2 : LnSt HB t ca sa p2 vs2 H1) (n : p ≠ p2) : LnSt HB t ca sa p vs (upd H1 p2 (.lst ws)) := by
  have o := T0.off m2.fr
  exact ⟨m.tape.mut o.1 o.2.1 o.2.2, m.but.mut m2.fr, by rw [upd_ne n]; exact m.lst, m.fr⟩
theorem LnSt.ne {p2 : Addr} (m : LnSt HB t ca sa p vs H1) (h : H1 p2 = none) : p ≠ p2 := ne_of_none m.lst h
end
/-- the lines -/
structure LOK (r1 r2 r3 : List Sy) (N : Nat) (zs : List Str) : Prop where
  len : zs.length ≤ N
  le : ∀ z ∈ zs, z.length ≤ 2000
  g0 : zs[0]? = some (mk (show_ r1))
  g4 : zs[4]? = some (mk (show_ r2))
  g8 : zs[8]? = some (mk (show_ r3))
theorem get_app {α : Type} {l m : List α} {i : Nat} {x : α} (h : l[i]? = some x) : (l ++ m)[i]? = some x := by
  rw [List.getElem?_append_left (List.getElem?_eq_some_iff.mp h).1]
  exact h
theorem LOK.app {r1 r2 r3 : List Sy} {N : Nat} {zs ws : List Str} (k : LOK r1 r2 r3 N zs) (h : ∀ z ∈ ws, z.length ≤ 2000) : LOK r1 r2 r3 (N + ws.length) (zs ++ ws) :=
  ⟨by rw [List.length_append]; have := k.len; omega, fun z hz => (List.mem_append.mp hz).elim (k.le z) (h z), get_app k.g0, get_app k.g4, get_app k.g8⟩
theorem sum_le {B : Nat} : ∀ ys : List Str, (∀ y ∈ ys, y.length ≤ B) → (ys.map (·.length)).sum ≤ B * ys.length
  | [], _ => Nat.zero_le _
  | y :: ys, h => by
    have ih := sum_le ys fun x hx => h x (List.mem_cons_of_mem _ hx)
    have h1 := h y (List.mem_cons_self ..)
    rw [List.map_cons, List.sum_cons, List.length_cons, Nat.mul_succ]
    omega
theorem join_le {B : Nat} {sep : Str} {ys : List Str} (h : ∀ y ∈ ys, y.length ≤ B) : (ys.map (·.length)).sum + ys.length * sep.length ≤ (B + sep.length) * ys.length := by
  have := sum_le ys h
  rw [Nat.add_mul, Nat.mul_comm sep.length]
  omega
theorem join_len {B : Nat} {sep : Str} {ys : List Str} (h : ∀ y ∈ ys, y.length ≤ B) : (Txt.join sep ys).length ≤ (B + sep.length) * ys.length := by
  rw [TL.join_eq]
  exact Nat.le_trans (StrLaws.join_length_le _ _) (join_le h)
theorem scLaw : FnScope ["_law_script", "_law_tape_here", "_law_marks_here", "_law_size", "_law_tall", "_law_mask", "_law_few", "_law_lines", "_law_row", "_law_line", "_law_signs", "_law_limbs", "_law_named", "_law_k"] ["_law_script"] (defScope (topS 34)) := ⟨rfl, rfl, rfl, by decide +kernel, rfl, by decide +kernel, by decide +kernel⟩
def spLaw (K : PySem.W.Frag) : Sp := fun vs H Q _ => ∃ (a : Addr) (ns : List Int), vs = [.ref a] ∧ SqL K H a (ns.map V.int) ∧ ns.length ≤ 63 ∧ ∀ H', Q (.bl true) H'
theorem ok_law {CI CN : Addr} (F : Fun K "law" "law" (topS 34) f fd) (B : Blt mg)
    (c__law_tape : Cal P w K mg base CX0 1 "_law_tape" ["_law_script"] (spTape K)) (c__law_pick : Cal P w K mg base CX0 1 "_law_pick" ["_law_tape_here", "_law_many"] spPick)
    (c__law_marks : Cal P w K mg base CX0 2 "_law_marks" ["_law_tape_here"] spMarks) (c__law_tree : Cal P w K mg base CX0 2 "_law_tree" ["_law_tape_here", "_law_marks_here", "_law_most"] spTree) (c__law_masked : Cal P w K mg base CX0 2 "_law_masked" ["_law_tape_here", "_law_row"] spMasked)
    (c__law_shown : Cal P w K mg base CX0 2 "_law_shown" ["_law_row"] spLShown) (c__law_same : Cal P w K mg base CX0 1 "_law_same" ["_law_told", "_law_due"] spSame) (c_shown : Cal P w K mg base CX0 1 "shown" ["tree"] spShown)
    (k_shown : KCal P w K mg base CX0 1 "shown" ["tree"] spShown) (c__law_turned : Cal P w K mg base CX0 2 "_law_turned" ["_law_tape_here", "_law_line"] spTurned) (c__law_built : Cal P w K mg base CX0 2 "_law_built" ["_law_tape_here"] spBuilt)
    (c__law_right : Cal P w K mg base CX0 7 "_law_right" ["_law_line"] spRight) (c__law_refusals : Cal P w K mg base CX0 7 "_law_refusals" ["_law_tape_here", "_law_tall"] spRefusals)
    (k_read_tree : KCal P w K mg base (L2.CX P w) 5 "read_tree" ["text"] (spRd K CI CN false)) (k_read_pattern : KCal P w K mg base (L2.CX P w) 5 "read_pattern" ["text"] (spRd K CI CN true)) :
    FnOk P w K mg base CX0 8 f fd ["_law_script"] (spLaw K) := by
  refine F.ok scLaw (fun vs H Q E h => ?_) (fun cdv A outer s H vs Q E hr h => ?_)
  · obtain ⟨a, ns, rfl, _⟩ := h
    rfl
  · obtain ⟨a, ns, rfl, hS, hl, q⟩ := h
    have sc := scLaw
    refine ⟨_, (pss_cons (ps_set (i := 1) sc.nd rfl (Or.inr rfl) (co c__law_tape (hr.mono (by decide)) (pa_cons (pv 0) pa_nil)))
    (pss_cons (ps_set (i := 2) sc.nd rfl (Or.inl rfl) (co c__law_marks (hr.mono (by decide)) (pa_cons (pv 1) pa_nil)))
    (Evl.pss_cut (ps_set (i := 3) sc.nd rfl (Or.inl rfl) (pe_op op_add pe_int (co c__law_pick (hr.mono (by decide)) (pa_cons (pv 1) (pa_cons pe_int pa_nil)))))
    (Evl.pss_cut (ps_if (pt_cmpR op_eq (co c__law_pick (hr.mono (by decide)) (pa_cons (pv 1) (pa_cons pe_int pa_nil))) pe_int (nomark _))
      (pss_one (ps_set (i := 3) sc.nd rfl (Or.inl rfl) pe_int))
      pss_nil)
    (Evl.pss_cut (ps_set (i := 4) sc.nd rfl (Or.inl rfl) (co c__law_tree (hr.mono (by decide)) (pa_cons (pv 1) (pa_cons (pv 2) (pa_cons (pv 3) pa_nil)))))
    (Evl.pss_cut (ps_set (i := 5) sc.nd rfl (Or.inl rfl) (co c__law_masked (hr.mono (by decide)) (pa_cons (pv 1) (pa_cons (co c__law_masked (hr.mono (by decide)) (pa_cons (pv 1) (pa_cons (pv 4) pa_nil))) pa_nil))))
    (Evl.pss_cut (ps_set (i := 6) sc.nd rfl (Or.inl rfl) (co c__law_tree (hr.mono (by decide)) (pa_cons (pv 1) (pa_cons (pv 2) (pa_cons (pe_op op_add pe_int (co c__law_pick (hr.mono (by decide)) (pa_cons (pv 1) (pa_cons pe_int pa_nil)))) pa_nil)))))
    (Evl.pss_cut (ps_set (i := 7) sc.nd rfl (Or.inl rfl) (pe_lst pa_nil))
    (Evl.pss_cut (ps_for PassesOwn.never rfl (pi_list (pe_lst (pa_cons (pv 4) (pa_cons (pv 5) (pa_cons (pv 6) pa_nil))))) (pg_name (i := 8) sc.nd rfl (Or.inl rfl))
      (pss_cons (ps_set (i := 9) sc.nd rfl (Or.inl rfl) (co c__law_shown (hr.mono (by decide)) (pa_cons (pv 8) pa_nil)))
    (pss_cons (ps_if (pt_not (pt_val (co c__law_same (hr.mono (by decide)) (pa_cons (pe_tup (pa_cons (co c_shown (hr.mono (by decide)) (pa_cons (pv 8) pa_nil)) (pa_cons (cok k_shown (hr.mono (by decide)) pass0 (pk_cons (pv 8) pk_nil)) pa_nil))) (pa_cons (pe_tup (pa_cons (pv 9) (pa_cons (pv 9) pa_nil))) pa_nil)))))
      (pss_one (ps_ret pe_bl))
      pss_nil)
    (pss_one (ps_set (i := 7) sc.nd rfl (Or.inl rfl) (pe_op op_cat (pv 7) (pe_lst (pa_cons (pv 9) (pa_cons (co c__law_turned (hr.mono (by decide)) (pa_cons (pv 1) (pa_cons (pv 9) pa_nil))) (pa_cons (co c__law_turned (hr.mono (by decide)) (pa_cons (pv 1) (pa_cons (pv 9) pa_nil))) (pa_cons (co c__law_turned (hr.mono (by decide)) (pa_cons (pv 1) (pa_cons (co c__law_turned (hr.mono (by decide)) (pa_cons (pv 1) (pa_cons (pv 9) pa_nil))) pa_nil))) pa_nil)))))))))))
    (pss_cons (ps_set (i := 10) sc.nd rfl (Or.inr rfl) pe_str)
    (Evl.pss_cut (ps_expr (pe_bm PySem.F.plainAttrs_list PySem.F.slot_list_append PySem.F.type_list_append mt_append (pv 7) (pa_cons (pe_join pe_str (pe_lc (own := [("_law_k", 13)]) (g := gName 13) (tt := tYes) rfl sc.nd (pi_range1 (by rfl) B.range (pa_cons (co c__law_pick (hr.mono (by decide)) (pa_cons (pv 1) (pa_cons pe_int pa_nil))) pa_nil)) (blkOk_by (N := ["_law_script", "_law_tape_here", "_law_marks_here", "_law_size", "_law_tall", "_law_mask", "_law_few", "_law_lines", "_law_row", "_law_line", "_law_signs", "_law_limbs", "_law_named", "_law_k"]) (sc := defScope (topS 34)) (by decide +kernel)) (fun _ _ _ _ _ => pg_name (i := 13) sc.nd rfl (Or.inl rfl)) (fun _ _ _ _ _ => pts_nil) (fun _ _ _ _ _ => (pe_ix ix_str (pv 10) (co c__law_pick (hr.mono (by decide)) (pa_cons (pv 1) (pa_cons (pe_callB call_len_str (by rfl) B.len PySem.boot_len (pa_cons (pv 10) pa_nil)) pa_nil))) (fun _ _ => rfl))))) pa_nil)))
    (Evl.pss_cut (ps_set (i := 7) sc.nd rfl (Or.inl rfl) (pe_op op_cat (pv 7) (pe_lc (own := [("_law_k", 13)]) (g := gName 13) (tt := tYes) rfl sc.nd (pi_range1 (by rfl) B.range (pa_cons pe_int pa_nil)) (blkOk_by (N := ["_law_script", "_law_tape_here", "_law_marks_here", "_law_size", "_law_tall", "_law_mask", "_law_few", "_law_lines", "_law_row", "_law_line", "_law_signs", "_law_limbs", "_law_named", "_law_k"]) (sc := defScope (topS 34)) (by decide +kernel)) (fun _ _ _ _ _ => pg_name (i := 13) sc.nd rfl (Or.inl rfl)) (fun _ _ _ _ _ => pts_nil) (fun _ _ _ _ _ => (co c__law_built (hr.mono (by decide)) (pa_cons (pv 1) pa_nil))))))
    (Evl.pss_cut (ps_setLc (i := 11) (own := [("_law_k", 13)]) (g := gName 13) (tt := tYes) rfl sc.nd rfl rfl (sw_true rfl rfl rfl (by decide +kernel)) (pi_range1 (by rfl) B.range (pa_cons (pe_op op_add pe_int (co c__law_pick (hr.mono (by decide)) (pa_cons (pv 1) (pa_cons pe_int pa_nil)))) pa_nil)) (blkOk_by (N := ["_law_script", "_law_tape_here", "_law_marks_here", "_law_size", "_law_tall", "_law_mask", "_law_few", "_law_lines", "_law_row", "_law_line", "_law_signs", "_law_limbs", "_law_named", "_law_k"]) (sc := defScope (topS 34)) (by decide +kernel)) (fun _ _ _ _ _ => pg_name (i := 13) sc.nd rfl (Or.inl rfl)) (fun _ _ _ _ _ => pts_nil) (fun _ _ _ _ _ => (pe_ix (ix_listK (K := K) rfl) (pe_lst (pa_cons pe_str (pa_cons pe_str (pa_cons pe_str (pa_cons pe_str (pa_cons pe_str (pa_cons pe_str pa_nil))))))) (co c__law_pick (hr.mono (by decide)) (pa_cons (pv 1) (pa_cons pe_int pa_nil))) (fun _ _ => rfl))))
    (Evl.pss_cut (ps_expr (pe_bm PySem.F.plainAttrs_list PySem.F.slot_list_append PySem.F.type_list_append mt_append (pv 7) (pa_cons (pe_op op_add_str (pe_op op_add_str pe_str (pe_join pe_str (pv 11))) pe_str) pa_nil)))
    (Evl.pss_cut (ps_for PassesOwn.never rfl (pi_list (pv 7)) (pg_name (i := 9) sc.nd rfl (Or.inl rfl))
      (pss_one (ps_if (pt_not (pt_val (co c__law_right hr (pa_cons (pv 9) pa_nil))))
      (pss_one (ps_ret pe_bl))
      pss_nil)))
    (pss_cons (ps_set (i := 12) sc.nd rfl (Or.inl rfl) (pe_tup (pa_cons (cok k_read_tree (hr.mono (by decide)) passL (pk_cons (pe_ix ix_list (pv 7) pe_int (fun _ _ => rfl)) pk_nil)) (pa_cons (cok k_read_pattern (hr.mono (by decide)) passL (pk_cons (pe_ix ix_list (pv 7) pe_int (fun _ _ => rfl)) pk_nil)) (pa_cons (cok k_read_pattern (hr.mono (by decide)) passL (pk_cons (pe_ix ix_list (pv 7) pe_int (fun _ _ => rfl)) pk_nil)) pa_nil)))))
    (pss_one (ps_ret (pe_and (co c__law_same (hr.mono (by decide)) (pa_cons (pv 12) (pa_cons (pe_tup (pa_cons (pv 4) (pa_cons (pv 5) (pa_cons (pv 6) pa_nil)))) pa_nil))) (pe_one (co c__law_refusals hr (pa_cons (pv 1) (pa_cons (pv 4) pa_nil))))))))))))))))))))))), ?_⟩
    have z2 : (2 : Nat) ≤ sizeLine := by decide
    have z3 : (3 : Nat) ≤ sizeLine := by decide
    have z4 : (4 : Nat) ≤ sizeLine := by decide
    have z6 : (6 : Nat) ≤ sizeLine := by decide
    refine ⟨.ref a, rfl, a, ns, rfl, hS, hl, fun H1 t ca sa s1 ht hca hsa T1 => ?_⟩
    refine ⟨_, rfl, t, ca, sa, rfl, T1, fun H2 pm mvs ms hpm hm hsy g l10 T2 k2 => ?_⟩
    have om := T1.off hpm
    have pc := Ne.symm om.2.1
    have ps := Ne.symm om.2.2
    have M2 : Ln0 t ca sa pm mvs ms H2 := ⟨T2, hm, hsy⟩
    -- size
    refine ⟨fun σ' H' => ∃ n : Nat, σ' = [some (.ref a), some (.ref t), some (.ref pm), some (.int (n : Int)), none, none, none, none, none, none, none, none, none, none] ∧ 1 ≤ n ∧ n ≤ 60 ∧ Ln0 t ca sa pm mvs ms H', ?_, ?_⟩
    · exact ⟨_, rfl, t, ca, sa, 14, rfl, by decide, by decide, T2, fun H3 r hr T3 k3 => ⟨_, _, rfl, rfl, 1 + r, rfl, by omega, by omega, M2.pick pc ps T3 k3⟩⟩
    rintro σ' H3 ⟨n, rfl, n1, n60, M3⟩
    refine ⟨fun σ' H' => ∃ n : Nat, σ' = [some (.ref a), some (.ref t), some (.ref pm), some (.int (n : Int)), none, none, none, none, none, none, none, none, none, none] ∧ 1 ≤ n ∧ n ≤ 60 ∧ Ln0 t ca sa pm mvs ms H', ?_, ?_⟩
    · exact ⟨_, rfl, t, ca, sa, 8, rfl, by decide, by decide, M3.tape, fun H4 r hr T4 k4 => ⟨rfl, _, rfl, ite2 (fun _ => ⟨60, rfl, by decide, by decide, M3.pick pc ps T4 k4⟩) (fun _ => ⟨n, rfl, n1, n60, M3.pick pc ps T4 k4⟩)⟩⟩
    clear n1 n60 M3 M2 n
    rintro σ' H3 ⟨n, rfl, n1, n60, M3⟩
    -- tall
    refine ⟨fun σ' H' => ∃ (a1 : Addr) (r1 : List Sy), σ' = [some (.ref a), some (.ref t), some (.ref pm), some (.int (n : Int)), some (.ref a1), none, none, none, none, none, none, none, none, none] ∧ Ln0 t ca sa pm mvs ms H' ∧ TreeAt H' a1 r1 ∧ GoodT false r1, ?_, ?_⟩
    · exact ⟨_, rfl, _, rfl, _, rfl, t, ca, sa, pm, mvs, ms, n, rfl, M3.tape, M3.mks, M3.sy, g, l10, n1, n60, pc, ps, fun H4 a1 r1 ht1 hf1 hok1 hl1 T4 k4 => ⟨a1, r1, rfl, M3.pick pc ps T4 k4, ht1, hf1, hok1, by omega⟩⟩
    rintro σ' H4 ⟨a1, r1, rfl, M4, ht1, g1⟩
    -- mask
    refine ⟨fun σ' H' => ∃ (a2 : Addr) (r2 : List Sy), σ' = [some (.ref a), some (.ref t), some (.ref pm), some (.int (n : Int)), some (.ref a1), some (.ref a2), none, none, none, none, none, none, none, none] ∧ Ln0 t ca sa pm mvs ms H' ∧ TreeAt H' a1 r1 ∧ TreeAt H' a2 r2 ∧ GoodT true r2, ?_, ?_⟩
    · exact ⟨_, rfl, _, rfl, _, rfl, t, ca, sa, a1, r1, rfl, M4.tape, ht1, g1.f, allOk_true g1.ok, g1.len, fun H5 b r ht hf hok hl T5 k5 => ⟨t, ca, sa, b, r, rfl, T5, ht, hf, hok, hl, fun H6 b2 r2 ht2 hf2 hok2 hl2 T6 k6 => ⟨b2, r2, rfl, M4.pick pc ps T6 (k5.trans k6), ht1.keep ((k5.trans k6).tk M4.tape), ht2, hf2, hok2, hl2⟩⟩⟩
    rintro σ' H5 ⟨a2, r2, rfl, M5, ht1, ht2, g2⟩
    -- few
    refine ⟨fun σ' H' => ∃ (a3 : Addr) (r3 : List Sy), σ' = [some (.ref a), some (.ref t), some (.ref pm), some (.int (n : Int)), some (.ref a1), some (.ref a2), some (.ref a3), none, none, none, none, none, none, none] ∧ Tape H' t ca sa ∧ TreeAt H' a1 r1 ∧ TreeAt H' a2 r2 ∧ TreeAt H' a3 r3 ∧ GoodT false r3, ?_, ?_⟩
    · refine ⟨_, rfl, _, rfl, _, rfl, t, ca, sa, 6, rfl, by decide, by decide, M5.tape, fun H6 r hr T6 k6 => ?_⟩
      have M6 := M5.pick pc ps T6 k6
      have kk := k6.tk M5.tape
      exact ⟨_, _, rfl, rfl, t, ca, sa, pm, mvs, ms, 1 + r, rfl, T6, M6.mks, M6.sy, g, l10, by omega, by omega, pc, ps, fun H7 a3 r3 ht3 hf3 hok3 hl3 T7 k7 => ⟨a3, r3, rfl, T7, (ht1.keep kk).keep (k7.tk T6), (ht2.keep kk).keep (k7.tk T6), ht3, hf3, hok3, by omega⟩⟩
    rintro σ' HB ⟨a3, r3, rfl, T0, ht1, ht2, ht3, g3⟩
    clear M5 M4 M3
    -- lines = []
    refine ⟨fun σ' H' => ∃ pl, σ' = [some (.ref a), some (.ref t), some (.ref pm), some (.int (n : Int)), some (.ref a1), some (.ref a2), some (.ref a3), some (.ref pl), none, none, none, none, none, none] ∧ LnSt HB t ca sa pl [] H', ?_, ?_⟩
    · exact ⟨Nat.zero_le _, fun pl hpl => ⟨pl, rfl, .new T0 (.refl _ _ _) hpl⟩⟩
    rintro σ' H6 ⟨pl, rfl, ML⟩
    -- the first loop
    refine ⟨fun σ' H' => ∃ (pl : Addr) (zs : List Str) (y8 y9 : Option V), σ' = [some (.ref a), some (.ref t), some (.ref pm), some (.int (n : Int)), some (.ref a1), some (.ref a2), some (.ref a3), some (.ref pl), y8, y9, none, none, none, none] ∧ LnSt HB t ca sa pl (zs.map V.str) H' ∧ LOK r1 r2 r3 12 zs, ?_, ?_⟩
    · refine ⟨_, rfl, _, rfl, _, rfl, z3, fun pq hpq => ?_⟩
      have MQ : LnSt HB t ca sa pq [.ref a1, .ref a2, .ref a3] (upd H6 pq (.lst [.ref a1, .ref a2, .ref a3])) := .new ML.tape ML.but hpq
      have ML1 := ML.same (same_new (o := .lst [.ref a1, .ref a2, .ref a3]) hpq)
      generalize upd H6 pq (.lst [.ref a1, .ref a2, .ref a3]) = H7 at MQ ML1 ⊢
      refine ⟨pq, rfl, ⟨_, SqL.of MQ.lst⟩, for_list (xs := [.ref a1, .ref a2, .ref a3]) (fun i σ H' => ∃ (pl : Addr) (zs : List Str) (y8 y9 : Option V), σ = [some (.ref a), some (.ref t), some (.ref pm), some (.int (n : Int)), some (.ref a1), some (.ref a2), some (.ref a3), some (.ref pl), y8, y9, none, none, none, none] ∧ LnSt HB t ca sa pl (zs.map V.str) H' ∧ LnSt HB t ca sa pq [.ref a1, .ref a2, .ref a3] H' ∧
        zs.length = 4 * i ∧ (∀ z ∈ zs, z.length ≤ 2000) ∧ (1 ≤ i → zs[0]? = some (mk (show_ r1))) ∧ (2 ≤ i → zs[4]? = some (mk (show_ r2))) ∧ (3 ≤ i → zs[8]? = some (mk (show_ r3)))) ⟨pl, [], none, none, rfl, ML1, MQ, rfl, fun z hz => (by cases hz), fun h => absurd h (by decide), fun h => absurd h (by decide), fun h => absurd h (by decide)⟩ ?_ ?_ ?_⟩
      · rintro i σ H' _ ⟨pl, zs, y8, y9, rfl, _, MQ, _⟩
        exact SqL.of MQ.lst
      · rintro i x σ H8 hx ⟨pl, zs, y8, y9, rfl, ML, MQ, hzl, hzs, e0, e4, e8⟩
        have tk := ML.but.tk T0
        obtain ⟨ax, rx, rfl, htx, hfx, hsx, hlx, hbx, q0, q4, q8⟩ : ∃ ax rx, x = .ref ax ∧ TreeAt H8 ax rx ∧ forest 1 rx ∧ Short rx ∧ rx.length ≤ 60 ∧ (mk (show_ rx)).length ≤ 1140 ∧ (i = 0 → rx = r1) ∧ (i = 1 → rx = r2) ∧ (i = 2 → rx = r3) := by
          match i, hx with
          | 0, hx => exact ⟨a1, r1, (Option.some.inj hx).symm, ht1.keep tk, g1.f, g1.short, g1.len, g1.shown, fun _ => rfl, fun e => (by cases e), fun e => (by cases e)⟩
          | 1, hx => exact ⟨a2, r2, (Option.some.inj hx).symm, ht2.keep tk, g2.f, g2.short, g2.len, g2.shown, fun e => (by cases e), fun _ => rfl, fun e => (by cases e)⟩
          | 2, hx => exact ⟨a3, r3, (Option.some.inj hx).symm, ht3.keep tk, g3.f, g3.short, g3.len, g3.shown, fun e => (by cases e), fun e => (by cases e), fun _ => rfl⟩
        refine ⟨_, rfl, ax, rx, rfl, htx, hfx, hsx, hlx, fun H9 s9 => ?_⟩
        have htx9 := htx.keep (TK.of s9)
        refine ⟨_, rfl, ax, rx, rfl, htx9, hfx, hsx, by omega, fun H10 s10 => ?_⟩
        have htx10 := htx9.keep (TK.of s10)
        refine ⟨_, rfl, rfl, ax, rx, rfl, htx10, hfx, hsx, by omega, fun H11 s11 => ?_⟩
        have sA := (s9.trans s10).trans s11
        generalize hL : mk (show_ rx) = L at hbx ⊢
        refine ⟨z2, fun p1 hp1 => ⟨_, rfl, _, rfl, z2, fun p2 hp2 => ?_⟩⟩
        have sB := (sA.trans (same_new (o := .tup [.str L, .str L]) hp1)).trans (same_new (o := .tup [.str L, .str L]) hp2)
        refine ⟨.ref p1, .ref p2, .tup [.str L, .str L], rfl, ⟨p1, _, rfl, same_new hp2 _ _ upd_same, _, _, rfl, rfl, _, _, rfl, rfl, rfl⟩, ⟨p2, _, rfl, upd_same, _, _, rfl, rfl, _, _, rfl, rfl, rfl⟩, by show 3 ≤ _; decide, fun H12 s12 => ⟨_, rfl, if_no rfl ?_⟩⟩
        have ML2 := ML.same (sB.trans s12)
        have MQ2 := MQ.same (sB.trans s12)
        -- lines = lines + [..]
        refine ⟨_, rfl, _, rfl, _, rfl, _, rfl, t, ca, sa, L, rfl, ML2.tape, by omega, fun H13 w1 lw1 T13 k13 => ?_⟩
        refine ⟨_, rfl, _, rfl, t, ca, sa, L, rfl, T13, by omega, fun H14 w2 lw2 T14 k14 => ?_⟩
        refine ⟨_, rfl, _, rfl, _, rfl, t, ca, sa, L, rfl, T14, by omega, fun H15 w3 lw3 T15 k15 => ⟨t, ca, sa, w3, rfl, T15, by omega, fun H16 w4 lw4 T16 k16 => ?_⟩⟩
        have kk := ((k13.trans k14).trans k15).trans k16
        have ML3 := ML2.pick T0 T16 kk
        have MQ3 := MQ2.pick T0 T16 kk
        refine ⟨z4, fun p3 hp3 => ?_⟩
        have s17 := same_new (o := .lst [.str L, .str w1, .str w2, .str w4]) hp3
        have ML4 := ML3.same s17
        have MQ4 := MQ3.same s17
        have h17 : upd H16 p3 (.lst [.str L, .str w1, .str w2, .str w4]) p3 = some (.lst [.str L, .str w1, .str w2, .str w4]) := upd_same
        generalize upd H16 p3 (.lst [.str L, .str w1, .str w2, .str w4]) = H17 at ML4 MQ4 h17 ⊢
        have i3 : i < 3 := (List.getElem?_eq_some_iff.mp hx).1
        refine ⟨pl, p3, _, _, rfl, rfl, ML4.lst, h17, small (by rw [List.length_map, hzl]; show 4 * i + 4 ≤ _; omega), fun p4 hp4 => ?_⟩
        have ez : zs.map V.str ++ [.str L, .str w1, .str w2, .str w4] = (zs ++ [L, w1, w2, w4]).map V.str := by rw [List.map_append]; rfl
        rw [ez]
        have gnew : (zs ++ [L, w1, w2, w4])[4 * i]? = some L := by
          rw [List.getElem?_append_right (by omega), hzl, Nat.sub_self]
          rfl
        refine ⟨p4, zs ++ [L, w1, w2, w4], _, _, rfl, .new ML4.tape ML4.but hp4, MQ4.same (same_new hp4), ?_, ?_, ?_, ?_, ?_⟩
        · rw [List.length_append, hzl]
          show 4 * i + 4 = _
          omega
        · intro z hz
          rcases List.mem_append.mp hz with hz | hz
          · exact hzs z hz
          · rcases List.mem_cons.mp hz with rfl | hz
            · omega
            · rcases List.mem_cons.mp hz with rfl | hz
              · omega
              · rcases List.mem_cons.mp hz with rfl | hz
                · omega
                · rcases List.mem_cons.mp hz with rfl | hz
                  · omega
                  · cases hz
        · intro _
          by_cases h : i = 0
          · rw [← q0 h, hL]
            rw [h] at gnew
            exact gnew
          · exact get_app (e0 (by omega))
        · intro _
          by_cases h : i = 1
          · rw [← q4 h, hL]
            rw [h] at gnew
            exact gnew
          · exact get_app (e4 (by omega))
        · intro _
          by_cases h : i = 2
          · rw [← q8 h, hL]
            rw [h] at gnew
            exact gnew
          · exact get_app (e8 (by omega))
      · rintro σ H' ⟨pl, zs, y8, y9, rfl, ML, MQ, hzl, hzs, e0, e4, e8⟩
        exact ⟨pl, zs, y8, y9, rfl, ML, by rw [hzl]; exact Nat.le_refl _, hzs, e0 (by show 1 ≤ 3; decide), e4 (by show 2 ≤ 3; decide), e8 (Nat.le_refl 3)⟩
    clear ML H6 pl
    rintro σ' H6 ⟨pl, zs, y8, y9, rfl, ML, LK⟩
    -- a short line of signs
    refine ⟨fun σ' H' => ∃ (zs : List Str) (y10 : Option V), σ' = [some (.ref a), some (.ref t), some (.ref pm), some (.int (n : Int)), some (.ref a1), some (.ref a2), some (.ref a3), some (.ref pl), y8, y9, y10, none, none, none] ∧ LnSt HB t ca sa pl (zs.map V.str) H' ∧ LOK r1 r2 r3 13 zs, ?_, ?_⟩
    · have hsl : ("ab.?(),(),f1- " : Str).length = 14 := by decide +kernel
      refine ⟨_, rfl, .inl ⟨rfl, _, SqL.of ML.lst⟩, ⟨_, rfl⟩, _, rfl, t, ca, sa, 9, rfl, by decide, by decide, ML.tape, fun H7 r hr T7 k7 => ⟨r, rfl, by omega, by omega, fun D hD => ?_⟩⟩
      have ML7 := ML.pick T0 T7 k7
      have nD := ML7.ne hD
      refine lc_range (lo := 0) (n := ((r : Nat) : Int).toNat) (fun j H' => ∃ ys : List Str, LnSt HB t ca sa D (ys.map V.str) H' ∧ LnSt HB t ca sa pl (zs.map V.str) H' ∧ ys.length = j ∧ ∀ y ∈ ys, y.length ≤ 1) ⟨[], .new T7 ML7.but hD, ML7.same (same_new hD), rfl, fun y hy => (by cases hy)⟩ ?_ ?_
      · rintro j H8 hj ⟨ys, MD, ML8, lys, hys⟩
        rw [Int.toNat_natCast] at hj
        refine ⟨rfl, ?_⟩
        refine ⟨_, rfl, _, rfl, _, rfl, _, rfl, small (by omega), t, ca, sa, ("ab.?(),(),f1- " : Str).length, rfl, by omega, by omega, MD.tape, fun H9 r9 hr9 T9 k9 => ?_⟩
        obtain ⟨c, hc⟩ := sign_at hr9
        have MD9 := MD.pick T0 T9 k9
        have ML9 := ML8.pick T0 T9 k9
        refine ⟨_, _, c, rfl, rfl, small (by omega), hc, _, MD9.lst, small1 (by rw [List.length_map]; omega), ?_⟩
        have ez : ys.map V.str ++ [V.str ⟨#[c]⟩] = (ys ++ [(⟨#[c]⟩ : Str)]).map V.str := by rw [List.map_append]; rfl
        rw [ez]
        refine ⟨ys ++ [(⟨#[c]⟩ : Str)], MD9.put T0, ML9.side T0 MD9 nD, by rw [List.length_append, lys]; rfl, fun y hy => ?_⟩
        rcases List.mem_append.mp hy with hy | hy
        · exact hys y hy
        · rw [List.mem_singleton.mp hy, one_len]
          exact Nat.le_refl _
      · rintro H8 ⟨ys, MD, ML8, lys, hys⟩
        rw [Int.toNat_natCast] at lys
        have e0 : ("" : Str).length = 0 := rfl
        have b1 := join_le (sep := "") hys
        have b2 := join_len (sep := "") hys
        rw [e0, lys] at b1 b2
        have lk := LK.len
        refine ⟨"", D, ys, rfl, rfl, .inl (SqL.of MD.lst), by rw [e0, lys]; omega, pl, _, _, rfl, rfl, ML8.lst, small1 (by rw [List.length_map]; omega), ?_⟩
        have ez : zs.map V.str ++ [.str (Txt.join "" ys)] = (zs ++ [Txt.join "" ys]).map V.str := by rw [List.map_append]; rfl
        rw [ez]
        exact ⟨zs ++ [Txt.join "" ys], _, rfl, ML8.put T0, LK.app (ws := [Txt.join "" ys]) fun z hz => by rw [List.mem_singleton.mp hz]; omega⟩
    clear ML LK zs H6
    rintro σ' H6 ⟨zs, y10, rfl, ML, LK⟩
    -- six built lines
    refine ⟨fun σ' H' => ∃ (pl : Addr) (zs : List Str), σ' = [some (.ref a), some (.ref t), some (.ref pm), some (.int (n : Int)), some (.ref a1), some (.ref a2), some (.ref a3), some (.ref pl), y8, y9, y10, none, none, none] ∧ LnSt HB t ca sa pl (zs.map V.str) H' ∧ LOK r1 r2 r3 19 zs, ?_, ?_⟩
    · refine ⟨_, rfl, 6, rfl, by decide, by decide, fun D hD => ?_⟩
      have nD := ML.ne hD
      refine lc_range (lo := 0) (n := ((6 : Int)).toNat) (fun j H' => ∃ ys : List Str, LnSt HB t ca sa D (ys.map V.str) H' ∧ LnSt HB t ca sa pl (zs.map V.str) H' ∧ ys.length = j ∧ ∀ y ∈ ys, y.length ≤ 1000) ⟨[], .new ML.tape ML.but hD, ML.same (same_new hD), rfl, fun y hy => (by cases hy)⟩ ?_ ?_
      · rintro j H8 hj ⟨ys, MD, ML8, lys, hys⟩
        have hj6 : j < 6 := hj
        refine ⟨rfl, ?_⟩
        refine ⟨_, rfl, t, ca, sa, rfl, MD.tape, fun H9 z' lz' T9 k9 => ?_⟩
        have MD9 := MD.pick T0 T9 k9
        have ML9 := ML8.pick T0 T9 k9
        refine ⟨_, MD9.lst, small1 (by rw [List.length_map]; omega), ?_⟩
        have ez : ys.map V.str ++ [.str z'] = (ys ++ [z']).map V.str := by rw [List.map_append]; rfl
        rw [ez]
        refine ⟨ys ++ [z'], MD9.put T0, ML9.side T0 MD9 nD, by rw [List.length_append, lys]; rfl, fun y hy => ?_⟩
        rcases List.mem_append.mp hy with hy | hy
        · exact hys y hy
        · rw [List.mem_singleton.mp hy]
          exact lz'
      · rintro H8 ⟨ys, MD, ML8, lys, hys⟩
        have l6 : ys.length = 6 := lys
        have lk := LK.len
        refine ⟨pl, D, _, _, rfl, rfl, ML8.lst, MD.lst, small (by rw [List.length_map, List.length_map]; omega), fun p hp => ?_⟩
        rw [← List.map_append]
        have K2 := LK.app (ws := ys) fun z hz => Nat.le_trans (hys z hz) (by decide)
        rw [l6] at K2
        exact ⟨p, zs ++ ys, rfl, .new ML8.tape ML8.but hp, K2⟩
    clear ML LK zs H6 pl
    rintro σ' H6 ⟨pl, zs, rfl, ML, LK⟩
    -- limbs
    refine ⟨fun σ' H' => ∃ (D : Addr) (ys : List Str), σ' = [some (.ref a), some (.ref t), some (.ref pm), some (.int (n : Int)), some (.ref a1), some (.ref a2), some (.ref a3), some (.ref pl), y8, y9, y10, some (.ref D), none, none] ∧ LnSt HB t ca sa pl (zs.map V.str) H' ∧ LnSt HB t ca sa D (ys.map V.str) H' ∧ ys.length ≤ 6 ∧ ∀ y ∈ ys, y.length ≤ 10, ?_, ?_⟩
    · refine ⟨_, rfl, t, ca, sa, 4, rfl, by decide, by decide, ML.tape, fun H7 r hr T7 k7 => ⟨_, _, rfl, rfl, _, rfl, by omega, by omega, fun D hD => ?_⟩⟩
      have ML7 := ML.pick T0 T7 k7
      have nD := ML7.ne hD
      refine lc_range (lo := 0) (n := ((3 : Int) + (r : Int)).toNat) (fun j H' => ∃ ys : List Str, LnSt HB t ca sa D (ys.map V.str) H' ∧ LnSt HB t ca sa pl (zs.map V.str) H' ∧ ys.length = j ∧ ∀ y ∈ ys, y.length ≤ 10) ⟨[], .new T7 ML7.but hD, ML7.same (same_new hD), rfl, fun y hy => (by cases hy)⟩ ?_ ?_
      · rintro j H8 hj ⟨ys, MD, ML8, lys, hys⟩
        have hj6 : j < 6 := by omega
        refine ⟨rfl, ?_⟩
        refine ⟨z6, fun pp hpp => ?_⟩
        have MD8 := MD.same (same_new (o := .lst [.str "a", .str "b-1", .str "f(a)", .str ".", .str "c", .str "?"]) hpp)
        have ML81 := ML8.same (same_new (o := .lst [.str "a", .str "b-1", .str "f(a)", .str ".", .str "c", .str "?"]) hpp)
        refine ⟨_, rfl, t, ca, sa, 6, rfl, by decide, by decide, MD8.tape, fun H9 r9 hr9 T9 k9 => ?_⟩
        have S : Strs 10 [.str "a", .str "b-1", .str "f(a)", .str ".", .str "c", .str "?"] := by
          repeat (first | exact .nil | refine .cons (by decide) ?_)
        obtain ⟨z', hz', lz'⟩ := S.get (r := r9) hr9
        have MD9 := MD8.pick T0 T9 k9
        have ML9 := ML81.pick T0 T9 k9
        refine ⟨pp, _, _, _, rfl, rfl, SqL.of (k9.keepL MD.tape hpp upd_same), atI_nat hz', _, MD9.lst, small1 (by rw [List.length_map]; omega), ?_⟩
        have ez : ys.map V.str ++ [.str z'] = (ys ++ [z']).map V.str := by rw [List.map_append]; rfl
        rw [ez]
        refine ⟨ys ++ [z'], MD9.put T0, ML9.side T0 MD9 nD, by rw [List.length_append, lys]; rfl, fun y hy => ?_⟩
        rcases List.mem_append.mp hy with hy | hy
        · exact hys y hy
        · rw [List.mem_singleton.mp hy]
          exact lz'
      · rintro H8 ⟨ys, MD, ML8, lys, hys⟩
        exact ⟨D, ys, rfl, ML8, MD, by omega, hys⟩
    clear ML H6
    rintro σ' H6 ⟨D, ys, rfl, ML, MD, ly, hys⟩
    refine ⟨fun σ' H' => ∃ (zs : List Str), σ' = [some (.ref a), some (.ref t), some (.ref pm), some (.int (n : Int)), some (.ref a1), some (.ref a2), some (.ref a3), some (.ref pl), y8, y9, y10, some (.ref D), none, none] ∧ LnSt HB t ca sa pl (zs.map V.str) H' ∧ LOK r1 r2 r3 20 zs, ?_, ?_⟩
    · have e1 : ("," : Str).length = 1 := rfl
      have e2 : ("g(" : Str).length = 2 := rfl
      have e3 : (")" : Str).length = 1 := rfl
      have b1 := join_le (sep := ",") hys
      have b2 := join_len (sep := ",") hys
      rw [e1] at b1 b2
      have b3 : (10 + 1) * ys.length ≤ 66 := by omega
      have lk := LK.len
      refine ⟨_, rfl, .inl ⟨rfl, _, SqL.of ML.lst⟩, ⟨_, rfl⟩, _, rfl, ",", D, ys, rfl, rfl, .inl (SqL.of MD.lst), by rw [e1]; omega, _, _, rfl, rfl, small (by omega), _, _, rfl, rfl, small (by rw [Str.length_append]; omega), pl, _, _, rfl, rfl, ML.lst, small1 (by rw [List.length_map]; omega), ?_⟩
      have ez : zs.map V.str ++ [.str ("g(" ++ Txt.join "," ys ++ ")")] = (zs ++ [("g(" ++ Txt.join "," ys ++ ")" : Str)]).map V.str := by rw [List.map_append]; rfl
      rw [ez]
      exact ⟨_, rfl, ML.put T0, LK.app (ws := [("g(" ++ Txt.join "," ys ++ ")" : Str)]) fun z hz => by rw [List.mem_singleton.mp hz, Str.length_append, Str.length_append]; omega⟩
    clear ML MD LK zs H6
    rintro σ' H6 ⟨zs, rfl, ML, LK⟩
    -- the second loop
    refine ⟨fun σ' H' => ∃ (y9 : Option V), σ' = [some (.ref a), some (.ref t), some (.ref pm), some (.int (n : Int)), some (.ref a1), some (.ref a2), some (.ref a3), some (.ref pl), y8, y9, y10, some (.ref D), none, none] ∧ LnSt HB t ca sa pl (zs.map V.str) H', ?_, ?_⟩
    · refine ⟨_, rfl, pl, rfl, ⟨_, SqL.of ML.lst⟩, for_list (xs := zs.map V.str) (fun i σ H' => ∃ (y9 : Option V), σ = [some (.ref a), some (.ref t), some (.ref pm), some (.int (n : Int)), some (.ref a1), some (.ref a2), some (.ref a3), some (.ref pl), y8, y9, y10, some (.ref D), none, none] ∧ LnSt HB t ca sa pl (zs.map V.str) H') ⟨y9, rfl, ML⟩ ?_ ?_ ?_⟩
      · rintro i σ H' _ ⟨y9, rfl, ML⟩
        exact SqL.of ML.lst
      · rintro i x σ H7 hx ⟨y9, rfl, ML⟩
        rw [List.getElem?_map] at hx
        obtain ⟨z, hz, rfl⟩ := Option.map_eq_some_iff.mp hx
        have lz := LK.le z (List.mem_of_getElem? hz)
        exact ⟨_, rfl, z, rfl, by omega, fun H8 s8 => ⟨_, rfl, if_no rfl ⟨_, rfl, ML.same s8⟩⟩⟩
      · rintro σ H7 ⟨y9, rfl, ML⟩
        exact ⟨y9, rfl, ML⟩
    clear ML H6 y9
    rintro σ' H6 ⟨y9, rfl, ML⟩
    -- the rows read by name
    have tk := ML.but.tk T0
    have h1 := ht1.keep tk
    have h2 := ht2.keep tk
    have h3 := ht3.keep tk
    have v1 : verdict false (show_ r1) = .ok r1 := shown_read g1.f g1.ok
    have v2 : verdict true (show_ r2) = .ok r2 := shown_read g2.f g2.ok
    have v3 : verdict true (show_ r3) = .ok r3 := shown_read g3.f (allOk_true g3.ok)
    have b1 := g1.shown
    have b2 := g2.shown
    have b3 := g3.shown
    have i0 : atI (zs.map V.str) 0 = some (.str (mk (show_ r1))) := atI_nat (j := 0) (by rw [List.getElem?_map, LK.g0]; rfl)
    have i4 : atI (zs.map V.str) 4 = some (.str (mk (show_ r2))) := atI_nat (j := 4) (by rw [List.getElem?_map, LK.g4]; rfl)
    have i8 : atI (zs.map V.str) 8 = some (.str (mk (show_ r3))) := atI_nat (j := 8) (by rw [List.getElem?_map, LK.g8]; rfl)
    refine ⟨_, rfl, pl, _, 0, _, rfl, rfl, SqL.of ML.lst, i0, rfl, _, rfl, .inl ⟨_, rfl, by omega, fun row e H7 x1 s7 t1 => ?_, fun k e => by rw [tl_mk, v1] at e; cases e⟩⟩
    have e' : row = r1 := by
      rw [tl_mk, v1] at e
      exact (Except.ok.inj e).symm
    subst e'
    have ML7 := ML.same s7
    refine ⟨_, rfl, pl, _, 4, _, rfl, rfl, SqL.of ML7.lst, i4, rfl, _, rfl, .inl ⟨_, rfl, by omega, fun row2 e2 H8 x2 s8 t2 => ?_, fun k e => by rw [tl_mk, v2] at e; cases e⟩⟩
    have e2' : row2 = r2 := by
      rw [tl_mk, v2] at e2
      exact (Except.ok.inj e2).symm
    subst e2'
    have ML8 := ML7.same s8
    refine ⟨_, rfl, pl, _, 8, _, rfl, rfl, SqL.of ML8.lst, i8, rfl, _, rfl, .inl ⟨_, rfl, by omega, fun row3 e3 H9 x3 s9 t3 => ?_, fun k e => by rw [tl_mk, v3] at e; cases e⟩⟩
    have e3' : row3 = r3 := by
      rw [tl_mk, v3] at e3
      exact (Except.ok.inj e3).symm
    subst e3'
    refine ⟨z3, fun pn hpn => ?_⟩
    have sN := same_new (o := .tup [.ref x1, .ref x2, .ref x3]) hpn
    refine ⟨_, rfl, _, rfl, _, rfl, _, rfl, z3, fun pt hpt => ?_⟩
    have sT := same_new (o := .tup [.ref a1, .ref a2, .ref a3]) hpt
    have k9 : TK H9 _ := TK.of (sN.trans sT)
    have k8 := (TK.of s9).trans k9
    have k7 := (TK.of s8).trans k8
    have k6 := (TK.of s7).trans k7
    have d1 := sz_rowD row
    have d2 := sz_rowD row2
    have d3 := sz_rowD row3
    have l1 := g1.len
    have l2 := g2.len
    have l3 := g3.len
    refine ⟨.ref pn, .ref pt, .tup [rowD row, rowD row2, rowD row3], rfl, ⟨pn, _, rfl, sT _ _ upd_same, _, _, rfl, rowD_at.mpr ⟨x1, rfl, t1.keep k7⟩, _, _, rfl, rowD_at.mpr ⟨x2, rfl, t2.keep k8⟩, _, _, rfl, rowD_at.mpr ⟨x3, rfl, t3.keep k9⟩, rfl⟩,
      ⟨pt, _, rfl, upd_same, _, _, rfl, rowD_at.mpr ⟨a1, rfl, h1.keep k6⟩, _, _, rfl, rowD_at.mpr ⟨a2, rfl, h2.keep k6⟩, _, _, rfl, rowD_at.mpr ⟨a3, rfl, h3.keep k6⟩, rfl⟩, ?_, fun H10 s10 => ?_⟩
    · show 1 + (sz (rowD row) + (sz (rowD row2) + (sz (rowD row3) + 0))) ≤ _
      omega
    · have kz := k6.trans (TK.of s10)
      obtain ⟨xs1, hx1, _⟩ := h1.keep kz
      have T10 : Tape H10 t ca sa := ((((ML8.same s9).tape.same sN).same sT).same s10)
      exact ⟨_, rfl, if_yes rfl ⟨_, rfl, _, rfl, t, ca, sa, a1, xs1, rfl, T10, hx1, q⟩⟩
end
end Kx

namespace Kx
open PySem PySem.Spec PyProof.Rows L2
/-! ### what the top has written -/
theorem kit_ref {K : PySem.W.Frag} {C : Addr} {t : Value} (h1 : PySem.W.isClsIn K C = true) (h2 : PySem.W.typeIn K (.ref C) = some (.type "type")) (h3 : PySem.W.subIn K t (.ref C) = some true) : PySem.W.kitOne K t (.ref C) = some true := by
  unfold PySem.W.kitOne
  by_cases e : (t == Value.ref C) = true
  · rw [if_pos e]
  · rw [if_neg e]
    have h1' : (PySem.W.clsIn K C).isSome = true := h1
    show (if ((PySem.W.clsIn K C).isSome && PySem.W.typeIn K (.ref C) == some (.type "type")) = true then PySem.W.subIn K t (.ref C) else none) = some true
    have e2 : ((PySem.W.clsIn K C).isSome && PySem.W.typeIn K (.ref C) == some (.type "type")) = true := by rw [h1', h2] <;> rfl
    rw [if_pos e2]
    exact h3
theorem kbn_mk {K : PySem.W.Frag} {fd : FuncData} {p : Str} (h : ∀ v : Value, bindArgs fd ⟨[], [(p, v)]⟩ = pure [(p, v)]) : KBn K fd [p] 0 [p] (fun _ ws => ws) (fun _ zs => zs) :=
  ⟨fun s us ws _ hu hw => match us, hu, ws, hw with
    | [], _, [v], _ => .of_eq (h v), fun _ r => r⟩
theorem all_mk {P : Program} {w : World} {K : PySem.W.Frag} {h : Heap} {mg : Str → Option Value} {fa : Addr} (X : K.In h) (G : h.Ns mainGlobals mg) (hfa : mg "law" = some (.ref fa))
    {f9 f10 f12 f13 f14 f15 f16 f18 f20 f21 f22 f23 f24 f25 f26 f27 f28 f29 f30 f31 f32 f33 f34 CI fI CN fN CT CU : Addr}
    {oc9 kV9 dc9 pm9 cd9 ct9 oc10 kV10 dc10 pm10 cd10 ct10 oc12 kV12 dc12 pm12 cd12 ct12 oc13 kV13 dc13 pm13 cd13 ct13 oc14 kV14 dc14 pm14 cd14 ct14 oc15 kV15 dc15 pm15 cd15 ct15 oc16 kV16 dc16 pm16 cd16 ct16 oc18 kV18 dc18 pm18 cd18 ct18 oc20 kV20 dc20 pm20 cd20 ct20 oc21 kV21 dc21 pm21 cd21 ct21 oc22 kV22 dc22 pm22 cd22 ct22 oc23 kV23 dc23 pm23 cd23 ct23 oc24 kV24 dc24 pm24 cd24 ct24 oc25 kV25 dc25 pm25 cd25 ct25 oc26 kV26 dc26 pm26 cd26 ct26 oc27 kV27 dc27 pm27 cd27 ct27 oc28 kV28 dc28 pm28 cd28 ct28 oc29 kV29 dc29 pm29 cd29 ct29 oc30 kV30 dc30 pm30 cd30 ct30 oc31 kV31 dc31 pm31 cd31 ct31 oc32 kV32 dc32 pm32 cd32 ct32 oc33 kV33 dc33 pm33 cd33 ct33 oc34 kV34 dc34 pm34 cd34 ct34 ocI kVI dcI pmI cdI ctI ocN kVN dcN pmN cdN ctN : Value}
    {od9 an9 od10 an10 od12 an12 od13 an13 od14 an14 od15 an15 od16 an16 od18 an18 od20 an20 od21 an21 od22 an22 od23 an23 od24 an24 od25 an25 od26 an26 od27 an27 od28 an28 od29 an29 od30 an30 od31 an31 od32 an32 od33 an33 od34 an34 odI anI odN anN : Option Addr}
    {sl9 sl10 sl12 sl13 sl14 sl15 sl16 sl18 sl20 sl21 sl22 sl23 sl24 sl25 sl26 sl27 sl28 sl29 sl30 sl31 sl32 sl33 sl34 slI slN : Array (Option Value)} {tL tO : Tok}
    {nmI qI : Str} {NI : Addr} {bsI bmI : List Value} {snI : List Str} {subI : List Value} {abI : Bool} {colI : Option Bool} {ddI : Option Addr} {m0I m1I m2I m3I m5I : Option Value}
    {nmN qN : Str} {NN : Addr} {bsN bmN : List Value} {snN : List Str} {subN : List Value} {abN : Bool} {colN : Option Bool} {ddN : Option Addr} {m0N m1N m2N m3N m5N : Option Value}
    (a9 : PySem.W.nsIn K mainGlobals "a_begins" = some (some (.ref f9)))
    (l9 : K.lookup f9 = some ⟨oc9, od9, .func (PySem.W.fnOf "a_begins" "a_begins" (defArgs (topS 9)) (defBody (topS 9)) (defScope (topS 9)) .none kV9 dc9 pm9 an9 cd9 ct9), sl9⟩)
    (c9 : PySem.W.codeIn K cd9 "a_begins" = true)
    (k9 : PySem.W.keepIn K (.ref f9) = true)
    (a10 : PySem.W.nsIn K mainGlobals "a_goes_on" = some (some (.ref f10)))
    (l10 : K.lookup f10 = some ⟨oc10, od10, .func (PySem.W.fnOf "a_goes_on" "a_goes_on" (defArgs (topS 10)) (defBody (topS 10)) (defScope (topS 10)) .none kV10 dc10 pm10 an10 cd10 ct10), sl10⟩)
    (c10 : PySem.W.codeIn K cd10 "a_goes_on" = true)
    (k10 : PySem.W.keepIn K (.ref f10) = true)
    (a12 : PySem.W.nsIn K mainGlobals "_a_word_at" = some (some (.ref f12)))
    (l12 : K.lookup f12 = some ⟨oc12, od12, .func (PySem.W.fnOf "_a_word_at" "_a_word_at" (defArgs (topS 12)) (defBody (topS 12)) (defScope (topS 12)) .none kV12 dc12 pm12 an12 cd12 ct12), sl12⟩)
    (c12 : PySem.W.codeIn K cd12 "_a_word_at" = true)
    (k12 : PySem.W.keepIn K (.ref f12) = true)
    (a13 : PySem.W.nsIn K mainGlobals "_a_read" = some (some (.ref f13)))
    (l13 : K.lookup f13 = some ⟨oc13, od13, .func (PySem.W.fnOf "_a_read" "_a_read" (defArgs (topS 13)) (defBody (topS 13)) (defScope (topS 13)) .none kV13 dc13 pm13 an13 cd13 ct13), sl13⟩)
    (c13 : PySem.W.codeIn K cd13 "_a_read" = true)
    (k13 : PySem.W.keepIn K (.ref f13) = true)
    (a14 : PySem.W.nsIn K mainGlobals "_a_close" = some (some (.ref f14)))
    (l14 : K.lookup f14 = some ⟨oc14, od14, .func (PySem.W.fnOf "_a_close" "_a_close" (defArgs (topS 14)) (defBody (topS 14)) (defScope (topS 14)) .none kV14 dc14 pm14 an14 cd14 ct14), sl14⟩)
    (c14 : PySem.W.codeIn K cd14 "_a_close" = true)
    (k14 : PySem.W.keepIn K (.ref f14) = true)
    (a15 : PySem.W.nsIn K mainGlobals "read_tree" = some (some (.ref f15)))
    (l15 : K.lookup f15 = some ⟨oc15, od15, .func (PySem.W.fnOf "read_tree" "read_tree" (defArgs (topS 15)) (defBody (topS 15)) (defScope (topS 15)) .none kV15 dc15 pm15 an15 cd15 ct15), sl15⟩)
    (c15 : PySem.W.codeIn K cd15 "read_tree" = true)
    (k15 : PySem.W.keepIn K (.ref f15) = true)
    (a16 : PySem.W.nsIn K mainGlobals "read_pattern" = some (some (.ref f16)))
    (l16 : K.lookup f16 = some ⟨oc16, od16, .func (PySem.W.fnOf "read_pattern" "read_pattern" (defArgs (topS 16)) (defBody (topS 16)) (defScope (topS 16)) .none kV16 dc16 pm16 an16 cd16 ct16), sl16⟩)
    (c16 : PySem.W.codeIn K cd16 "read_pattern" = true)
    (k16 : PySem.W.keepIn K (.ref f16) = true)
    (a18 : PySem.W.nsIn K mainGlobals "shown" = some (some (.ref f18)))
    (l18 : K.lookup f18 = some ⟨oc18, od18, .func (PySem.W.fnOf "shown" "shown" (defArgs (topS 18)) (defBody (topS 18)) (defScope (topS 18)) .none kV18 dc18 pm18 an18 cd18 ct18), sl18⟩)
    (c18 : PySem.W.codeIn K cd18 "shown" = true)
    (k18 : PySem.W.keepIn K (.ref f18) = true)
    (a20 : PySem.W.nsIn K mainGlobals "_law_tape" = some (some (.ref f20)))
    (l20 : K.lookup f20 = some ⟨oc20, od20, .func (PySem.W.fnOf "_law_tape" "_law_tape" (defArgs (topS 20)) (defBody (topS 20)) (defScope (topS 20)) .none kV20 dc20 pm20 an20 cd20 ct20), sl20⟩)
    (c20 : PySem.W.codeIn K cd20 "_law_tape" = true)
    (k20 : PySem.W.keepIn K (.ref f20) = true)
    (a21 : PySem.W.nsIn K mainGlobals "_law_pick" = some (some (.ref f21)))
    (l21 : K.lookup f21 = some ⟨oc21, od21, .func (PySem.W.fnOf "_law_pick" "_law_pick" (defArgs (topS 21)) (defBody (topS 21)) (defScope (topS 21)) .none kV21 dc21 pm21 an21 cd21 ct21), sl21⟩)
    (c21 : PySem.W.codeIn K cd21 "_law_pick" = true)
    (k21 : PySem.W.keepIn K (.ref f21) = true)
    (a22 : PySem.W.nsIn K mainGlobals "_law_same" = some (some (.ref f22)))
    (l22 : K.lookup f22 = some ⟨oc22, od22, .func (PySem.W.fnOf "_law_same" "_law_same" (defArgs (topS 22)) (defBody (topS 22)) (defScope (topS 22)) .none kV22 dc22 pm22 an22 cd22 ct22), sl22⟩)
    (c22 : PySem.W.codeIn K cd22 "_law_same" = true)
    (k22 : PySem.W.keepIn K (.ref f22) = true)
    (a23 : PySem.W.nsIn K mainGlobals "_law_marks" = some (some (.ref f23)))
    (l23 : K.lookup f23 = some ⟨oc23, od23, .func (PySem.W.fnOf "_law_marks" "_law_marks" (defArgs (topS 23)) (defBody (topS 23)) (defScope (topS 23)) .none kV23 dc23 pm23 an23 cd23 ct23), sl23⟩)
    (c23 : PySem.W.codeIn K cd23 "_law_marks" = true)
    (k23 : PySem.W.keepIn K (.ref f23) = true)
    (a24 : PySem.W.nsIn K mainGlobals "_law_tree" = some (some (.ref f24)))
    (l24 : K.lookup f24 = some ⟨oc24, od24, .func (PySem.W.fnOf "_law_tree" "_law_tree" (defArgs (topS 24)) (defBody (topS 24)) (defScope (topS 24)) .none kV24 dc24 pm24 an24 cd24 ct24), sl24⟩)
    (c24 : PySem.W.codeIn K cd24 "_law_tree" = true)
    (k24 : PySem.W.keepIn K (.ref f24) = true)
    (a25 : PySem.W.nsIn K mainGlobals "_law_far" = some (some (.ref f25)))
    (l25 : K.lookup f25 = some ⟨oc25, od25, .func (PySem.W.fnOf "_law_far" "_law_far" (defArgs (topS 25)) (defBody (topS 25)) (defScope (topS 25)) .none kV25 dc25 pm25 an25 cd25 ct25), sl25⟩)
    (c25 : PySem.W.codeIn K cd25 "_law_far" = true)
    (k25 : PySem.W.keepIn K (.ref f25) = true)
    (a26 : PySem.W.nsIn K mainGlobals "_law_shown" = some (some (.ref f26)))
    (l26 : K.lookup f26 = some ⟨oc26, od26, .func (PySem.W.fnOf "_law_shown" "_law_shown" (defArgs (topS 26)) (defBody (topS 26)) (defScope (topS 26)) .none kV26 dc26 pm26 an26 cd26 ct26), sl26⟩)
    (c26 : PySem.W.codeIn K cd26 "_law_shown" = true)
    (k26 : PySem.W.keepIn K (.ref f26) = true)
    (a27 : PySem.W.nsIn K mainGlobals "_law_read" = some (some (.ref f27)))
    (l27 : K.lookup f27 = some ⟨oc27, od27, .func (PySem.W.fnOf "_law_read" "_law_read" (defArgs (topS 27)) (defBody (topS 27)) (defScope (topS 27)) .none kV27 dc27 pm27 an27 cd27 ct27), sl27⟩)
    (c27 : PySem.W.codeIn K cd27 "_law_read" = true)
    (k27 : PySem.W.keepIn K (.ref f27) = true)
    (a28 : PySem.W.nsIn K mainGlobals "_law_asks" = some (some (.ref f28)))
    (l28 : K.lookup f28 = some ⟨oc28, od28, .func (PySem.W.fnOf "_law_asks" "_law_asks" (defArgs (topS 28)) (defBody (topS 28)) (defScope (topS 28)) .none kV28 dc28 pm28 an28 cd28 ct28), sl28⟩)
    (c28 : PySem.W.codeIn K cd28 "_law_asks" = true)
    (k28 : PySem.W.keepIn K (.ref f28) = true)
    (a29 : PySem.W.nsIn K mainGlobals "_law_right" = some (some (.ref f29)))
    (l29 : K.lookup f29 = some ⟨oc29, od29, .func (PySem.W.fnOf "_law_right" "_law_right" (defArgs (topS 29)) (defBody (topS 29)) (defScope (topS 29)) .none kV29 dc29 pm29 an29 cd29 ct29), sl29⟩)
    (c29 : PySem.W.codeIn K cd29 "_law_right" = true)
    (k29 : PySem.W.keepIn K (.ref f29) = true)
    (a30 : PySem.W.nsIn K mainGlobals "_law_masked" = some (some (.ref f30)))
    (l30 : K.lookup f30 = some ⟨oc30, od30, .func (PySem.W.fnOf "_law_masked" "_law_masked" (defArgs (topS 30)) (defBody (topS 30)) (defScope (topS 30)) .none kV30 dc30 pm30 an30 cd30 ct30), sl30⟩)
    (c30 : PySem.W.codeIn K cd30 "_law_masked" = true)
    (k30 : PySem.W.keepIn K (.ref f30) = true)
    (a31 : PySem.W.nsIn K mainGlobals "_law_turned" = some (some (.ref f31)))
    (l31 : K.lookup f31 = some ⟨oc31, od31, .func (PySem.W.fnOf "_law_turned" "_law_turned" (defArgs (topS 31)) (defBody (topS 31)) (defScope (topS 31)) .none kV31 dc31 pm31 an31 cd31 ct31), sl31⟩)
    (c31 : PySem.W.codeIn K cd31 "_law_turned" = true)
    (k31 : PySem.W.keepIn K (.ref f31) = true)
    (a32 : PySem.W.nsIn K mainGlobals "_law_built" = some (some (.ref f32)))
    (l32 : K.lookup f32 = some ⟨oc32, od32, .func (PySem.W.fnOf "_law_built" "_law_built" (defArgs (topS 32)) (defBody (topS 32)) (defScope (topS 32)) .none kV32 dc32 pm32 an32 cd32 ct32), sl32⟩)
    (c32 : PySem.W.codeIn K cd32 "_law_built" = true)
    (k32 : PySem.W.keepIn K (.ref f32) = true)
    (a33 : PySem.W.nsIn K mainGlobals "_law_refusals" = some (some (.ref f33)))
    (l33 : K.lookup f33 = some ⟨oc33, od33, .func (PySem.W.fnOf "_law_refusals" "_law_refusals" (defArgs (topS 33)) (defBody (topS 33)) (defScope (topS 33)) .none kV33 dc33 pm33 an33 cd33 ct33), sl33⟩)
    (c33 : PySem.W.codeIn K cd33 "_law_refusals" = true)
    (k33 : PySem.W.keepIn K (.ref f33) = true)
    (a34 : PySem.W.nsIn K mainGlobals "law" = some (some (.ref f34)))
    (l34 : K.lookup f34 = some ⟨oc34, od34, .func (PySem.W.fnOf "law" "law" (defArgs (topS 34)) (defBody (topS 34)) (defScope (topS 34)) .none kV34 dc34 pm34 an34 cd34 ct34), sl34⟩)
    (c34 : PySem.W.codeIn K cd34 "law" = true)
    (k34 : PySem.W.keepIn K (.ref f34) = true)
    (gI : PySem.W.nsIn K mainGlobals "InvalidText" = some (some (.ref CI)))
    (xI : K.lookup CI = some (excClassObj nmI qI CI NI bsI bmI true snI subI abI colI ddI m0I m1I m2I m3I m5I "ValueError.__new__"))
    (rvI : PySem.HandSPX.refsVE bmI = true)
    (saI : PySem.W.findIn K (.ref CI) "__setattr__" = some (some (.builtin "object.__setattr__")))
    (gaI : PySem.W.findIn K (.ref CI) "__getattribute__" = some (some (.builtin "BaseException.__getattribute__")))
    (ggI : PySem.W.findIn K (.ref CI) "__getattr__" = some none)
    (hcI : PySem.W.findIn K (.ref CI) "__class__" = some (some (.builtin "object.__class__")))
    (n1I : PySem.W.findIn K (.ref CI) "line" = some none)
    (n2I : PySem.W.findIn K (.ref CI) "at" = some none)
    (moI : PySem.W.mroIn K CI (.type "object") = some true)
    (eCI : PySem.W.subIn K (.ref CI) (.type "BaseException") = some true)
    (tCI : PySem.W.typeIn K (.ref CI) = some (.type "type"))
    (kCI : PySem.W.keepIn K (.ref CI) = true)
    (hdI : PySem.W.hasDictIn K CI = true)
    (iiI : PySem.W.findIn K (.ref CI) "__init__" = some (some (.ref fI)))
    (tiI : PySem.W.typeIn K (.ref fI) = some (.type "function"))
    (lI : K.lookup fI = some ⟨ocI, odI, .func (PySem.W.fnOf "__init__" "InvalidText.__init__" (defArgs (inClass (topS 5) 0)) (defBody (inClass (topS 5) 0)) (defScope (inClass (topS 5) 0)) .none kVI dcI pmI anI cdI ctI), slI⟩)
    (cI : PySem.W.codeIn K cdI "InvalidText.__init__" = true)
    (kI : PySem.W.keepIn K (.ref fI) = true)
    (gN : PySem.W.nsIn K mainGlobals "NotUsable" = some (some (.ref CN)))
    (xN : K.lookup CN = some (excClassObj nmN qN CN NN bsN bmN true snN subN abN colN ddN m0N m1N m2N m3N m5N "ValueError.__new__"))
    (rvN : PySem.HandSPX.refsVE bmN = true)
    (saN : PySem.W.findIn K (.ref CN) "__setattr__" = some (some (.builtin "object.__setattr__")))
    (gaN : PySem.W.findIn K (.ref CN) "__getattribute__" = some (some (.builtin "BaseException.__getattribute__")))
    (ggN : PySem.W.findIn K (.ref CN) "__getattr__" = some none)
    (hcN : PySem.W.findIn K (.ref CN) "__class__" = some (some (.builtin "object.__class__")))
    (n1N : PySem.W.findIn K (.ref CN) "word" = some none)
    (n2N : PySem.W.findIn K (.ref CN) "at" = some none)
    (moN : PySem.W.mroIn K CN (.type "object") = some true)
    (eCN : PySem.W.subIn K (.ref CN) (.type "BaseException") = some true)
    (tCN : PySem.W.typeIn K (.ref CN) = some (.type "type"))
    (kCN : PySem.W.keepIn K (.ref CN) = true)
    (hdN : PySem.W.hasDictIn K CN = true)
    (iiN : PySem.W.findIn K (.ref CN) "__init__" = some (some (.ref fN)))
    (tiN : PySem.W.typeIn K (.ref fN) = some (.type "function"))
    (lN : K.lookup fN = some ⟨ocN, odN, .func (PySem.W.fnOf "__init__" "NotUsable.__init__" (defArgs (inClass (topS 4) 0)) (defBody (inClass (topS 4) 0)) (defScope (inClass (topS 4) 0)) .none kVN dcN pmN anN cdN ctN), slN⟩)
    (cN : PySem.W.codeIn K cdN "NotUsable.__init__" = true)
    (kN : PySem.W.keepIn K (.ref fN) = true)
    (gT : PySem.W.nsIn K mainGlobals "TextError" = some (some (.ref CT)))
    (gU : PySem.W.nsIn K mainGlobals "UseError" = some (some (.ref CU)))
    (icT : PySem.W.isClsIn K CT = true)
    (tCT : PySem.W.typeIn K (.ref CT) = some (.type "type"))
    (icU : PySem.W.isClsIn K CU = true)
    (tCU : PySem.W.typeIn K (.ref CU) = some (.type "type"))
    (hsp : PySem.W.specialIn K (.builtin "object.__class__") "__get__" = some (some (.builtin "getset_descriptor.__get__")))
    (htk : PySem.W.takesIn K (.builtin "object.__class__") = some true)
    (sII : PySem.W.subIn K (.ref CI) (.ref CI) = some true)
    (sNI : PySem.W.subIn K (.ref CN) (.ref CI) = some false)
    (sNN : PySem.W.subIn K (.ref CN) (.ref CN) = some true)
    (sIT : PySem.W.subIn K (.ref CI) (.ref CT) = some true)
    (sNU : PySem.W.subIn K (.ref CN) (.ref CU) = some true)
    (gL : PySem.W.nsIn K mainGlobals "_A_LETTERS" = some (some (.str "abcdefghijklmnopqrstuvwxyz" tL)))
    (gO : PySem.W.nsIn K mainGlobals "_A_OTHERS" = some (some (.str "0123456789-" tO)))
    (z_len : PySem.W.nsIn K mainGlobals "len" = some none)
    (z_isinstance : PySem.W.nsIn K mainGlobals "isinstance" = some none)
    (z_abs : PySem.W.nsIn K mainGlobals "abs" = some none)
    (z_max : PySem.W.nsIn K mainGlobals "max" = some none)
    (z_int : PySem.W.nsIn K mainGlobals "int" = some none)
    (z_str : PySem.W.nsIn K mainGlobals "str" = some none)
    (z_bool : PySem.W.nsIn K mainGlobals "bool" = some none)
    (z_tuple : PySem.W.nsIn K mainGlobals "tuple" = some none)
    (z_list : PySem.W.nsIn K mainGlobals "list" = some none)
    (z_zip : PySem.W.nsIn K mainGlobals "zip" = some none)
    (z_range : PySem.W.nsIn K mainGlobals "range" = some none)
    (z_reversed : PySem.W.nsIn K mainGlobals "reversed" = some none) :
    ∃ fd : FuncData, (∀ (s : Shared) (v : Value), BindsTo s fd ⟨[v], []⟩ [("_law_script", v)]) ∧ ∀ base : Heap, K.In base → base.Ns mainGlobals mg → FnOk P w K mg base CX0 8 fa fd ["_law_script"] (spLaw K) := by
  have e := hfa.symm.trans (PySem.W.mg_of X G a34)
  cases e
  have F9 := fun_mk (st := topS 9) l9 c9 k9
  have b9 := F9.binds (ps := ["sign"]) fun _ _ _ _ _ _ us hl => match us, hl with | [_], _ => rfl
  have F10 := fun_mk (st := topS 10) l10 c10 k10
  have b10 := F10.binds (ps := ["sign"]) fun _ _ _ _ _ _ us hl => match us, hl with | [_], _ => rfl
  have F12 := fun_mk (st := topS 12) l12 c12 k12
  have b12 := F12.binds (ps := ["text", "at", "holes"]) fun _ _ _ _ _ _ us hl => match us, hl with | [_, _, _], _ => rfl
  have F13 := fun_mk (st := topS 13) l13 c13 k13
  have b13 := F13.binds (ps := ["text", "holes"]) fun _ _ _ _ _ _ us hl => match us, hl with | [_, _], _ => rfl
  have F14 := fun_mk (st := topS 14) l14 c14 k14
  have b14 := F14.binds (ps := ["text", "at", "above"]) fun _ _ _ _ _ _ us hl => match us, hl with | [_, _, _], _ => rfl
  have F15 := fun_mk (st := topS 15) l15 c15 k15
  have b15 := F15.binds (ps := ["text"]) fun _ _ _ _ _ _ us hl => match us, hl with | [_], _ => rfl
  have F16 := fun_mk (st := topS 16) l16 c16 k16
  have b16 := F16.binds (ps := ["text"]) fun _ _ _ _ _ _ us hl => match us, hl with | [_], _ => rfl
  have F18 := fun_mk (st := topS 18) l18 c18 k18
  have b18 := F18.binds (ps := ["tree"]) fun _ _ _ _ _ _ us hl => match us, hl with | [_], _ => rfl
  have F20 := fun_mk (st := topS 20) l20 c20 k20
  have b20 := F20.binds (ps := ["_law_script"]) fun _ _ _ _ _ _ us hl => match us, hl with | [_], _ => rfl
  have F21 := fun_mk (st := topS 21) l21 c21 k21
  have b21 := F21.binds (ps := ["_law_tape_here", "_law_many"]) fun _ _ _ _ _ _ us hl => match us, hl with | [_, _], _ => rfl
  have F22 := fun_mk (st := topS 22) l22 c22 k22
  have b22 := F22.binds (ps := ["_law_told", "_law_due"]) fun _ _ _ _ _ _ us hl => match us, hl with | [_, _], _ => rfl
  have F23 := fun_mk (st := topS 23) l23 c23 k23
  have b23 := F23.binds (ps := ["_law_tape_here"]) fun _ _ _ _ _ _ us hl => match us, hl with | [_], _ => rfl
  have F24 := fun_mk (st := topS 24) l24 c24 k24
  have b24 := F24.binds (ps := ["_law_tape_here", "_law_marks_here", "_law_most"]) fun _ _ _ _ _ _ us hl => match us, hl with | [_, _, _], _ => rfl
  have F25 := fun_mk (st := topS 25) l25 c25 k25
  have b25 := F25.binds (ps := ["_law_row", "_law_at"]) fun _ _ _ _ _ _ us hl => match us, hl with | [_, _], _ => rfl
  have F26 := fun_mk (st := topS 26) l26 c26 k26
  have b26 := F26.binds (ps := ["_law_row"]) fun _ _ _ _ _ _ us hl => match us, hl with | [_], _ => rfl
  have F27 := fun_mk (st := topS 27) l27 c27 k27
  have b27 := F27.binds (ps := ["_law_line", "_law_holes"]) fun _ _ _ _ _ _ us hl => match us, hl with | [_, _], _ => rfl
  have F28 := fun_mk (st := topS 28) l28 c28 k28
  have b28 := F28.binds (ps := ["_law_line", "_law_holes"]) fun _ _ _ _ _ _ us hl => match us, hl with | [_, _], _ => rfl
  have F29 := fun_mk (st := topS 29) l29 c29 k29
  have b29 := F29.binds (ps := ["_law_line"]) fun _ _ _ _ _ _ us hl => match us, hl with | [_], _ => rfl
  have F30 := fun_mk (st := topS 30) l30 c30 k30
  have b30 := F30.binds (ps := ["_law_tape_here", "_law_row"]) fun _ _ _ _ _ _ us hl => match us, hl with | [_, _], _ => rfl
  have F31 := fun_mk (st := topS 31) l31 c31 k31
  have b31 := F31.binds (ps := ["_law_tape_here", "_law_line"]) fun _ _ _ _ _ _ us hl => match us, hl with | [_, _], _ => rfl
  have F32 := fun_mk (st := topS 32) l32 c32 k32
  have b32 := F32.binds (ps := ["_law_tape_here"]) fun _ _ _ _ _ _ us hl => match us, hl with | [_], _ => rfl
  have F33 := fun_mk (st := topS 33) l33 c33 k33
  have b33 := F33.binds (ps := ["_law_tape_here", "_law_tall"]) fun _ _ _ _ _ _ us hl => match us, hl with | [_, _], _ => rfl
  have F34 := fun_mk (st := topS 34) l34 c34 k34
  have FI := fun_mk (st := inClass (topS 5) 0) lI cI kI
  have bI := FI.binds (ps := ["self", "line", "at"]) fun _ _ _ _ _ _ us hl => match us, hl with | [_, _, _], _ => rfl
  have oxI : OexC K CI := ⟨⟨_, _, _, _, _, _, _, _, _, _, _, _, _, _, _, xI, rvI⟩, saI, eCI, tCI, kCI⟩
  have FN := fun_mk (st := inClass (topS 4) 0) lN cN kN
  have bN := FN.binds (ps := ["self", "word", "at"]) fun _ _ _ _ _ _ us hl => match us, hl with | [_, _, _], _ => rfl
  have oxN : OexC K CN := ⟨⟨_, _, _, _, _, _, _, _, _, _, _, _, _, _, _, xN, rvN⟩, saN, eCN, tCN, kCN⟩
  have B : Blt mg := ⟨PySem.W.mg_none_of X G z_len, PySem.W.mg_none_of X G z_isinstance, PySem.W.mg_none_of X G z_abs, PySem.W.mg_none_of X G z_max, PySem.W.mg_none_of X G z_int, PySem.W.mg_none_of X G z_str, PySem.W.mg_none_of X G z_bool, PySem.W.mg_none_of X G z_tuple, PySem.W.mg_none_of X G z_list, PySem.W.mg_none_of X G z_zip, PySem.W.mg_none_of X G z_range, PySem.W.mg_none_of X G z_reversed⟩
  have C : AskC K mg CI CN CT CU :=
    { gI := PySem.W.mg_of X G gI, gN := PySem.W.mg_of X G gN, gT := PySem.W.mg_of X G gT, gU := PySem.W.mg_of X G gU,
      xI := ⟨gaI, ggI, eCI, hdI⟩, xN := ⟨gaN, ggN, eCN, hdN⟩,
      eI := ⟨gaI, ggI, eCI, hdI, hcI, hsp, htk, moI⟩, eN := ⟨gaN, ggN, eCN, hdN, hcN, hsp, htk, moN⟩,
      nIl := n1I, nIa := n2I, nNw := n1N, nNa := n2N,
      exII := PySem.W.exm_ref eCI hdI tCI sII, exNI := PySem.W.exm_ref eCI hdI tCI sNI, exNN := PySem.W.exm_ref eCN hdN tCN sNN,
      kI := kit_ref icT tCT sIT, kN := kit_ref icU tCU sNU }
  refine ⟨PySem.W.fnOf "law" "law" (defArgs (topS 34)) (defBody (topS 34)) (defScope (topS 34)) .none kV34 dc34 pm34 an34 cd34 ct34, fun s v => .of_eq rfl, fun base _ _ => ?_⟩
  have TI : XCls P w K mg base "InvalidText" "line" "at" CI := ⟨PySem.W.mg_of X G gI, oxI, fI, _, _, iiI, tiI, ok_init2 FI oxI n1I n2I, bI⟩
  have TN : XCls P w K mg base "NotUsable" "word" "at" CN := ⟨PySem.W.mg_of X G gN, oxN, fN, _, _, iiN, tiN, ok_init1 FN oxN n1N n2N, bN⟩
  have c_a_begins : Cal P w K mg base CX0 1 "a_begins" ["sign"] spBegins := ⟨f9, _, ok_begins F9 (PySem.W.mg_of X G gL), PySem.W.mg_of X G a9, k9, b9⟩
  have c_a_goes_on : Cal P w K mg base CX0 1 "a_goes_on" ["sign"] spGoes := ⟨f10, _, ok_goes F10 (PySem.W.mg_of X G gL) (PySem.W.mg_of X G gO), PySem.W.mg_of X G a10, k10, b10⟩
  have c__a_word_at : Cal P w K mg base (L2.CX P w) 3 "_a_word_at" ["text", "at", "holes"] (spWord CI) := ⟨f12, _, ok_word F12 B TI c_a_begins c_a_goes_on, PySem.W.mg_of X G a12, k12, b12⟩
  have c__a_close : Cal P w K mg base CX0 1 "_a_close" ["text", "at", "above"] spClose := ⟨f14, _, ok_close F14, PySem.W.mg_of X G a14, k14, b14⟩
  have c__a_read : Cal P w K mg base (L2.CX P w) 4 "_a_read" ["text", "holes"] (spRead K CI CN) := ⟨f13, _, ok_read F13 B TI TN c__a_word_at c__a_close, PySem.W.mg_of X G a13, k13, b13⟩
  have c_read_tree : Cal P w K mg base (L2.CX P w) 5 "read_tree" ["text"] (spRd K CI CN false) := ⟨f15, _, ok_read_tree F15 c__a_read, PySem.W.mg_of X G a15, k15, b15⟩
  have c_read_pattern : Cal P w K mg base (L2.CX P w) 5 "read_pattern" ["text"] (spRd K CI CN true) := ⟨f16, _, ok_read_pattern F16 c__a_read, PySem.W.mg_of X G a16, k16, b16⟩
  have c_shown : Cal P w K mg base CX0 1 "shown" ["tree"] spShown := ⟨f18, _, ok_shown F18 B, PySem.W.mg_of X G a18, k18, b18⟩
  have c__law_tape : Cal P w K mg base CX0 1 "_law_tape" ["_law_script"] (spTape K) := ⟨f20, _, ok_tape F20 B, PySem.W.mg_of X G a20, k20, b20⟩
  have c__law_pick : Cal P w K mg base CX0 1 "_law_pick" ["_law_tape_here", "_law_many"] spPick := ⟨f21, _, ok_pick F21 B, PySem.W.mg_of X G a21, k21, b21⟩
  have c__law_same : Cal P w K mg base CX0 1 "_law_same" ["_law_told", "_law_due"] spSame := ⟨f22, _, ok_same F22 B, PySem.W.mg_of X G a22, k22, b22⟩
  have c__law_marks : Cal P w K mg base CX0 2 "_law_marks" ["_law_tape_here"] spMarks := ⟨f23, _, ok_marks F23 B c__law_pick, PySem.W.mg_of X G a23, k23, b23⟩
  have c__law_tree : Cal P w K mg base CX0 2 "_law_tree" ["_law_tape_here", "_law_marks_here", "_law_most"] spTree := ⟨f24, _, ok_tree F24 B c__law_pick, PySem.W.mg_of X G a24, k24, b24⟩
  have c__law_far : Cal P w K mg base CX0 1 "_law_far" ["_law_row", "_law_at"] spFar := ⟨f25, _, ok_far F25, PySem.W.mg_of X G a25, k25, b25⟩
  have c__law_shown : Cal P w K mg base CX0 2 "_law_shown" ["_law_row"] spLShown := ⟨f26, _, ok_lshown F26 B c__law_far, PySem.W.mg_of X G a26, k26, b26⟩
  have c__law_read : Cal P w K mg base CX0 1 "_law_read" ["_law_line", "_law_holes"] spLRead := ⟨f27, _, ok_lread F27 B, PySem.W.mg_of X G a27, k27, b27⟩
  have c__law_asks : Cal P w K mg base CX0 6 "_law_asks" ["_law_line", "_law_holes"] (spAsks K) := ⟨f28, _, ok_asks F28 B C c_read_tree c_read_pattern, PySem.W.mg_of X G a28, k28, b28⟩
  have c__law_right : Cal P w K mg base CX0 7 "_law_right" ["_law_line"] spRight := ⟨f29, _, ok_right F29 B c__law_read c__law_asks c__law_same c_shown, PySem.W.mg_of X G a29, k29, b29⟩
  have c__law_masked : Cal P w K mg base CX0 2 "_law_masked" ["_law_tape_here", "_law_row"] spMasked := ⟨f30, _, ok_masked F30 B c__law_pick c__law_far, PySem.W.mg_of X G a30, k30, b30⟩
  have c__law_turned : Cal P w K mg base CX0 2 "_law_turned" ["_law_tape_here", "_law_line"] spTurned := ⟨f31, _, ok_turned F31 B c__law_pick, PySem.W.mg_of X G a31, k31, b31⟩
  have c__law_built : Cal P w K mg base CX0 2 "_law_built" ["_law_tape_here"] spBuilt := ⟨f32, _, ok_built F32 B c__law_pick, PySem.W.mg_of X G a32, k32, b32⟩
  have c__law_refusals : Cal P w K mg base CX0 7 "_law_refusals" ["_law_tape_here", "_law_tall"] spRefusals := ⟨f33, _, ok_refusals F33 B c__law_pick c__law_asks c__law_same, PySem.W.mg_of X G a33, k33, b33⟩
  have k_shown : KCal P w K mg base CX0 1 "shown" ["tree"] spShown := ⟨f18, _, ok_shown F18 B, PySem.W.mg_of X G a18, k18, kbn_mk fun v => rfl⟩
  have k_read_tree : KCal P w K mg base (L2.CX P w) 5 "read_tree" ["text"] (spRd K CI CN false) := ⟨f15, _, ok_read_tree F15 c__a_read, PySem.W.mg_of X G a15, k15, kbn_mk fun v => rfl⟩
  have k_read_pattern : KCal P w K mg base (L2.CX P w) 5 "read_pattern" ["text"] (spRd K CI CN true) := ⟨f16, _, ok_read_pattern F16 c__a_read, PySem.W.mg_of X G a16, k16, kbn_mk fun v => rfl⟩
  exact ok_law F34 B c__law_tape c__law_pick c__law_marks c__law_tree c__law_masked c__law_shown c__law_same c_shown k_shown c__law_turned c__law_built c__law_right c__law_refusals k_read_tree k_read_pattern
end Kx

open PySem PySem.W PyProof.Rows
set_option maxRecDepth 100000 in
set_option maxHeartbeats 0 in
theorem PySem.Challenge.cw_stoodthere_k16_whole_texts_of_trees_holds : PySem.Challenge.rw_stoodthere_k16_whole_texts_of_trees.Holds := by
  w_on; o_law; k_head; (case hw => w_witness2)
  k_fill
  refine L2.walk_of (l := PySem.Challenge.rw_stoodthere_k16_whole_texts_of_trees) (n := 63) (k := 8) (x := "_law_script") (CX := fun _ => L2.CX0) (sp := fun w => Kx.spLaw _) rfl (by decide) rfl ⟨rfl, by decide, by decide⟩ (fun w h Y => PySem.W.kIn_of Y) ?F (fun _ _ a ns hl _ hS => ⟨a, ns, rfl, hS, hl, fun _ => rfl⟩) (fun _ _ _ _ _ h => h)
  case F =>
    intro w mg fa h KX G hmg
    refine' Kx.all_mk KX G hmg ?a9 ?l9 ?c9 ?k9 ?a10 ?l10 ?c10 ?k10 ?a12 ?l12 ?c12 ?k12 ?a13 ?l13 ?c13 ?k13 ?a14 ?l14 ?c14 ?k14 ?a15 ?l15 ?c15 ?k15 ?a16 ?l16 ?c16 ?k16 ?a18 ?l18 ?c18 ?k18 ?a20 ?l20 ?c20 ?k20 ?a21 ?l21 ?c21 ?k21 ?a22 ?l22 ?c22 ?k22 ?a23 ?l23 ?c23 ?k23 ?a24 ?l24 ?c24 ?k24 ?a25 ?l25 ?c25 ?k25 ?a26 ?l26 ?c26 ?k26 ?a27 ?l27 ?c27 ?k27 ?a28 ?l28 ?c28 ?k28 ?a29 ?l29 ?c29 ?k29 ?a30 ?l30 ?c30 ?k30 ?a31 ?l31 ?c31 ?k31 ?a32 ?l32 ?c32 ?k32 ?a33 ?l33 ?c33 ?k33 ?a34 ?l34 ?c34 ?k34 ?gI ?xI ?rvI ?saI ?gaI ?ggI ?hcI ?n1I ?n2I ?moI ?eCI ?tCI ?kCI ?hdI ?iiI ?tiI ?lI ?cI ?kI ?gN ?xN ?rvN ?saN ?gaN ?ggN ?hcN ?n1N ?n2N ?moN ?eCN ?tCN ?kCN ?hdN ?iiN ?tiN ?lN ?cN ?kN ?gT ?gU ?icT ?tCT ?icU ?tCU ?hsp ?htk ?sII ?sNI ?sNN ?sIT ?sNU ?gL ?gO ?z_len ?z_isinstance ?z_abs ?z_max ?z_int ?z_str ?z_bool ?z_tuple ?z_list ?z_zip ?z_range ?z_reversed
    (case a9 => k_is); (case l9 => k_is); (case c9 => k_is); (case k9 => k_is)
    (case a10 => k_is); (case l10 => k_is); (case c10 => k_is); (case k10 => k_is)
    (case a12 => k_is); (case l12 => k_is); (case c12 => k_is); (case k12 => k_is)
    (case a13 => k_is); (case l13 => k_is); (case c13 => k_is); (case k13 => k_is)
    (case a14 => k_is); (case l14 => k_is); (case c14 => k_is); (case k14 => k_is)
    (case a15 => k_is); (case l15 => k_is); (case c15 => k_is); (case k15 => k_is)
    (case a16 => k_is); (case l16 => k_is); (case c16 => k_is); (case k16 => k_is)
    (case a18 => k_is); (case l18 => k_is); (case c18 => k_is); (case k18 => k_is)
    (case a20 => k_is); (case l20 => k_is); (case c20 => k_is); (case k20 => k_is)
    (case a21 => k_is); (case l21 => k_is); (case c21 => k_is); (case k21 => k_is)
    (case a22 => k_is); (case l22 => k_is); (case c22 => k_is); (case k22 => k_is)
    (case a23 => k_is); (case l23 => k_is); (case c23 => k_is); (case k23 => k_is)
    (case a24 => k_is); (case l24 => k_is); (case c24 => k_is); (case k24 => k_is)
    (case a25 => k_is); (case l25 => k_is); (case c25 => k_is); (case k25 => k_is)
    (case a26 => k_is); (case l26 => k_is); (case c26 => k_is); (case k26 => k_is)
    (case a27 => k_is); (case l27 => k_is); (case c27 => k_is); (case k27 => k_is)
    (case a28 => k_is); (case l28 => k_is); (case c28 => k_is); (case k28 => k_is)
    (case a29 => k_is); (case l29 => k_is); (case c29 => k_is); (case k29 => k_is)
    (case a30 => k_is); (case l30 => k_is); (case c30 => k_is); (case k30 => k_is)
    (case a31 => k_is); (case l31 => k_is); (case c31 => k_is); (case k31 => k_is)
    (case a32 => k_is); (case l32 => k_is); (case c32 => k_is); (case k32 => k_is)
    (case a33 => k_is); (case l33 => k_is); (case c33 => k_is); (case k33 => k_is)
    (case a34 => k_is); (case l34 => k_is); (case c34 => k_is); (case k34 => k_is)
    (case gI => k_is); (case xI => k_is); (case rvI => first | rfl | decide +kernel); (case saI => k_is)
    (case gaI => k_is); (case ggI => k_is); (case hcI => k_is); (case n1I => k_is)
    (case n2I => k_is); (case moI => k_is); (case eCI => k_is); (case tCI => k_is)
    (case kCI => k_is); (case hdI => k_is); (case iiI => k_is); (case tiI => k_is)
    (case lI => k_is); (case cI => k_is); (case kI => k_is); (case gN => k_is)
    (case xN => k_is); (case rvN => first | rfl | decide +kernel); (case saN => k_is); (case gaN => k_is)
    (case ggN => k_is); (case hcN => k_is); (case n1N => k_is); (case n2N => k_is)
    (case moN => k_is); (case eCN => k_is); (case tCN => k_is); (case kCN => k_is)
    (case hdN => k_is); (case iiN => k_is); (case tiN => k_is); (case lN => k_is)
    (case cN => k_is); (case kN => k_is); (case gT => k_is); (case gU => k_is)
    (case icT => k_is); (case tCT => k_is); (case icU => k_is); (case tCU => k_is)
    (case hsp => k_is); (case htk => k_is); (case sII => first | rfl | k_is); (case sNI => first | rfl | k_is)
    (case sNN => first | rfl | k_is); (case sIT => first | rfl | k_is); (case sNU => first | rfl | k_is); (case gL => k_is)
    (case gO => k_is); (case z_len => k_is); (case z_isinstance => k_is); (case z_abs => k_is)
    (case z_max => k_is); (case z_int => k_is); (case z_str => k_is); (case z_bool => k_is)
    (case z_tuple => k_is); (case z_list => k_is); (case z_zip => k_is); (case z_range => k_is)
    (case z_reversed => k_is)

