import PyProof.Rows.All
import Wide.All
import OpenK.AllK
import Wide.FinOn
import HandS.ForMost
import HandS.Walk
import HandS.StrMore
import HandS.Replace
import HandS.IsInst
import HandS.Style
import HandS.Steps
import HandS.Evl
import HandS.Wide
import HandS.Defaults
import HandS.IntHex
import KE.DataCmp
import KE.GoesZip
import KE.GoesMore
import KE.GoesEnum
import PySem.Challenge.RW_undotrees_k06_whole_numbers_in_order
set_option Elab.async false
set_option linter.all false
set_option maxRecDepth 100000
set_option maxHeartbeats 4000000

namespace RowM
/-- the twelve signs, in their order -/
def sgns : List Nat := [97, 65, 98, 66, 99, 67, 100, 68, 101, 69, 102, 70]
def con (c : Nat) : Nat := if 97 ≤ c then c - 32 else c + 32
def ix (c : Nat) : Nat := sgns.idxOf c
def lo (c : Nat) : Nat := if 97 ≤ c then c else c + 32
def up (c : Nat) : Nat := if 97 ≤ c then c - 32 else c
abbrev Row (l : List Nat) : Prop := ∀ c ∈ l, c ∈ sgns
theorem con_mem {c : Nat} (h : c ∈ sgns) : con c ∈ sgns := by
  have : ∀ c ∈ sgns, con c ∈ sgns := by decide
  exact this c h
theorem con_con {c : Nat} (h : c ∈ sgns) : con (con c) = c := by
  have : ∀ c ∈ sgns, con (con c) = c := by decide
  exact this c h
theorem con_ne {c : Nat} (h : c ∈ sgns) : con c ≠ c := by
  have : ∀ c ∈ sgns, con c ≠ c := by decide
  exact this c h
theorem con_inj {a b : Nat} (ha : a ∈ sgns) (hb : b ∈ sgns) (h : con a = con b) : a = b := by
  rw [← con_con ha, h, con_con hb]
/-! ### stacks: the plain row, its last sign first -/
def push (st : List Nat) (c : Nat) : List Nat := match st with
  | [] => [c]
  | d :: r => if d = con c then r else c :: d :: r
theorem push_cons (d c : Nat) (r : List Nat) : push (d :: r) c = if d = con c then r else c :: d :: r := rfl
def act (w st : List Nat) : List Nat := w.foldl push st
def plain (w : List Nat) : List Nat := (act w []).reverse
def turn (w : List Nat) : List Nat := (w.reverse).map con
/-- no sign next to its contrary -/
def Red : List Nat → Prop
  | [] => True
  | [_] => True
  | a :: b :: r => b ≠ con a ∧ Red (b :: r)
theorem Red.tail {a : Nat} {r : List Nat} (h : Red (a :: r)) : Red r := by
  cases r with
  | nil => trivial
  | cons b r => exact h.2
theorem Row.tail {a : Nat} {r : List Nat} (h : Row (a :: r)) : Row r := fun c hc => h c (List.mem_cons_of_mem _ hc)
theorem Row.head {a : Nat} {r : List Nat} (h : Row (a :: r)) : a ∈ sgns := h a List.mem_cons_self
theorem push_row {st : List Nat} {c : Nat} (h : Row st) (hc : c ∈ sgns) : Row (push st c) := by
  cases st with
  | nil => intro d hd; simp [push] at hd; rw [hd]; exact hc
  | cons d r =>
    rw [push_cons]
    by_cases q : d = con c
    · rw [if_pos q]
      exact Row.tail h
    · rw [if_neg q]
      intro e he
      rcases List.mem_cons.mp he with rfl | he
      · exact hc
      · exact h e he
theorem push_red {st : List Nat} {c : Nat} (h : Red st) : Red (push st c) := by
  cases st with
  | nil => simp [push, Red]
  | cons d r =>
    rw [push_cons]
    by_cases q : d = con c
    · rw [if_pos q]
      exact h.tail
    · rw [if_neg q]
      exact ⟨q, h⟩
theorem push_push {st : List Nat} {c : Nat} (h : Red st) (hc : c ∈ sgns) : push (push st c) (con c) = st := by
  cases st with
  | nil => simp [push, con_con hc]
  | cons d r =>
    by_cases e : d = con c
    · simp only [push, if_pos e]
      cases r with
      | nil => simp [e]
      | cons b r =>
        have hb : b ≠ c := by
          intro q
          have := h.1
          rw [e, con_con hc] at this
          exact this q
        simp only [con_con hc, if_neg hb, e]
    · simp only [push, if_neg e, con_con hc, if_pos]
theorem push_push' {st : List Nat} {c : Nat} (h : Red st) (hc : c ∈ sgns) : push (push st (con c)) c = st := by
  have := push_push (c := con c) h (con_mem hc)
  rw [con_con hc] at this
  exact this
theorem act_append (u v st : List Nat) : act (u ++ v) st = act v (act u st) := by simp [act, List.foldl_append]
theorem act_cons (a : Nat) (w st : List Nat) : act (a :: w) st = act w (push st a) := rfl
theorem act_row : ∀ (w st : List Nat), Row w → Row st → Row (act w st)
  | [], _, _, h => h
  | a :: w, st, hw, h => act_row w (push st a) (Row.tail hw) (push_row h (Row.head hw))
theorem act_red : ∀ (w st : List Nat), Red st → Red (act w st)
  | [], _, h => h
  | a :: w, st, h => act_red w (push st a) (push_red h)
theorem turn_cons (a : Nat) (w : List Nat) : turn (a :: w) = turn w ++ [con a] := by simp [turn]
theorem turn_append (u v : List Nat) : turn (u ++ v) = turn v ++ turn u := by simp [turn]
theorem turn_row {w : List Nat} (h : Row w) : Row (turn w) := by
  intro c hc
  simp only [turn, List.mem_map, List.mem_reverse] at hc
  obtain ⟨d, hd, rfl⟩ := hc
  exact con_mem (h d hd)
theorem turn_turn {w : List Nat} (h : Row w) : turn (turn w) = w := by
  unfold turn
  rw [← List.map_reverse, List.reverse_reverse, List.map_map]
  conv => rhs; rw [← List.map_id w]
  exact List.map_congr_left fun c hc => con_con (h c hc)
theorem turn_length (w : List Nat) : (turn w).length = w.length := by simp [turn]
theorem act_turn : ∀ {w st : List Nat}, Row w → Red st → act (turn w) (act w st) = st
  | [], _, _, _ => rfl
  | a :: w, st, hw, h => by
    rw [turn_cons, act_append]
    have e : act (a :: w) st = act w (push st a) := rfl
    rw [e, act_turn (Row.tail hw) (push_red h)]
    exact push_push h (Row.head hw)
theorem act_turn' {w st : List Nat} (hw : Row w) (h : Red st) : act w (act (turn w) st) = st := by
  have := act_turn (turn_row hw) h
  rw [turn_turn hw] at this
  exact this
/-- an unplain pair goes -/
theorem act_pair {c : Nat} {u v st : List Nat} (hc : c ∈ sgns) (h : Red st) : act (u ++ c :: con c :: v) st = act (u ++ v) st := by
  rw [act_append, act_append]
  show act v (push (push (act u st) c) (con c)) = _
  rw [push_push (act_red _ _ h) hc]
theorem act_pair' {c : Nat} {u v st : List Nat} (hc : c ∈ sgns) (h : Red st) : act (u ++ con c :: c :: v) st = act (u ++ v) st := by
  have := act_pair (c := con c) (u := u) (v := v) (con_mem hc) h
  rw [con_con hc] at this
  exact this
theorem Red.snoc_iff : ∀ {l : List Nat} {a b : Nat}, Red (l ++ [a, b]) ↔ Red (l ++ [a]) ∧ b ≠ con a
  | [], a, b => by simp [Red]
  | [x], a, b => by simp [Red, and_assoc]
  | x :: y :: l, a, b => by
    have := Red.snoc_iff (l := y :: l) (a := a) (b := b)
    simp only [List.cons_append] at this ⊢
    simp only [Red]
    constructor
    · rintro ⟨h1, h2⟩
      exact ⟨⟨h1, (this.mp h2).1⟩, (this.mp h2).2⟩
    · rintro ⟨⟨h1, h2⟩, h3⟩
      exact ⟨h1, this.mpr ⟨h2, h3⟩⟩
/-- a plain row as a stack: the same read backwards -/
theorem red_reverse : ∀ {l : List Nat}, Row l → (Red l ↔ Red l.reverse)
  | [], _ => by simp [Red]
  | [a], _ => by simp [Red]
  | a :: b :: r, h => by
    have ih := red_reverse (l := b :: r) (Row.tail h)
    rw [List.reverse_cons, List.reverse_cons, List.append_assoc]
    show Red (a :: b :: r) ↔ Red (r.reverse ++ [b, a])
    rw [Red.snoc_iff]
    rw [List.reverse_cons] at ih
    rw [← ih]
    show (b ≠ con a ∧ Red (b :: r)) ↔ _
    constructor
    · rintro ⟨h1, h2⟩
      refine ⟨h2, fun e => h1 ?_⟩
      rw [e, con_con (Row.head (Row.tail h))]
    · rintro ⟨h1, h2⟩
      refine ⟨fun e => h2 ?_, h1⟩
      rw [e, con_con (Row.head h)]
theorem red_drop : ∀ {l m : List Nat}, Red (l ++ m) → Red m
  | [], _, h => h
  | _ :: l, m, h => red_drop (l := l) (Red.tail h)
theorem act_of_red : ∀ {p st : List Nat}, Red (p.reverse ++ st) → act p st = p.reverse ++ st
  | [], _, _ => by simp [act]
  | a :: p, st, h => by
    have e : (a :: p).reverse ++ st = p.reverse ++ (a :: st) := by simp
    rw [e] at h ⊢
    show act p (push st a) = _
    have hp : push st a = a :: st := by
      cases st with
      | nil => rfl
      | cons d r =>
        have hr : Red (a :: d :: r) := red_drop h
        rw [push_cons, if_neg hr.1]
    rw [hp]
    exact act_of_red h
theorem plain_row {w : List Nat} (h : Row w) : Row (plain w) := fun c hc => act_row _ _ h (fun _ q => (by cases q)) c (List.mem_reverse.mp hc)
theorem plain_red {w : List Nat} (h : Row w) : Red (plain w) := by
  unfold plain
  exact (red_reverse (act_row _ _ h fun _ q => (by cases q))).mp (act_red w _ (by trivial))
theorem plain_of_red {w : List Nat} (h : Row w) (r : Red w) : plain w = w := by
  unfold plain
  rw [act_of_red (by rw [List.append_nil]; exact (red_reverse h).mp r), List.append_nil, List.reverse_reverse]
theorem plain_plain {w : List Nat} (h : Row w) : plain (plain w) = plain w := plain_of_red (plain_row h) (plain_red h)
theorem plain_pair {c : Nat} {u v : List Nat} (hc : c ∈ sgns) : plain (u ++ c :: con c :: v) = plain (u ++ v) := by
  unfold plain
  rw [act_pair hc (by trivial)]
theorem push_plain {w : List Nat} {c : Nat} : act (w ++ [c]) [] = push (act w []) c := by rw [act_append]; rfl
/-- a row and it made plain act alike on plain stacks -/
theorem act_plain_aux : ∀ {w : List Nat}, Row w → ∀ {st : List Nat}, Red st → Row st → act (plain w) st = act w st := by
  intro w
  generalize hn : w.length = n
  induction n generalizing w with
  | zero =>
    intro h st _ _
    have : w = [] := List.eq_nil_of_length_eq_zero hn
    subst this
    rfl
  | succ n ih =>
    intro h st hr hs
    obtain ⟨u, c, rfl⟩ : ∃ u c, w = u ++ [c] := ⟨w.dropLast, w.getLast (by intro e; simp [e] at hn), (List.dropLast_concat_getLast _).symm⟩
    have hu : Row u := fun d hd => h d (List.mem_append_left _ hd)
    have hc : c ∈ sgns := h c (by simp)
    have hl : u.length = n := by simp at hn; exact hn
    have e := ih hl hu hr hs
    rw [act_append]
    show act (plain (u ++ [c])) st = push (act u st) c
    rw [← e]
    unfold plain
    rw [push_plain]
    cases hst : act u [] with
    | nil => simp [push, act]
    | cons d r =>
      by_cases q : d = con c
      · simp only [push, if_pos q]
        have e2 : (d :: r).reverse = r.reverse ++ [d] := by simp
        rw [e2, act_append]
        show _ = push (push (act r.reverse st) d) c
        rw [q, push_push' (act_red _ _ hr) hc]
      · simp only [push, if_neg q]
        have e2 : (c :: d :: r).reverse = (d :: r).reverse ++ [c] := by simp
        rw [e2, act_append]
        rfl
theorem act_plain {w st : List Nat} (h : Row w) (hr : Red st) (hs : Row st) : act (plain w) st = act w st := act_plain_aux h hr hs
theorem nil_row : Row [] := fun _ q => (by cases q)
theorem plain_turn {w : List Nat} (h : Row w) : plain (turn w) = turn (plain w) := by
  have hp := plain_row h
  have rp : Red (turn (plain w)) := by
    unfold turn
    have : ∀ l : List Nat, Row l → Red l → Red (l.map con) := by
      intro l
      induction l with
      | nil => intros; trivial
      | cons a l ih =>
        cases l with
        | nil => intros; trivial
        | cons b l =>
          intro hl hr
          refine ⟨fun e => hr.1 ?_, ih (Row.tail hl) hr.2⟩
          have := con_inj (Row.head (Row.tail hl)) (con_mem (Row.head hl)) e
          exact this
    exact this _ (fun c hc => hp c (List.mem_reverse.mp hc)) ((red_reverse hp).mp (plain_red h))
  have e : act (turn w) [] = act (turn (plain w)) [] := by
    have h1 : act w (act (turn w) []) = [] := act_turn' h (by trivial)
    have r1 : Red (act (turn w) []) := act_red _ _ (by trivial)
    have w1 : Row (act (turn w) []) := act_row _ _ (turn_row h) nil_row
    rw [← act_plain h r1 w1] at h1
    have h2 := act_turn (w := plain w) (st := act (turn w) []) hp r1
    rw [h1] at h2
    exact h2.symm
  have e2 : plain (turn w) = plain (turn (plain w)) := by unfold plain at *; rw [e]
  rw [e2, plain_of_red (turn_row hp) rp]
theorem plain_there_back {u : List Nat} (h : Row u) : plain (u ++ turn u) = [] := by
  unfold plain
  rw [act_append, act_turn h (by trivial)]
  rfl
theorem push_length (st : List Nat) (c : Nat) : (push st c).length ≤ st.length + 1 := by
  cases st with
  | nil => simp [push]
  | cons d r =>
    rw [push_cons]
    by_cases q : d = con c
    · rw [if_pos q]; simp; omega
    · rw [if_neg q]; simp
theorem act_length : ∀ (w st : List Nat), (act w st).length ≤ st.length + w.length
  | [], st => by simp [act]
  | a :: w, st => by
    have := act_length w (push st a)
    have h2 := push_length st a
    show (act w (push st a)).length ≤ _
    simp only [List.length_cons]
    omega
theorem plain_length (w : List Nat) : (plain w).length ≤ w.length := by
  unfold plain
  rw [List.length_reverse]
  simpa using act_length w []
/-! ### the order of rows -/
def lexI : List Nat → List Nat → Bool
  | a :: l, b :: m => if a = b then lexI l m else decide (a < b)
  | _, _ => false
def aheadL : List Nat → List Nat → Bool
  | a :: l, b :: m => if a = b then aheadL l m else if lo a ≠ lo b then decide (lo a < lo b) else decide (97 ≤ a)
  | _, _ => false
def before (l m : List Nat) : Bool := if l.length = m.length then lexI (l.map ix) (m.map ix) else decide (l.length < m.length)
theorem ix_inj {a b : Nat} (ha : a ∈ sgns) (hb : b ∈ sgns) : ix a = ix b ↔ a = b := by
  have : ∀ a ∈ sgns, ∀ b ∈ sgns, (ix a = ix b ↔ a = b) := by decide
  exact this a ha b hb
theorem ix_lt {a b : Nat} (ha : a ∈ sgns) (hb : b ∈ sgns) (h : a ≠ b) : decide (ix a < ix b) = (if lo a ≠ lo b then decide (lo a < lo b) else decide (97 ≤ a)) := by
  have : ∀ a ∈ sgns, ∀ b ∈ sgns, a ≠ b → decide (ix a < ix b) = (if lo a ≠ lo b then decide (lo a < lo b) else decide (97 ≤ a)) := by decide
  exact this a ha b hb h
theorem ahead_lex : ∀ {l m : List Nat}, Row l → Row m → aheadL l m = lexI (l.map ix) (m.map ix)
  | [], _, _, _ => by simp [aheadL, lexI]
  | a :: l, [], _, _ => by simp [aheadL, lexI]
  | a :: l, b :: m, hl, hm => by
    have ih := ahead_lex (Row.tail hl) (Row.tail hm)
    simp only [aheadL, List.map_cons, lexI, ix_inj (Row.head hl) (Row.head hm)]
    by_cases e : a = b
    · rw [if_pos e, if_pos e, ih]
    · rw [if_neg e, if_neg e, ix_lt (Row.head hl) (Row.head hm) e]
theorem lexI_trans : ∀ {l m n : List Nat}, l.length = m.length → m.length = n.length → lexI l m = true → lexI m n = true → lexI l n = true
  | [], _, _, _, _, h, _ => by simp [lexI] at h
  | a :: l, [], _, h, _, _, _ => by simp at h
  | a :: l, b :: m, [], _, h, _, _ => by simp at h
  | a :: l, b :: m, c :: n, h1, h2, h3, h4 => by
    simp only [lexI] at h3 h4 ⊢
    have e1 : l.length = m.length := by simpa using h1
    have e2 : m.length = n.length := by simpa using h2
    by_cases p : a = b
    · subst p
      rw [if_pos rfl] at h3
      by_cases q : a = c
      · subst q
        rw [if_pos rfl] at h4 ⊢
        exact lexI_trans e1 e2 h3 h4
      · rw [if_neg q] at h4 ⊢
        exact h4
    · rw [if_neg p] at h3
      have h3' := of_decide_eq_true h3
      by_cases q : b = c
      · subst q
        rw [if_neg p]
        exact h3
      · rw [if_neg q] at h4
        have h4' := of_decide_eq_true h4
        have : a ≠ c := by omega
        rw [if_neg this]
        exact decide_eq_true (by omega)
theorem before_trans {l m n : List Nat} (h1 : before l m = true) (h2 : before m n = true) : before l n = true := by
  unfold before at *
  by_cases e1 : l.length = m.length
  · rw [if_pos e1] at h1
    by_cases e2 : m.length = n.length
    · rw [if_pos e2] at h2
      rw [if_pos (e1.trans e2)]
      exact lexI_trans (by simpa using e1) (by simpa using e2) h1 h2
    · rw [if_neg e2] at h2
      have := of_decide_eq_true h2
      rw [if_neg (by omega)]
      exact decide_eq_true (by omega)
  · rw [if_neg e1] at h1
    have h1' := of_decide_eq_true h1
    by_cases e2 : m.length = n.length
    · rw [if_neg (by omega)]
      exact decide_eq_true (by omega)
    · rw [if_neg e2] at h2
      have := of_decide_eq_true h2
      rw [if_neg (by omega)]
      exact decide_eq_true (by omega)
end RowM

namespace NumM
open RowM
/-! ### rows by numbers -/
def val (B : Nat) (l : List Nat) : Nat := l.foldl (fun a c => a * B + ix c) 0
def ones (B : Nat) : Nat → Nat
  | 0 => 0
  | n + 1 => ones B n * B + 1
def numR (B : Nat) (l : List Nat) : Nat := ones B l.length + val B l
abbrev Low (B : Nat) (l : List Nat) : Prop := ∀ c ∈ l, ix c < B
theorem Low.head {B a : Nat} {l : List Nat} (h : Low B (a :: l)) : ix a < B := h a List.mem_cons_self
theorem Low.tail {B a : Nat} {l : List Nat} (h : Low B (a :: l)) : Low B l := fun c hc => h c (List.mem_cons_of_mem _ hc)
theorem fold_from (B : Nat) : ∀ (l : List Nat) (a : Nat), l.foldl (fun a c => a * B + ix c) a = a * B ^ l.length + val B l
  | [], a => by simp [val]
  | c :: l, a => by
    have h1 := fold_from B l (a * B + ix c)
    have h2 := fold_from B l (0 * B + ix c)
    have e : val B (c :: l) = l.foldl (fun a c => a * B + ix c) (0 * B + ix c) := rfl
    rw [List.foldl_cons, h1, e, h2, List.length_cons, Nat.pow_succ]
    rw [Nat.zero_mul, Nat.zero_add, Nat.add_mul, Nat.mul_assoc, Nat.mul_comm B, Nat.add_assoc]
theorem val_cons (B c : Nat) (l : List Nat) : val B (c :: l) = ix c * B ^ l.length + val B l := by
  have h := fold_from B l (0 * B + ix c)
  have e : val B (c :: l) = l.foldl (fun a c => a * B + ix c) (0 * B + ix c) := rfl
  rw [e, h, Nat.zero_mul, Nat.zero_add]
theorem val_snoc (B c : Nat) (l : List Nat) : val B (l ++ [c]) = val B l * B + ix c := by
  unfold val
  rw [List.foldl_append]
  rfl
theorem val_lt {B : Nat} : ∀ {l : List Nat}, Low B l → val B l < B ^ l.length
  | [], _ => by simp [val]
  | c :: l, h => by
    have ih := val_lt h.tail
    have hc := h.head
    rw [val_cons, List.length_cons, Nat.pow_succ]
    have : (ix c + 1) * B ^ l.length ≤ B * B ^ l.length := Nat.mul_le_mul_right _ hc
    rw [Nat.add_mul, Nat.one_mul] at this
    rw [Nat.mul_comm (B ^ l.length) B]
    omega
theorem ones_pow (B : Nat) : ∀ n, ones B (n + 1) = ones B n + B ^ n
  | 0 => by simp [ones]
  | n + 1 => by
    have ih := ones_pow B n
    show ones B (n + 1) * B + 1 = ones B (n + 1) + B ^ (n + 1)
    have e : ones B (n + 1) = ones B n * B + 1 := rfl
    rw [ih, Nat.add_mul, Nat.pow_succ]
    omega
theorem ones_mono (B : Nat) : ∀ {m n : Nat}, m ≤ n → ones B m ≤ ones B n
  | m, 0, h => by
    have : m = 0 := by omega
    subst this
    exact Nat.le_refl _
  | m, n + 1, h => by
    by_cases e : m = n + 1
    · rw [e]; exact Nat.le_refl _
    · have := ones_mono B (m := m) (n := n) (by omega)
      rw [ones_pow]
      omega
theorem num_lt_ones {B : Nat} {l : List Nat} (h : Low B l) : numR B l < ones B (l.length + 1) := by
  rw [ones_pow]
  unfold numR
  have := val_lt h
  omega
theorem lex_val {B : Nat} : ∀ {l m : List Nat}, Low B l → Low B m → l.length = m.length → lexI (l.map ix) (m.map ix) = decide (val B l < val B m)
  | [], [], _, _, _ => by simp [lexI, val]
  | [], _ :: _, _, _, h => by simp at h
  | _ :: _, [], _, _, h => by simp at h
  | a :: l, b :: m, hl, hm, h => by
    have e : l.length = m.length := by simpa using h
    have ih := lex_val hl.tail hm.tail e
    have v1 := val_lt hl.tail
    have v2 := val_lt hm.tail
    rw [e] at v1
    simp only [List.map_cons, lexI, val_cons, e]
    by_cases q : ix a = ix b
    · rw [if_pos q, ih, q]
      exact decide_eq_decide.mpr (by omega)
    · rw [if_neg q]
      apply decide_eq_decide.mpr
      have p0 : ∀ x y : Nat, x < y → x * B ^ m.length + B ^ m.length ≤ y * B ^ m.length := fun x y hxy => by
        have := Nat.mul_le_mul_right (B ^ m.length) hxy
        rw [Nat.succ_mul] at this
        exact this
      constructor
      · intro hab
        have := p0 _ _ hab
        omega
      · intro hv
        by_cases hab : ix a < ix b
        · exact hab
        · have := p0 (ix b) (ix a) (by omega)
          omega
theorem before_num {B : Nat} {l m : List Nat} (hl : Low B l) (hm : Low B m) : before l m = decide (numR B l < numR B m) := by
  unfold before
  by_cases e : l.length = m.length
  · rw [if_pos e, lex_val hl hm e]
    unfold numR
    rw [e]
    exact decide_eq_decide.mpr (by omega)
  · rw [if_neg e]
    apply decide_eq_decide.mpr
    constructor
    · intro h
      have h1 := num_lt_ones hl
      have h2 := ones_mono B (show l.length + 1 ≤ m.length by omega)
      unfold numR at *
      omega
    · intro h
      by_cases q : l.length < m.length
      · exact q
      · have h1 := num_lt_ones hm
        have h2 := ones_mono B (show m.length + 1 ≤ l.length by omega)
        unfold numR at *
        omega
theorem val_inj {B : Nat} : ∀ {l m : List Nat}, Row l → Row m → Low B l → Low B m → l.length = m.length → val B l = val B m → l = m
  | [], [], _, _, _, _, _, _ => rfl
  | [], _ :: _, _, _, _, _, h, _ => by simp at h
  | _ :: _, [], _, _, _, _, h, _ => by simp at h
  | a :: l, b :: m, rl, rm, hl, hm, h, hv => by
    have e : l.length = m.length := by simpa using h
    have v1 := val_lt hl.tail
    have v2 := val_lt hm.tail
    rw [e] at v1
    rw [val_cons, val_cons, e] at hv
    have q : ix a = ix b := by
      have p0 : ∀ x y : Nat, x < y → x * B ^ m.length + B ^ m.length ≤ y * B ^ m.length := fun x y hxy => by
        have := Nat.mul_le_mul_right (B ^ m.length) hxy
        rw [Nat.succ_mul] at this
        exact this
      by_cases h1 : ix a < ix b
      · have := p0 _ _ h1; omega
      · by_cases h2 : ix b < ix a
        · have := p0 _ _ h2; omega
        · omega
    rw [q] at hv
    have := val_inj (Row.tail rl) (Row.tail rm) hl.tail hm.tail e (by omega)
    rw [this, (ix_inj (Row.head rl) (Row.head rm)).mp q]
theorem num_inj {B : Nat} {l m : List Nat} (rl : Row l) (rm : Row m) (hl : Low B l) (hm : Low B m) (h : numR B l = numR B m) : l = m := by
  have e : l.length = m.length := by
    have h1 := num_lt_ones hl
    have h2 := num_lt_ones hm
    by_cases a : l.length < m.length
    · have := ones_mono B (show l.length + 1 ≤ m.length by omega)
      unfold numR at *; omega
    · by_cases b : m.length < l.length
      · have := ones_mono B (show m.length + 1 ≤ l.length by omega)
        unfold numR at *; omega
      · omega
  refine val_inj rl rm hl hm e ?_
  unfold numR at h
  rw [e] at h
  omega
theorem num_nil (B : Nat) : numR B [] = 0 := by simp [numR, ones, val]
end NumM
namespace NumM
theorem ones_ge {B : Nat} (h : 2 ≤ B) : ∀ n, ones 2 n ≤ ones B n
  | 0 => Nat.le_refl _
  | n + 1 => by
    have ih := ones_ge h n
    show ones 2 n * 2 + 1 ≤ ones B n * B + 1
    have := Nat.mul_le_mul ih h
    omega
theorem ones_61 {B : Nat} (h : 2 ≤ B) : 2305843009213693951 ≤ ones B 61 := by
  have := ones_ge h 61
  have e : ones 2 61 = 2305843009213693951 := by decide
  omega
end NumM

namespace L2
open PySem PySem.Spec PyProof.Rows
/-! ### rules beside the layer's own -/
section
variable {X : Cx}
/-- a constant of the module -/
theorem pe_globC {x : Str} {v : V} {pos : Pos} (h : ∃ u, X.mg x = some u ∧ RelV v u) (hg : Gl X x := by rfl) (hd : (x == ("__debug__" : Str)) = false := by decide) : PE X (.Name x pos) (tC v) := by
  obtain ⟨u, hm, r⟩ := h
  exact pe_glob hg hm r hd
/-- data that are alike: < -/
def rLtD (K : PySem.W.Frag) : R2 := fun x y H Q => ∃ d e, Dp K H x d ∧ Dp K H y e ∧ PySem.W.alike d e = true ∧ d ≠ .none ∧ min d.depth e.depth ≤ 60 ∧ Q (.bl (PySem.W.dataLt d e)) H
theorem op_ltD (hu : X.A.units + 64 < cLine) : OpR X (compareOp .Lt) (rLtD X.K) := by
  intro pins s σ H x y v u Q I rx ry h
  obtain ⟨d, e, hd, he, al, hn, hz, q⟩ := h
  obtain ⟨as, r1⟩ := Dp.reads I d x v hd rx
  obtain ⟨bs, r2⟩ := Dp.reads I e y u he ry
  exact PySem.W.lt_data r1 r2 al hn (by omega) ⟨.bl _, H, I, rfl, q⟩
/-- text[::-1] -/
def tRevS (te : TE) : TE := fun σ H Q => te σ H fun x H1 => ∃ z : Str, x = .str z ∧ z.length ≤ sizeLine ∧ Q (.str ⟨z.cps.toList.reverse.toArray⟩) H1
theorem pick_rev (z : Str) : ((Builtin.Str.strSliceIndices none none (-1) z.length).filterMap (z.cps[·]?)).toArray = z.cps.toList.reverse.toArray := by
  rw [PyProof.Rows.picked_rev]
  congr 1
  rw [PyProof.Rows.filterMap_get _ _ (fun i hi => by
    simp only [List.mem_map, List.mem_range] at hi
    obtain ⟨k, hk, rfl⟩ := hi
    have : z.length = z.cps.size := rfl
    omega)]
  apply List.ext_getElem
  · simp [Str.length]
  · intro i h1 h2
    simp only [List.length_map, List.length_range, Str.length] at h1
    simp only [List.map_map, List.getElem_map, List.getElem_range, List.getElem_reverse, Function.comp, Str.length, Array.length_toList]
    rw [Array.getD_eq_getD_getElem?]
    rw [Array.getElem?_eq_getElem (by omega)]
    simp
theorem pe_revS {e : Expr} {te : TE} {k : Nat} {p1 p2 p3 pos : Pos} (he : PE X e te) : PE X (.Subscript e (.Slice none none (some (.UnaryOp .USub (.Constant (.int 1) k p1) p2)) p3) pos) (tRevS te) := by
  refine ⟨fun pins s σ H Q I h => ?_⟩
  refine Subscript_ (thn (he.run pins s σ H _ I h) fun v s1 ⟨x, H1, I1, r1, q1⟩ => ?_)
  obtain ⟨z, ex, hz, q⟩ := q1
  subst ex
  obtain ⟨t, rfl⟩ := r1
  have hst : PO X (some (.UnaryOp .USub (.Constant (.int 1) k p1) p2)) (tPart (tUn (rU fun i => .int (-i)) (tC (.int 1)))) := po_some (pe_un un_neg pe_int)
  refine wpAny_Slice (thn (po_none.run pins s1 σ H1 (fun o H2 => o = none ∧ H2 = H1) I1 ⟨rfl, rfl⟩) fun vl s2 ⟨l, H2, I2, pl, el, e2⟩ => ?_)
  subst el e2
  refine thn (po_none.run pins s2 σ H2 (fun o H3 => o = none ∧ H3 = H2) I2 ⟨rfl, rfl⟩) fun vu s3 ⟨u, H3, I3, pu, eu, e3⟩ => ?_
  subst eu e3
  refine thn (hst.run pins s3 σ H3 (fun o H4 => o = some (-1) ∧ H4 = H3) I3 ⟨1, rfl, -1, rfl, rfl, rfl⟩) fun vs s4 ⟨o, H4, I4, ps, eo, e4⟩ => ?_
  subst eo e4
  obtain ⟨l1, rfl, hl1⟩ := IsPart.raw pl
  obtain ⟨u1, rfl, hu1⟩ := IsPart.raw pu
  obtain ⟨w1, rfl, hw1⟩ := IsPart.raw ps
  have I5 : Inv X pins σ H4 { s4 with heap := s4.heap.push { cls := .type "slice", data := .fields #[partValue l1, partValue u1, partValue w1] } } := I4.kept (t' := s4.toks) fun b ob q => Heap.get?_push_of_some _ q
  show wpAny (model X.prog X.w) X.A (subscriptTail e (.Slice none none (some (.UnaryOp .USub (.Constant (.int 1) k p1) p2)) p3) (.str z t) (.ref s4.heap.objs.size)) (EP X pins σ Q) X.xe { s4 with heap := s4.heap.push { cls := .type "slice", data := .fields #[partValue l1, partValue u1, partValue w1] } }
  refine tail_any (ops := [.str z t, .ref s4.heap.objs.size]) (typeIs_str _ _ _) F.slot_str_getitem.lookup ?_ (by with_unfolding_all rfl)
  refine wpAny_getItem_str_slice (l := l1) (u := u1) (st := w1) ⟨_, Heap.get?_push_size _ rfl, rfl, rfl⟩ (by rw [hw1]; rfl) ?_
  have hl : (⟨z.cps.toList.reverse.toArray⟩ : Str).length ≤ sizeLine := by
    show z.cps.toList.reverse.toArray.size ≤ sizeLine
    simpa [Str.length] using hz
  show Made.post (if ((w1.map (·.1)).getD 1 == 1 && (Builtin.Str.strSliceIndices (l1.map (·.1)) (u1.map (·.1)) ((w1.map (·.1)).getD 1) z.length).length == z.length) = true then Made.val (.str z t)
    else Made.str ⟨((Builtin.Str.strSliceIndices (l1.map (·.1)) (u1.map (·.1)) ((w1.map (·.1)).getD 1) z.length).filterMap (z.cps[·]?)).toArray⟩) (EP X pins σ Q) _
  rw [hl1, hu1, hw1]
  show Made.post (if ((-1 : Int) == 1 && (Builtin.Str.strSliceIndices none none (-1) z.length).length == z.length) = true then Made.val (.str z t)
    else Made.str ⟨((Builtin.Str.strSliceIndices none none (-1) z.length).filterMap (z.cps[·]?)).toArray⟩) (EP X pins σ Q) _
  rw [if_neg (by simp), pick_rev]
  exact ⟨hl, .str _, H4, I5.tok _, ⟨_, rfl⟩, q⟩
end
end L2

namespace L2
open PySem PySem.Spec PyProof.Rows
/-! ### zip of two texts -/
def Itzs (x y : Str) : It :=
  ⟨fun i _ => i < x.cps.size ∧ i < y.cps.size,
    fun i H v H' => ∃ T c d, v = .ref T ∧ H T = none ∧ H' = upd H T (.tup [.str ⟨#[c]⟩, .str ⟨#[d]⟩]) ∧ x.cps[i]? = some c ∧ y.cps[i]? = some d,
    fun i _ => (i ≤ x.cps.size ∧ i ≤ y.cps.size) ∧ (i = x.cps.size ∨ i = y.cps.size)⟩
theorem turn_zipS {P : Program} {w : World} {K : PySem.W.Frag} {elts : List Expr} {kk : Nat} {tpos : Pos} {z TI TO i1 i2 : Addr} (S : ZipSep2 z TI TO i1 i2 [i1] [i2]) (x y : Str) (t u : Tok) :
    Turn P w K (.Tuple elts kk tpos) (Itzs x y) [z, TI, TO, i1, i2] z
      (fun i h => IsZip h z TI TO .none ∧ IsTupOf2 h TI (.ref i1) (.ref i2) ∧ (∃ a b, IsTupOf2 h TO a b) ∧ h.IsStrIter i1 (strIterType x) x t i ∧ h.IsStrIter i2 (strIterType y) y u i) where
  mem := by simp
  obj := fun i h st c hc => by
    obtain ⟨hz, hTI, ⟨a, b, hTO⟩, ⟨o1, e1, _, d1⟩, ⟨o2, e2, _, d2⟩⟩ := st
    have e' : c = z ∨ c = TI ∨ c = TO ∨ c = i1 ∨ c = i2 := by simpa using hc
    rcases e' with q | q | q | q | q
    · rw [q]; exact ⟨_, hz, fun v q => nomatch q⟩
    · rw [q]; exact ⟨_, hTI, fun v q => nomatch q⟩
    · rw [q]; exact ⟨_, hTO, fun v q => nomatch q⟩
    · rw [q]; exact ⟨o1, e1, fun v q => by rw [d1] at q; cases q⟩
    · rw [q]; exact ⟨o2, e2, fun v q => by rw [d2] at q; cases q⟩
  keep := fun i h h' st k => by
    obtain ⟨hz, hTI, ⟨a, b, hTO⟩, ⟨o1, e1, r1⟩, ⟨o2, e2, r2⟩⟩ := st
    exact ⟨k z (by simp) _ hz, k TI (by simp) _ hTI, ⟨a, b, k TO (by simp) _ hTO⟩, ⟨o1, k i1 (by simp) _ e1, r1⟩, ⟨o2, k i2 (by simp) _ e2, r2⟩⟩
  item := by
    intro X hP hw hK hc i pins s σ H E I hf st hg
    subst hP hw hK
    obtain ⟨hz, hTI, ⟨a0, b0, hTO⟩, h1, h2⟩ := st
    obtain ⟨g1, g2⟩ := hg
    have hh : X.A.in1.handled = none := I.ok.hd hc
    have hzl : z < s.heap.objs.size := Heap.lt_size hz
    refine wpAny_pyNext_zipD2_item S (Draws.text hh i1 x t) (Draws.text hh i2 y u) hz hTI hTO h1 h2 g1 g2 fun x1 x2 h' tk p1 p2 h1' TO' s1 s2 hT hsz hk => ?_
    obtain ⟨c, tc, hc1, rfl⟩ := p1
    obtain ⟨d, td, hd1, rfl⟩ := p2
    refine ⟨_, rfl, wpAny_letOwnedTupleGo_zip (s := { s with heap := h', toks := tk }) h1' fun h'' z'' sb => ?_⟩
    have hT2 : h''.get? s.heap.objs.size = some { cls := .type "tuple", data := .seq #[Value.str ⟨#[c]⟩ tc, Value.str ⟨#[d]⟩ td] } := (sb.2 _ (Nat.ne_of_gt hzl)).trans hT
    have new : ObjOk X.prog X.w (upd H s.heap.objs.size (.tup [.str ⟨#[c]⟩, .str ⟨#[d]⟩])) h'' s.heap.objs.size (.tup [.str ⟨#[c]⟩, .str ⟨#[d]⟩]) :=
      ⟨by show 2 ≤ sizeLine; decide, [Value.str ⟨#[c]⟩ tc, Value.str ⟨#[d]⟩ td], .cons ⟨tc, rfl⟩ (.cons ⟨td, rfl⟩ .nil), ⟨_, hT2, rfl, _, rfl⟩⟩
    have I1 : Inv X pins σ (upd H s.heap.objs.size (.tup [.str ⟨#[c]⟩, .str ⟨#[d]⟩])) { s with heap := h'', toks := tk } :=
      I.turnedNew (t' := tk) (ch := [z, TI, TO, i1, i2]) (fun c o hb q => (sb.2 c (fun q' => hb (by simp [q']))).trans (hk c o (fun q' => hb (by simp [q'])) (fun q' => hb (by simp [q'])) (fun q' => hb (by simp [q'])) (fun q' => hb (by simp [q'])) q)) hf (Nat.le_refl _) new
    have st1 : h''.IsStrIter i1 (strIterType x) x t (i + 1) := by
      obtain ⟨o, e, r⟩ := s1
      exact ⟨o, (sb.2 _ (fun q => S.zf1 (by rw [← q]; simp))).trans e, r⟩
    have st2 : h''.IsStrIter i2 (strIterType y) y u (i + 1) := by
      obtain ⟨o, e, r⟩ := s2
      exact ⟨o, (sb.2 _ (fun q => S.zf2 (by rw [← q]; simp))).trans e, r⟩
    refine ⟨.ref s.heap.objs.size, _, I1, rfl, ⟨_, c, d, rfl, I.hok.fresh (Nat.le_refl _), rfl, hc1, hd1⟩, ⟨z'', ?_, ⟨.str ⟨#[c]⟩ tc, .str ⟨#[d]⟩ td, ?_⟩, st1, st2⟩, fun b hbm => ?_⟩
    · exact (sb.2 _ S.TIz).trans (hk _ _ S.TIz S.TITO S.TIi1 S.TIi2 hTI)
    · exact (sb.2 _ S.TOz).trans TO'
    · have hlt : b < s.heap.objs.size := by
        have e' : b = z ∨ b = TI ∨ b = TO ∨ b = i1 ∨ b = i2 := by simpa using hbm
        rcases e' with q | q | q | q | q
        · rw [q]; exact hzl
        · rw [q]; exact Heap.lt_size hTI
        · rw [q]; exact Heap.lt_size hTO
        · rw [q]; obtain ⟨_, e1, _⟩ := h1; exact Heap.lt_size e1
        · rw [q]; obtain ⟨_, e2, _⟩ := h2; exact Heap.lt_size e2
      rw [upd_ne (Nat.ne_of_lt hlt)]
      exact (hf b hbm).1
  done := by
    intro X hP hw hK hc i pins s σ H E I hf st hg
    subst hP hw hK
    obtain ⟨hz, hTI, ⟨a0, b0, hTO⟩, h1, h2⟩ := st
    obtain ⟨⟨g1, g2⟩, g3⟩ := hg
    have hh : X.A.in1.handled = none := I.ok.hd hc
    exact wpAny_pyNext_zipD2_end S (Draws.text hh i1 x t) (Draws.text hh i2 y u) hz hTI hTO h1 h2 g1 g2 g3 fun h' tk hk => ⟨rfl, I.turnedL (t' := tk) (ch := [z, TI, TO, i1, i2]) (fun c o hb q =>
      hk c o (fun q' => hb (by simp [q'])) (fun q' => hb (by simp [q'])) (fun q' => hb (by simp [q'])) (fun q' => hb (by simp [q'])) q) hf⟩
  self := fun A i s Q E st h => wpAny_pyIter_zip st.1 h
def iZipS (ta : TA) : TI := fun σ H R => ta σ H fun vs H1 => ∃ x y, vs = [.str x, .str y] ∧ R (Itzs x y) H1
theorem pi_zipS {X : Cx} {e e2 : Expr} {ta : TA} {p pos tpos : Pos} {elts : List Expr} {kk : Nat} (hg : Gl X "zip") (hm : X.mg "zip" = none) (ha : PA X [e, e2] ta)
    (hs : starEach [e, e2] X.env = (false, eval e X.env) :: starEach [e2] X.env := by rfl) (hpl : (backTo pos (starEach [e2] X.env)).any (·.1) = false := by rfl) :
    PI X (.Tuple elts kk tpos) (.Call (.Name "zip" p) [e, e2] [] pos) (iZipS ta) := by
  refine ⟨fun pins s σ H R I h => ?_⟩
  refine Call_ (ld_blt I hg hm PyProof.Rows.boot_zip (PyProof.Rows.callWith_type1 (thn (ha.run pos pins s σ H _ I h) fun us s1 ⟨vs, H1, I1, r1, q1⟩ => ?_) hs hpl))
  obtain ⟨x, y, ex, q⟩ := q1
  subst ex
  cases r1 with
  | cons r rr =>
    cases rr with
    | cons r' rr =>
      cases rr
      obtain ⟨t, rfl⟩ := r
      obtain ⟨u, rfl⟩ := r'
      refine zip_begins2 (begins_text x t) (begins_text y u) trivial trivial fun h' hz hTI hTO h1 h2 hsz hk => wpAny_pyIter_zip hz ?_
      have I2 : Inv X pins σ H1 { s1 with heap := h' } := I1.kept (t' := s1.toks) hk
      have S : ZipSep2 (s1.heap.objs.size + 4) (s1.heap.objs.size + 2) (s1.heap.objs.size + 3) s1.heap.objs.size (s1.heap.objs.size + 1) [s1.heap.objs.size] [s1.heap.objs.size + 1] :=
        zip_sep2 (fp1 := []) (fp2 := []) (fun b hb => by cases hb) (fun b hb => by cases hb)
      refine ⟨s1.heap.objs.size + 4, [s1.heap.objs.size + 4, s1.heap.objs.size + 2, s1.heap.objs.size + 3, s1.heap.objs.size, s1.heap.objs.size + 1], _, _, H1, rfl, I2, turn_zipS S x y t u, ⟨hz, hTI, ⟨_, _, hTO⟩, ⟨_, h1, rfl, rfl⟩, ⟨_, h2, rfl, rfl⟩⟩, fun c hcm => ?_, q⟩
      have e' : c = s1.heap.objs.size + 4 ∨ c = s1.heap.objs.size + 2 ∨ c = s1.heap.objs.size + 3 ∨ c = s1.heap.objs.size ∨ c = s1.heap.objs.size + 1 := by simpa using hcm
      have hle : s1.heap.objs.size ≤ c := by
        rcases e' with z | z | z | z | z
        · rw [z]; exact Nat.le_add_right _ _
        · rw [z]; exact Nat.le_add_right _ _
        · rw [z]; exact Nat.le_add_right _ _
        · rw [z]; exact Nat.le_refl _
        · rw [z]; exact Nat.le_add_right _ _
      exact I1.fpOk hle (I1.hok.fresh hle)
theorem walk_zipS {x y : Str} {n : Nat} (hn : n = min x.cps.size y.cps.size) : Walk (Itzs x y) n (fun _ => True) (fun i H v H' => ∃ T c d, v = .ref T ∧ H T = none ∧ H' = upd H T (.tup [.str ⟨#[c]⟩, .str ⟨#[d]⟩]) ∧ x.cps[i]? = some c ∧ y.cps[i]? = some d) := by
  subst hn
  exact ⟨fun _ _ hi _ => ⟨by omega, by omega⟩, fun _ _ => ⟨⟨by omega, by omega⟩, by omega⟩, fun _ _ _ _ _ _ y => y⟩
end L2

namespace L2
open PySem PySem.Spec PyProof.Rows
/-! ### rules whose readings name the written part, over any context that has it (a comprehension's block too) -/
section
variable {X : Cx} {K : PySem.W.Frag}
theorem ix_listK (h : X.K = K := by rfl) : IxR X (rIxL K) := h ▸ ix_list
theorem ix_tupK (h : X.K = K := by rfl) : IxR X (rIxT K) := h ▸ ix_tup
theorem sl_listK (h : X.K = K := by rfl) : SlR X (rSlL K) := h ▸ sl_list
theorem sl_tupK (h : X.K = K := by rfl) : SlR X (rSlT K) := h ▸ sl_tup
theorem op_inK (h : X.K = K := by rfl) : OpR X (compareOp .In) (rIn K false) := h ▸ op_in_seq
theorem op_notInK (h : X.K = K := by rfl) : OpR X (compareOp .NotIn) (rIn K true) := h ▸ op_notIn_seq
theorem op_eqDK (hu : X.A.units + 64 < cLine) (h : X.K = K := by rfl) : OpR X (compareOp .Eq) (rEqD K) := h ▸ op_eqD hu
theorem op_neDK (hu : X.A.units + 64 < cLine) (h : X.K = K := by rfl) : OpR X (compareOp .NotEq) (rNeD K) := h ▸ op_neD hu
theorem op_ltDK (hu : X.A.units + 64 < cLine) (h : X.K = K := by rfl) : OpR X (compareOp .Lt) (rLtD K) := h ▸ op_ltD hu
/-- len of a list or tuple -/
def rLenK (K : PySem.W.Frag) : List V → Hp → VK → Prop := fun xs H Q => ∃ p ys, xs = [.ref p] ∧ (SqL K H p ys ∨ SqT K H p ys) ∧ Q (.int ys.length) H
theorem call_lenK (h : X.K = K := by rfl) : CallR X (.builtin "len") (rLenK K) := h ▸ call_len_seq
def rListK (K : PySem.W.Frag) : List V → Hp → VK → Prop := fun xs H Q => ∃ p ys, xs = [.ref p] ∧ (SqL K H p ys ∨ SqT K H p ys) ∧ ∀ l, H l = none → Q (.ref l) (upd H l (.lst ys))
theorem call_listK (h : X.K = K := by rfl) : CallR X (.type "list") (rListK K) := h ▸ call_list_of
theorem cr_allK (hc : X.calm = true) (h : X.K = K := by rfl) : CallR X (.builtin "all") (rAll K) := h ▸ cr_all hc
theorem cr_anyK (hc : X.calm = true) (h : X.K = K := by rfl) : CallR X (.builtin "any") (rAny K) := h ▸ cr_any hc
theorem cr_sumK (hc : X.calm = true) (h : X.K = K := by rfl) : CallR X (.builtin "sum") (rSum K) := h ▸ cr_sum hc
theorem call_isiK1 (h : X.K = K := by rfl) : CallR X (.builtin "isinstance") (rIsi K) := h ▸ call_isi
theorem call_isiTK (h : X.K = K := by rfl) : CallR X (.builtin "isinstance") (rIsiT K) := h ▸ call_isiT
/-- sep.join(texts) -/
def rJoinK (K : PySem.W.Frag) : V → List V → Hp → VK → Prop := fun x xs H Q => ∃ a p, ∃ ys : List Str, x = .str a ∧ xs = [.ref p] ∧ (SqL K H p (ys.map V.str) ∨ SqT K H p (ys.map V.str)) ∧ (ys.map (·.length)).sum + ys.length * a.length ≤ 16777216 ∧ Q (.str (Txt.join a ys)) H
theorem mt_joinK (h : X.K = K := by rfl) : MtR X "str.join" (rJoinK K) := h ▸ mt_join
end
end L2

namespace L2
open PySem PySem.Spec PyProof.Rows
/-! ### enumerate of a text -/
def Ites (x : Str) : It :=
  ⟨fun i _ => i < x.cps.size,
    fun i H v H' => ∃ T c, v = .ref T ∧ H T = none ∧ H' = upd H T (.tup [.int (i : Nat), .str ⟨#[c]⟩]) ∧ x.cps[i]? = some c,
    fun i _ => i = x.cps.size⟩
theorem turn_enumS {P : Program} {w : World} {K : PySem.W.Frag} {elts : List Expr} {kk : Nat} {tpos : Pos} {e it : Addr} (x : Str) (t : Tok) :
    Turn P w K (.Tuple elts kk tpos) (Ites x) [e, it] e (fun i h => (∃ old, IsEnum h e it (i : Int) old) ∧ h.IsStrIter it (strIterType x) x t i ∧ e ≠ it) where
  mem := by simp
  obj := fun i h st c hc => by
    obtain ⟨⟨old, he⟩, ⟨o2, e2, _, d2⟩, _⟩ := st
    have e' : c = e ∨ c = it := by simpa using hc
    rcases e' with q | q
    · rw [q]; exact ⟨_, he, fun v q => nomatch q⟩
    · rw [q]; exact ⟨o2, e2, fun v q => by rw [d2] at q; cases q⟩
  keep := fun i h h' st k => by
    obtain ⟨⟨old, he⟩, ⟨o2, e2, r2⟩, ne⟩ := st
    exact ⟨⟨old, k e (by simp) _ he⟩, ⟨o2, k it (by simp) _ e2, r2⟩, ne⟩
  item := by
    intro X hP hw hK hc i pins s σ H E I hf st hg
    subst hP hw hK
    obtain ⟨⟨old, he⟩, hit, ne⟩ := st
    have hh : X.A.in1.handled = none := I.ok.hd hc
    have hel : e < s.heap.objs.size := Heap.lt_size he
    have hil : it < s.heap.objs.size := by obtain ⟨_, y, _⟩ := hit; exact Heap.lt_size y
    refine wpAny_pyNext_enum_itemC (Draws.text hh it x t) he hit hg ne (by simpa using ne) fun v h' tk hv ho hs' hT hsz hk => ?_
    obtain ⟨c, u, hcx, rfl⟩ := hv
    refine ⟨_, rfl, wpAny_letOwnedTupleGo_enum (s := { s with heap := h', toks := tk + 1 }) ho fun h'' he' sb => ?_⟩
    have hT2 : h''.get? s.heap.objs.size = some { cls := .type "tuple", data := .seq #[Value.int (i : Int) tk, Value.str ⟨#[c]⟩ u] } := (sb.2 _ (Nat.ne_of_gt hel)).trans hT
    have new : ObjOk X.prog X.w (upd H s.heap.objs.size (.tup [.int (i : Nat), .str ⟨#[c]⟩])) h'' s.heap.objs.size (.tup [.int (i : Nat), .str ⟨#[c]⟩]) :=
      ⟨by show 2 ≤ sizeLine; decide, [Value.int (i : Int) tk, Value.str ⟨#[c]⟩ u], .cons ⟨tk, rfl⟩ (.cons ⟨u, rfl⟩ .nil), ⟨_, hT2, rfl, _, rfl⟩⟩
    have I1 : Inv X pins σ (upd H s.heap.objs.size (.tup [.int (i : Nat), .str ⟨#[c]⟩])) { s with heap := h'', toks := tk + 1 } :=
      I.turnedNew (t' := tk + 1) (ch := [e, it]) (fun b o hb q => (sb.2 b (fun q' => hb (by simp [q']))).trans (hk b o (fun q' => hb (by simp [q'])) (fun q' => hb (by simp [q'])) q)) hf (Nat.le_refl _) new
    have st2 : h''.IsStrIter it (strIterType x) x t (i + 1) := by
      obtain ⟨o, q, r⟩ := hs'
      exact ⟨o, (sb.2 _ (fun z => ne z.symm)).trans q, r⟩
    have he2 : ∃ old, IsEnum h'' e it (((i + 1 : Nat)) : Int) old := by
      have e1 : ((i + 1 : Nat) : Int) = (i : Int) + 1 := by omega
      rw [e1]
      exact ⟨_, he'⟩
    refine ⟨.ref s.heap.objs.size, _, I1, rfl, ⟨_, c, rfl, I.hok.fresh (Nat.le_refl _), rfl, hcx⟩, ⟨he2, st2, ne⟩, fun b hbm => ?_⟩
    have hlt : b < s.heap.objs.size := by
      have e' : b = e ∨ b = it := by simpa using hbm
      rcases e' with q | q
      · rw [q]; exact hel
      · rw [q]; exact hil
    rw [upd_ne (Nat.ne_of_lt hlt)]
    exact (hf b hbm).1
  done := by
    intro X hP hw hK hc i pins s σ H E I hf st hg
    subst hP hw hK
    obtain ⟨⟨old, he⟩, hit, ne⟩ := st
    have hh : X.A.in1.handled = none := I.ok.hd hc
    have hi : i = x.cps.size := hg
    subst hi
    exact wpAny_pyNext_enum_endD (Draws.text hh it x t) he hit fun h' hk => ⟨rfl, I.turnedL (t' := s.toks) (ch := [e, it]) (fun c o hb q => hk c o (fun q' => hb (by simp [q'])) q) hf⟩
  self := fun A i s Q E st h => by
    obtain ⟨⟨old, he⟩, _⟩ := st
    exact wpAny_pyIter_enum he h
def iEnumS (ta : TA) : TI := fun σ H R => ta σ H fun vs H1 => ∃ x, vs = [.str x] ∧ R (Ites x) H1
theorem pi_enumS {X : Cx} {e : Expr} {ta : TA} {p pos tpos : Pos} {elts : List Expr} {kk : Nat} (hg : Gl X "enumerate") (hm : X.mg "enumerate" = none) (ha : PA X [e] ta) (hs : starEach [e] X.env = [(false, eval e X.env)] := by rfl) :
    PI X (.Tuple elts kk tpos) (.Call (.Name "enumerate" p) [e] [] pos) (iEnumS ta) := by
  refine ⟨fun pins s σ H R I h => ?_⟩
  refine Call_ (ld_blt I hg hm boot_enumerate (PyProof.Rows.callWith_type1 (thn (ha.run pos pins s σ H _ I h) fun us s1 ⟨vs, H1, I1, r1, q1⟩ => ?_) hs rfl))
  obtain ⟨x, ex, q⟩ := q1
  subst ex
  cases r1 with
  | cons r rr =>
    cases rr
    obtain ⟨t, rfl⟩ := r
    refine call_enumerate_str fun h' he hit hsz hk => wpAny_pyIter_enum he ?_
    have I2 : Inv X pins σ H1 { s1 with heap := h' } := I1.kept (t' := s1.toks) hk
    refine ⟨s1.heap.objs.size + 1, [s1.heap.objs.size + 1, s1.heap.objs.size], _, _, H1, rfl, I2, turn_enumS x t, ⟨⟨.none, he⟩, hit, Nat.succ_ne_self _⟩, fun b hb => ?_, q⟩
    have hle : s1.heap.objs.size ≤ b := by
      have e' : b = s1.heap.objs.size + 1 ∨ b = s1.heap.objs.size := by simpa using hb
      rcases e' with z | z <;> rw [z] <;> omega
    exact I1.fpOk hle (I1.hok.fresh hle)
theorem walk_enumS {x : Str} : Walk (Ites x) x.cps.size (fun _ => True) (fun i H v H' => ∃ T c, v = .ref T ∧ H T = none ∧ H' = upd H T (.tup [.int (i : Nat), .str ⟨#[c]⟩]) ∧ x.cps[i]? = some c) :=
  ⟨fun _ _ hi _ => hi, fun _ _ => rfl, fun _ _ _ _ _ _ y => y⟩
end L2

namespace L2
open PySem PySem.Spec PyProof.Rows
/-! ### int(text, base), a base of 2, 4, .. 12, digits 0 to 9, a, b -/
namespace Db
open PySem.NumText PySem.Calls
def dv (c : Nat) : Nat := if c ≤ 57 then c - 48 else c - 87
def Dig (B c : Nat) : Prop := ((48 ≤ c ∧ c ≤ 57) ∨ (97 ≤ c ∧ c ≤ 98)) ∧ dv c < B
def Base (B : Nat) : Prop := B = 2 ∨ B = 4 ∨ B = 6 ∨ B = 8 ∨ B = 10 ∨ B = 12
def num (B : Nat) (l : List Nat) : Nat := l.foldl (fun a c => a * B + dv c) 0
variable {B c : Nat} {cs : List Nat}
theorem two (p q : Prop) [Decidable p] [Decidable q] : ((decide p && decide q) = true) = (p ∧ q) := by simp
theorem digit_is (h : Dig B c) : digit? c = some (dv c) := by
  obtain ⟨h, _⟩ := h
  unfold digit? dv
  simp only [two]
  rcases h with h | h
  · rw [if_pos h, if_pos h.2]
  · rw [if_neg (by omega), if_pos (by omega), if_neg (by omega)]
theorem rng (h : Dig B c) : 48 ≤ c ∧ c ≤ 98 ∧ c ≠ 95 := by
  obtain ⟨h, _⟩ := h
  omega
theorem step_is {ds : Array Nat} {b : Bool} (h : Dig B c) : PySem.NumText.step B (ds, b) c = some (ds.push (dv c), true) := by
  unfold PySem.NumText.step
  rw [if_neg (by simp [(rng h).2.2]), digit_is h]
  exact if_pos h.2
theorem fold_is : ∀ (cs : List Nat) (ds : Array Nat), (∀ c ∈ cs, Dig B c) → cs.foldlM (PySem.NumText.step B) (ds, true) = some (cs.foldl (fun acc c => acc.push (dv c)) ds, true)
  | [], _, _ => rfl
  | c :: cs, ds, h => by
    rw [List.foldlM_cons, step_is (h c List.mem_cons_self)]
    exact fold_is cs (ds.push (dv c)) fun d hd => h d (List.mem_cons_of_mem _ hd)
theorem digits_is (h : ∀ c ∈ cs, Dig B c) (hne : cs ≠ []) : digits? B cs = some (cs.foldl (fun acc c => acc.push (dv c)) #[]) := by
  cases cs with
  | nil => exact absurd rfl hne
  | cons c cs =>
    unfold digits?
    rw [List.foldlM_cons, step_is (h c List.mem_cons_self)]
    show (cs.foldlM (PySem.NumText.step B) ((#[] : Array Nat).push (dv c), true)).bind _ = _
    rw [fold_is cs _ fun d hd => h d (List.mem_cons_of_mem _ hd)]
    rfl
theorem push_is : ∀ (cs : List Nat) (ds : Array Nat), (cs.foldl (fun acc c => acc.push (dv c)) ds).foldl (fun acc d => acc * B + d) 0 = cs.foldl (fun a c => a * B + dv c) (ds.foldl (fun acc d => acc * B + d) 0)
  | [], _ => rfl
  | c :: cs, ds => by
    rw [List.foldl_cons, push_is cs (ds.push (dv c)), List.foldl_cons]
    congr 1
    simp
theorem drop_is (h : ∀ c ∈ cs, Dig B c) : cs.dropWhile blank = cs := by
  cases cs with
  | nil => rfl
  | cons c cs => exact dropWhile_of (by have q := rng (h c List.mem_cons_self); omega)
theorem sign_is (h : ∀ c ∈ cs, Dig B c) : sign cs = (false, cs) := by
  cases cs with
  | nil => rfl
  | cons c cs =>
    have q := rng (h c List.mem_cons_self)
    exact sign_of (by omega) (by omega)
theorem pref_is (hB : Base B) (h : ∀ c ∈ cs, Dig B c) : ∀ p, PySem.NumText.prefix? cs = some p → p ≠ B ∧ B ≠ 0 := by
  intro p hp
  have b0 : B ≠ 0 := by unfold Base at hB; omega
  refine ⟨?_, b0⟩
  match cs, h, hp with
  | [], _, hp => cases (show (none : Option Nat) = some p from hp)
  | [a], _, hp =>
    unfold PySem.NumText.prefix? at hp
    split at hp
    · rename_i e; cases e
    · cases hp
  | a :: c :: r, h, hp =>
    obtain ⟨hc, hv⟩ := h c (List.mem_cons_of_mem _ List.mem_cons_self)
    by_cases ha : a = 48
    · subst ha
      have e : PySem.NumText.prefix? (48 :: c :: r) = if (c == 120 || c == 88) = true then some 16 else if (c == 111 || c == 79) = true then some 8 else if (c == 98 || c == 66) = true then some 2 else none := rfl
      have n1 : ¬ ((c == 120 || c == 88) = true) := by simp; omega
      have n2 : ¬ ((c == 111 || c == 79) = true) := by simp; omega
      rw [e, if_neg n1, if_neg n2] at hp
      by_cases n3 : (c == 98 || c == 66) = true
      · rw [if_pos n3] at hp
        cases hp
        intro e2
        have : c = 98 := by simp at n3; omega
        subst this
        unfold dv at hv
        rw [← e2] at hv
        simp at hv
      · rw [if_neg n3] at hp
        cases hp
    · unfold PySem.NumText.prefix? at hp
      split at hp
      · rename_i e; exact absurd (List.cons.inj e).1 ha
      · cases hp
theorem based_is (hB : Base B) (h : ∀ c ∈ cs, Dig B c) : based B cs = (B, false, cs) := by
  have b0 : B ≠ 0 := by unfold Base at hB; omega
  have z : (B == 0) = false := by simp [b0]
  unfold based
  cases e : PySem.NumText.prefix? cs with
  | none =>
    show (if (B == 0) = true then _ else (B, false, cs)) = _
    rw [z]
    rfl
  | some p =>
    have q := (pref_is hB h p e).1
    show (if (B == 0 || B == p) = true then _ else (B, false, cs)) = _
    rw [if_neg (by simp [b0]; exact fun z => q z.symm)]
theorem size_is : ∀ (cs : List Nat) (ds : Array Nat), (cs.foldl (fun acc c => acc.push (dv c)) ds).size = ds.size + cs.length
  | [], _ => rfl
  | c :: cs, ds => by
    rw [List.foldl_cons, size_is cs (ds.push (dv c)), Array.size_push, List.length_cons]
    omega
theorem read_is (hB : Base B) (h : ∀ c ∈ cs, Dig B c) (hne : cs ≠ []) (hl : cs.length ≤ 640) : (int_private% "readNumeral") 0 B cs = (int_private% "Numeral.value") ((num B cs : Nat) : Int) := by
  have hr : ∀ c ∈ cs.reverse, Dig B c := fun c hc => h c (List.mem_reverse.mp hc)
  refine (readNumeral_eq 0 B cs).trans ?_
  rw [drop_is h, sign_is h]
  show judge 0 false (based B cs).1 (based B cs).2.1 (digits? (based B cs).1 (((based B cs).2.2.reverse.dropWhile blank).reverse)) = _
  rw [based_is hB h]
  show judge 0 false B false (digits? B ((cs.reverse.dropWhile blank).reverse)) = _
  rw [drop_is hr, List.reverse_reverse, digits_is h hne]
  have z : ∀ ds : Array Nat, ds.size ≤ 6000 → judge 0 false B false (some ds) = (int_private% "Numeral.value") ((ds.foldl (fun acc d => acc * B + d) 0 : Nat) : Int) := by
    intro ds hd
    have n10 : ¬ ((B == 10 && decide (ds.size > 6000)) = true) := by
      have : ¬ ds.size > 6000 := by omega
      simp [this]
    unfold judge
    simp only [n10]
    simp
  rw [z _ (by rw [size_is]; simp; omega), push_is]
  rfl
theorem seen_is {x : Str} (h : ∀ c ∈ x.cps.toList, Dig B c) : numTextOf x = x.cps.toList ∧ numSeenOf x = x.cps.toList := by
  have e1 : numTextOf x = x.cps.toList := if_pos (by
    rw [← Array.all_toList, List.all_eq_true]
    intro c hc
    have q := rng (h c hc)
    exact decide_eq_true (by omega))
  refine ⟨e1, ?_⟩
  show (numTextOf x).takeWhile _ = _
  rw [e1]
  exact takeWhile_all fun c hc => bne_iff_ne.mpr (by have q := rng (h c hc); omega)
structure Kept (p : Prop) : Prop where
  out : p
set_option maxHeartbeats 8000000 in
theorem gives_is {x : PySem.Str} {u t : Tok} (hB : Base B) (hl : x.length ≤ 640) (h : ∀ c ∈ x.cps.toList, Dig B c) (hne : x.cps.toList ≠ []) :
    Gives (Builtin.«int.__new__» ⟨[.type "int", .str x u, .int (B : Int) t], []⟩) (.int ((num B x.cps.toList : Nat) : Int)) :=
  .of_wp fun M A E s Q hQ => by
    obtain ⟨hp, g, d, tk, os⟩ := s
    have f1 := F.conv_sub_int
    have f2 := F.madeHere_int
    have f6 : typeOf (.str x u) = pure (.type "str") := rfl
    obtain ⟨e1, e2⟩ := seen_is h
    have hs : (numSeenOf x).length ≤ 640 := by rw [e2, Array.length_toList]; exact hl
    have hr : (int_private% "readNumeral") 0 B (numSeenOf x) = (int_private% "Numeral.value") ((num B x.cps.toList : Nat) : Int) := by rw [e2]; exact read_is hB h hne (by rw [Array.length_toList]; exact hl)
    have ha : ((numSeenOf x).length == (numTextOf x).length) = true := by rw [e1, e2]; exact beq_self_eq_true _
    have hk := Kept.mk (And.intro hs (And.intro hr ha))
    clear hs hr ha e1 e2 hl hne h
    rcases hB with rfl | rfl | rfl | rfl | rfl | rfl
    all_goals
      repeat (any_goals (first
        | assumption
        | ((with_reducible show wpAny _ _ ((int_private% "intFromText") _ _ _) _ _ _); refine Hx.wp_textB hk.out.1 hk.out.2.1 hk.out.2.2 ?_)
        | wp_step))
    all_goals first | exact ⟨_, rfl, hQ⟩ | skip
theorem call_is {prog : Program} {w : World} {A : Around} {E : Value → Shared → Prop} {s : Shared} {Q : Value → Shared → Prop} {x : PySem.Str} {u t : Tok} (hB : Base B) (hl : x.length ≤ 640) (h : ∀ c ∈ x.cps.toList, Dig B c) (hne : x.cps.toList ≠ [])
    (hQ : Q (.int ((num B x.cps.toList : Nat) : Int) s.toks) { s with toks := s.toks + 1 }) : wpAny (model prog w) A (call (.type "int") [.str x u, .int (B : Int) t]) Q E s :=
  callType_new F.called_int F.newNe_int (Hx.typeCall_int_2 _ _) (Hx.newCall_int_2 _ _) (fun obj => F.initArgs_range_2 obj _ _) F.entry_int_new (gives_is hB hl h hne).meets (show (Made.int ((num B x.cps.toList : Nat) : Int)).post _ s from ⟨rfl, hQ⟩)
end Db
/-- int(text, base) -/
def rIntBase : List V → Hp → VK → Prop := fun xs H Q => ∃ (z : Str) (B : Nat), xs = [.str z, .int (B : Int)] ∧ Db.Base B ∧ z.cps.toList ≠ [] ∧ z.length ≤ 640 ∧ (∀ c ∈ z.cps.toList, Db.Dig B c) ∧ Q (.int ((Db.num B z.cps.toList : Nat) : Int)) H
theorem call_int_base {X : Cx} : CallR X (.type "int") rIntBase := by
  intro pins s σ H xs us Q I r h
  obtain ⟨z, B, rfl, hB, hne, hl, hx, q⟩ := h
  obtain ⟨u, w', rfl, r1, r2⟩ := vals2 r
  obtain ⟨t1, rfl⟩ := r1
  obtain ⟨t2, rfl⟩ := r2
  exact Db.call_is hB hl hx hne ⟨.int ((Db.num B z.cps.toList : Nat) : Int), H, I.tok _, ⟨_, rfl⟩, q⟩
end L2

namespace L2
open PySem PySem.Spec PyProof.Rows
/-- a def with defaults that lets nothing out -/
theorem FunD.ok0 {P : Program} {w : World} {K : PySem.W.Frag} {mg : Str → Option Value} {base : Heap} {x qual : Str} {st : Stmt} {dvs : List V} {f : Addr} {fd : FuncData} {N ps : List Str} {k : Nat} {sp : Sp}
    (F : FunD K x qual (defArgs st) (defBody st) (defScope st) dvs [] f fd) (S : FnScope N ps (defScope st)) (len : ∀ vs H Q E, sp vs H Q E → vs.length = ps.length)
    (hbody : ∀ (cdv : Value) (A : Around) (outer : List Env) (s : Shared) (H : Hp) (vs : List V) (Q : VK) (E : XK), Room k (A.deeper (envOfC qual (defScope st) s.heap.objs.size f cdv)) → sp vs H Q E →
      ∃ t, PSs (cxOf CX0 P w K mg base N qual (defScope st) f cdv A outer s H E).nox (defBody st) t ∧ t { nx := fun _ H' => Q .non H', rt := Q } (start N vs) H) : FnOk P w K mg base CX0 (k + 1) f fd ps sp :=
  F.ok S len fun cdv A outer s H vs Q E hr hsp => by
    obtain ⟨t, h, q⟩ := hbody cdv A outer s H vs Q E hr hsp
    exact ⟨t, h.nox, q⟩
theorem funD_mk {K : PySem.W.Frag} {x qual : Str} {st : Stmt} {f T : Addr} {oc : Value} {od an : Option Addr} {osl : Array (Option Value)} {kV doc pm cdv ct : Value} {o : Obj} {its : List Value} {n : Nat} {dvs : List V}
    (l : K.lookup f = some ⟨oc, od, .func (PySem.W.fnOf x qual (defArgs st) (defBody st) (defScope st) (.ref T) kV doc pm an cdv ct), osl⟩)
    (c : PySem.W.codeIn K cdv qual = true) (k : PySem.W.keepIn K (.ref f) = true) (lT : K.lookup T = some o) (oT : o.data = .seq its.toArray n) (hv : Vals dvs its) (hd : dvs ≠ []) :
    FunD K x qual (defArgs st) (defBody st) (defScope st) dvs [] f (PySem.W.fnOf x qual (defArgs st) (defBody st) (defScope st) (.ref T) kV doc pm an cdv ct) :=
  ⟨⟨oc, od, .ref T, kV, doc, pm, an, cdv, ct, osl, rfl, l, c, .inr ⟨hd, T, o, its, n, rfl, lT, oT, hv⟩, .inl rfl⟩, k⟩
end L2

namespace Evl
open PySem L2
/-! ### what evaluates to what: texts -/
section
variable {K : PySem.W.Frag} {σ : L2.St} {H H' : Hp} {ta tb te tl : TE} {t : TT} {x y z v : V}
theorem ev_m0 {C : Str → Prop} {g : Str → V} {a : Str} (h : Ev te σ H (.str a)) (c : C a) : Ev (tM0 (fun x xs H Q => ∃ a, x = .str a ∧ xs = [] ∧ C a ∧ Q (g a) H) te) σ H (g a) := fun H1 e Q q =>
  h H1 e _ fun H2 e2 => ⟨⟨a, rfl⟩, a, rfl, rfl, c, q H2 e2⟩
theorem ev_m1 {g : Str → Str → V} {a b : Str} (h : Ev te σ H (.str a)) (h2 : Ev ta σ H (.str b)) : Ev (tM1 (fun x xs H Q => ∃ a b, x = .str a ∧ xs = [.str b] ∧ Q (g a b) H) te ta) σ H (g a b) := fun H1 e Q q =>
  h H1 e _ fun H2 e2 => ⟨⟨a, rfl⟩, h2 H2 (e.trans e2) _ fun H3 e3 => ⟨a, b, rfl, rfl, q H3 (e2.trans e3)⟩⟩
theorem ev_join {a : Str} {ys : List Str} (h : Ev te σ H (.str a)) (h2 : EvL tl σ H (ys.map V.str)) (hz : (ys.map (·.length)).sum + ys.length * a.length ≤ 16777216) :
    Ev (tM1 (rJoinK K) te tl) σ H (.str (Txt.join a ys)) := fun H1 e Q q =>
  h H1 e _ fun H2 e2 => ⟨⟨a, rfl⟩, h2 H2 (e.trans e2) _ fun p H3 _ e3 h3 => ⟨a, p, ys, rfl, rfl, .inl (sq_of h3), hz, q H3 (e2.trans e3)⟩⟩
theorem rv_addS {a b : Str} (h : a.length + b.length ≤ 100000) : RV (fun x y H Q => ∃ i j, x = .str i ∧ y = .str j ∧ i.length + j.length ≤ sizeLine ∧ Q (.str (i ++ j)) H) (.str a) (.str b) H (.str (a ++ b)) := fun H1 _ _ q => ⟨a, b, rfl, rfl, sz_of h, q H1 (Ex.refl H1)⟩
theorem rv_inS {c : Nat} {z : Str} : RV (fun x y H Q => ∃ (c : Nat) (z : Str), x = .str ⟨#[c]⟩ ∧ y = .str z ∧ Q (.bl (decide (c ∈ z.cps.toList))) H) (.str ⟨#[c]⟩) (.str z) H (.bl (decide (c ∈ z.cps.toList))) := fun H1 _ _ q => ⟨c, z, rfl, rfl, q H1 (Ex.refl H1)⟩
theorem rv_niS {c : Nat} {z : Str} : RV (fun x y H Q => ∃ (c : Nat) (z : Str), x = .str ⟨#[c]⟩ ∧ y = .str z ∧ Q (.bl (!decide (c ∈ z.cps.toList))) H) (.str ⟨#[c]⟩) (.str z) H (.bl (!decide (c ∈ z.cps.toList))) := fun H1 _ _ q => ⟨c, z, rfl, rfl, q H1 (Ex.refl H1)⟩
theorem rv_ltS {a b : Str} : RV (fun x y H Q => ∃ i j, x = .str i ∧ y = .str j ∧ Q (.bl (decide (i.cps.toList < j.cps.toList))) H) (.str a) (.str b) H (.bl (decide (a.cps.toList < b.cps.toList))) := fun H1 _ _ q => ⟨a, b, rfl, rfl, q H1 (Ex.refl H1)⟩
theorem ev_revS {a : Str} (h : Ev te σ H (.str a)) (hz : a.length ≤ 100000) : Ev (tRevS te) σ H (.str ⟨a.cps.toList.reverse.toArray⟩) := fun H1 e Q q => h H1 e _ fun H2 e2 => ⟨a, rfl, sz_of hz, q H2 e2⟩
theorem ev_slS {a : Str} {t1 t2 : TO} {lo hi : Option Int} (h : Ev te σ H (.str a)) (h1 : EvO t1 σ H lo) (h2 : EvO t2 σ H hi) (hz : a.length ≤ 100000) : Ev (tSl rSlS te t1 t2) σ H (.str (cutS a lo hi)) := fun H1 e Q q =>
  h H1 e _ fun H2 e2 => h1 H2 (e.trans e2) _ fun H3 e3 => h2 H3 ((e.trans e2).trans e3) _ fun H4 e4 => ⟨a, rfl, sz_of hz, q H4 ((e2.trans e3).trans e4)⟩
theorem ev_lenS {a : Str} (h : Ev te σ H (.str a)) (hz : a.length ≤ 100000) : Ev (tCB (fun xs H Q => ∃ z, xs = [.str z] ∧ z.length ≤ sizeLine ∧ Q (.int z.length) H) (tCons te tNil)) σ H (.int a.length) := fun H1 e Q q =>
  h H1 e _ fun H2 e2 => ⟨a, rfl, sz_of hz, q H2 e2⟩
theorem ev_intB {b : Bool} (h : Ev te σ H (.bl b)) : Ev (tCB (fun xs H Q => (∃ i, xs = [.int i] ∧ Q (.int i) H) ∨ ∃ k, xs = [.bl k] ∧ Q (.int (if k then 1 else 0)) H) (tCons te tNil)) σ H (.int (if b then 1 else 0)) := fun H1 e Q q =>
  h H1 e _ fun H2 e2 => .inr ⟨b, rfl, q H2 e2⟩
theorem ev_ixNew {xs : List V} {i : Int} (ha : EvL ta σ H xs) (hb : ∀ H1, Ex H H1 → Ev tb σ H1 (.int i)) (hi : atI xs i = some v) : Ev (tOp (rIxL K) ta tb) σ H v := ev_opL1 ha hb fun p H1 hp e => rv_ixL (sq_of hp) hi
theorem ev_isi {tc : TE} {c : V} {ty u : Value} {b : Bool} (h : Ev te σ H x) (h2 : Ev tc σ H c) (hc : ClsV c u) (hx : ∀ H1, Ex H H1 → TyX K H1 x ty) (hb : PySem.W.kitOne K ty u = some b) : Ev (tCB (rIsi K) (tCons te (tCons tc tNil))) σ H (.bl b) := fun H1 e Q q =>
  h H1 e _ fun H2 e2 => h2 H2 (e.trans e2) _ fun H3 e3 => ⟨x, c, ty, u, b, rfl, hc, hx H3 ((e.trans e2).trans e3), hb, q H3 (e2.trans e3)⟩
theorem ev_isiN {tc : TE} {c : V} {xs : List V} {ty u : Value} {b : Bool} (h : EvL te σ H xs) (h2 : ∀ H1, Ex H H1 → Ev tc σ H1 c) (hc : ClsV c u) (hx : ∀ p H1, H1 p = some (.lst xs) → TyX K H1 (.ref p) ty) (hb : PySem.W.kitOne K ty u = some b) : Ev (tCB (rIsi K) (tCons te (tCons tc tNil))) σ H (.bl b) := fun H1 e Q q =>
  h H1 e _ fun p H2 _ e2 hp => h2 H2 (e.trans e2) H2 (Ex.refl H2) _ fun H3 e3 => ⟨.ref p, c, ty, u, b, rfl, hc, hx p H3 (e3 _ _ hp), hb, q H3 (e2.trans e3)⟩
theorem ev_allN {bs : List Bool} (h : EvL te σ H (bs.map V.bl)) : Ev (tCB (rAll K) (tCons te tNil)) σ H (.bl (bs.all id)) := fun H1 e Q q =>
  h H1 e _ fun p H2 _ e2 hp => ⟨p, bs, rfl, sq_of hp, q H2 e2⟩
theorem ev_ifv {b : Bool} {v w : V} (h : EvT t σ H b) (h1 : b = true → Ev ta σ H v) (h2 : b = false → Ev tb σ H w) : Ev (tIf t ta tb) σ H (if b = true then v else w) := by
  refine ev_if h (fun e => ?_) (fun e => ?_)
  · rw [if_pos e]; exact h1 e
  · rw [if_neg (by rw [e]; decide)]; exact h2 e
theorem et_yes : EvT tYes σ H true := fun H1 _ _ q => q H1 (Ex.refl H1)
theorem given_all (n : Nat) (v : Nat → V) : given n (fun _ => true) v = (List.range n).map v := by
  unfold given
  congr 1
  exact List.filter_eq_self.mpr fun _ _ => rfl
theorem range_map {α : Type} (l : List α) (g : α → V) (d : α) : (List.range l.length).map (fun i => g (l.getD i d)) = l.map g := by
  apply List.ext_getElem
  · simp
  · intro i h1 h2
    simp at h1
    simp [List.getD, h1]
/-- [e for sign in text] -/
theorem el_lcS {s : Str} {j : Nat} {vs : List Nat} (f : Nat → Bool) (v : Nat → V) (h : Ev tl σ H (.str s)) (hz : s.length ≤ 40000) (hw : ∀ x, wipe ((wipe σ vs).set j (some x)) vs = wipe σ vs)
    (ht : ∀ (i c : Nat) H1, Ex H H1 → s.cps.toList[i]? = some c → EvT t ((wipe σ vs).set j (some (.str ⟨#[c]⟩))) H1 (f i))
    (he : ∀ (i c : Nat) H1, Ex H H1 → s.cps.toList[i]? = some c → f i = true → Ev te ((wipe σ vs).set j (some (.str ⟨#[c]⟩))) H1 (v i)) :
    EvL (tLc (iStr tl) (gName j) t te vs) σ H (given s.length f v) := fun H0 e Q q => h H0 e _ fun H1 e1 => ⟨s, rfl, fun Dl hD =>
  lc_it walk_str (Cw H1 f v Dl) ⟨hD, Ex.new hD, upd_same⟩ (fun _ _ _ _ => trivial) (fun i x H2 H' hi p hy => by
    obtain ⟨rfl, c, hc, rfl⟩ := hy
    have hc' : s.cps.toList[i]? = some c := by rw [Array.getElem?_toList]; exact hc
    exact ⟨hw _, cw_turn p (by have : s.length = s.cps.size := rfl; omega) (ht i c H1 (e.trans e1) hc') (fun hf => he i c H1 (e.trans e1) hc' hf)⟩)
    (fun H' p => q Dl H' (fresh_back e1 p.1) (e1.trans p.2.1) p.2.2)⟩
theorem el_mapS {s : Str} {j : Nat} {vs : List Nat} (g : Nat → V) (h : Ev tl σ H (.str s)) (hz : s.length ≤ 40000) (hw : ∀ x, wipe ((wipe σ vs).set j (some x)) vs = wipe σ vs)
    (he : ∀ (c : Nat) H1, Ex H H1 → c ∈ s.cps.toList → Ev te ((wipe σ vs).set j (some (.str ⟨#[c]⟩))) H1 (g c)) :
    EvL (tLc (iStr tl) (gName j) tYes te vs) σ H (s.cps.toList.map g) := by
  have := el_lcS (te := te) (t := tYes) (fun _ => true) (fun i => g (s.cps.toList.getD i 0)) h hz hw (fun _ _ _ _ _ => et_yes) (fun i c H1 e hc _ => by
    have : s.cps.toList.getD i 0 = c := by rw [List.getD_eq_getElem?_getD, hc]; rfl
    rw [this]
    exact he c H1 e (List.mem_of_getElem? hc))
  rw [given_all] at this
  have e2 : s.length = s.cps.toList.length := rfl
  rw [e2, range_map] at this
  exact this
end
end Evl

namespace Toy
open PySem L2

def top (i : Nat) : Stmt := PySem.Challenge.pw_undotrees_k06_whole_numbers_in_order.main.body.getD i (.Pass ⟨0, 0, 0, 0⟩)
abbrev s_law_pool : Stmt := top 22
abbrev s_law_take : Stmt := top 23
abbrev s_is_whole : Stmt := top 9
abbrev s_look_at_deeds : Stmt := top 18
abbrev s_row_at : Stmt := top 20
abbrev s_law_turned : Stmt := top 24
abbrev s_law_row : Stmt := top 25
abbrev s_is_row_within : Stmt := top 10
abbrev s_is_row : Stmt := top 11
abbrev s_look_at_row : Stmt := top 12
abbrev s_rank : Stmt := top 16
abbrev s_before : Stmt := top 17
abbrev s_number_of : Stmt := top 19
abbrev s_contrary_sign : Stmt := top 13
abbrev s_turned : Stmt := top 14
abbrev s_contrary : Stmt := top 15
abbrev s_law : Stmt := top 26
open RowM (sgns con ix Row)
open TL
/-- the reading, as far as it goes by itself -/
local macro_rules | `(tactic| walk_at "rd") => `(tactic| repeat (first
  | refine ⟨_, rfl, ?_⟩
  | refine ⟨_, _, rfl, rfl, ?_⟩
  | refine ⟨rfl, ?_⟩
  | refine ⟨(by show (0 : Int) < _; omega), ?_⟩
  | refine ⟨⟨by omega, by omega⟩, ?_⟩
  | refine ⟨(by decide), ?_⟩
  | refine ⟨(by omega), ?_⟩))
/-- the text of a list of signs' numbers -/
abbrev S (l : List Nat) : Str := ⟨l.toArray⟩
/-- all but the object at p is as it was -/
def Off (p : Addr) (H H' : Hp) : Prop := ∀ b o, b ≠ p → H b = some o → H' b = some o
theorem Off.refl (p : Addr) (H : Hp) : Off p H H := fun _ _ _ h => h
theorem Off.trans {p : Addr} {H H1 H2 : Hp} (a : Off p H H1) (b : Off p H1 H2) : Off p H H2 := fun c o n h => b c o n (a c o n h)
theorem off_of {p : Addr} {H H' : Hp} (a : Same H H') : Off p H H' := fun c o _ h => a c o h
theorem Off.upd {p : Addr} {H H' : Hp} {o : HO} (a : Off p H H') : Off p H (upd H' p o) := fun c u n h => by
  rw [upd_ne n]
  exact a c u n h
/-- the law's own pool of draws -/
def Pool (H : Hp) (p : Addr) : Prop := ∃ c n : Int, H p = some (.lst [.int c, .int n]) ∧ 0 ≤ n ∧ n < 2147483647
theorem Pool.same {H H' : Hp} {p : Addr} (h : Pool H p) (s : Same H H') : Pool H' p := by
  obtain ⟨c, n, e, r⟩ := h
  exact ⟨c, n, s _ _ e, r⟩
theorem Same.new {H : Hp} {p : Addr} {o : HO} (h : H p = none) : Same H (upd H p o) := fun b u e => by
  rw [upd_ne (ne_of_none e h)]
  exact e
theorem atI0 {α : Type} {a : α} {l : List α} : atI (a :: l) 0 = some a := atI_nat (xs := a :: l) (j := 0) rfl
theorem atI1 {α : Type} {a b : α} {l : List α} : atI (a :: b :: l) 1 = some b := atI_nat (xs := a :: b :: l) (j := 1) rfl
theorem one_le {c : Nat} : (⟨#[c]⟩ : Str).length ≤ 5592405 := by show 1 ≤ _; decide
/-! ### signs -/
open RowM (lo up)
theorem low1 : ∀ c ∈ sgns, Txt.lower (S [c]) = S [lo c] := by decide +kernel
theorem up1 : ∀ c ∈ sgns, Txt.upper (S [c]) = S [up c] := by decide +kernel
theorem isup1 : ∀ c ∈ sgns, Txt.isupper (S [c]) = decide (c < 97) := by decide +kernel
theorem islo1 : ∀ c ∈ sgns, Txt.islower (S [c]) = decide (97 ≤ c) := by decide +kernel
theorem six1 : ∀ c ∈ sgns, ∃ r, Builtin.Str.occurrences "aAbBcCdDeEfF" (S [c]) 0 12 1 = ix c :: r := by
  intro c hc
  have h : ∀ c ∈ sgns, (Builtin.Str.occurrences "aAbBcCdDeEfF" (S [c]) 0 12 1).head? = some (ix c) := by decide +kernel
  have := h c hc
  cases e : Builtin.Str.occurrences "aAbBcCdDeEfF" (S [c]) 0 12 1 with
  | nil => rw [e] at this; cases this
  | cons a r => rw [e] at this; cases this; exact ⟨r, rfl⟩
theorem sgns_at : ∀ i : Nat, i < 12 → ∃ c, (Str.ofString "aAbBcCdDeEfF").cps.toList[i]? = some c ∧ c ∈ sgns ∧ ix c = i := by
  have h : ∀ i ∈ List.range 12, (Str.ofString "aAbBcCdDeEfF").cps.toList[i]? = sgns[i]? ∧ (sgns[i]?).isSome = true ∧ ix (sgns.getD i 0) = i := by decide +kernel
  intro i hi
  obtain ⟨h1, h2, h3⟩ := h i (List.mem_range.mpr hi)
  have h4 : i < sgns.length := hi
  refine ⟨sgns[i], by rw [h1, List.getElem?_eq_getElem h4], List.getElem_mem _, ?_⟩
  rw [List.getD_eq_getElem?_getD, List.getElem?_eq_getElem h4] at h3
  exact h3
theorem sgns_mem : ∀ c : Nat, (c ∈ (Str.ofString "aAbBcCdDeEfF").cps.toList) = (c ∈ sgns) := by
  have h : (Str.ofString "aAbBcCdDeEfF").cps.toList = sgns := by decide +kernel
  intro c
  rw [h]
theorem sign_of_at {i : Int} {z : Str} (h0 : 0 ≤ i) (h1 : i < 12) (hz : z = Str.ofString "aAbBcCdDeEfF") : ∃ c, atI z.cps.toList i = some c ∧ c ∈ sgns ∧ (ix c : Int) = i := by
  subst hz
  obtain ⟨c, e, hc, hi⟩ := sgns_at i.toNat (by omega)
  refine ⟨c, ?_, hc, by omega⟩
  have : i = (i.toNat : Int) := by omega
  rw [this]
  exact atI_nat e
theorem el_is {te : TE} {σ : L2.St} {H : Hp} {xs ys : List V} (h : Evl.EvL te σ H xs) (e : xs = ys) : Evl.EvL te σ H ys := e ▸ h
theorem len_S (l : List Nat) : (S l).length = l.length := by simp [S, Str.length]
theorem add_S (l m : List Nat) : S l ++ S m = S (l ++ m) := ext_tl (by rw [tl_append])
theorem joinL_nil : ∀ ps : List (List Nat), joinL [] ps = ps.flatten
  | [] => rfl
  | [p] => by simp [joinL]
  | p :: q :: r => by rw [joinL, joinL_nil (q :: r)]; simp
theorem join_S (a : Str) (ha : tl a = []) (l : List Nat) : Txt.join a (l.map fun c => S [c]) = S l := by
  refine ext_tl ?_
  rw [join_eq, tl_join, ha, joinL_nil]
  show _ = l
  induction l with
  | nil => rfl
  | cons c l ih => simp [tl] at ih ⊢; exact ih
theorem sum_ones (l : List Nat) : ((l.map fun c => S [c]).map (·.length)).sum = l.length := by
  induction l with
  | nil => rfl
  | cons c l ih => simp only [List.map_cons, List.sum_cons, List.length_cons, ih, len_S]; simp; omega
section
open Evl
variable {K : PySem.W.Frag} {σ : L2.St} {H : Hp} {te tl' to : TE} {j : Nat} {vs : List Nat}
/-- "".join([e for sign in text]), each e a sign -/
theorem ev_joinMap {a s : Str} (g : Nat → Nat) (ho : Ev to σ H (.str a)) (ha : tl a = []) (h : Ev tl' σ H (.str s)) (hz : s.length ≤ 40000) (hw : ∀ x, wipe ((wipe σ vs).set j (some x)) vs = wipe σ vs)
    (he : ∀ (c : Nat) H1, Ex H H1 → c ∈ s.cps.toList → Ev te ((wipe σ vs).set j (some (.str ⟨#[c]⟩))) H1 (.str (S [g c]))) :
    Ev (tM1 (rJoinK K) to (tLc (iStr tl') (gName j) tYes te vs)) σ H
      (.str (S (s.cps.toList.map g))) := by
  have e1 : s.cps.toList.map (fun c => V.str (S [g c])) = ((s.cps.toList.map g).map fun c => S [c]).map V.str := by simp [List.map_map, Function.comp]
  have e2 : a.length = 0 := by rw [len_tl, ha]; rfl
  have z : s.cps.toList.length = s.length := rfl
  refine ev_is (ev_join ho (el_is (el_mapS (fun c => .str (S [g c])) h hz hw he) e1) ?_) (by rw [join_S a ha])
  rw [sum_ones, e2, List.length_map, z]
  omega
end
/-- [sign.upper(), sign.lower()][int(sign.isupper())] -/
theorem at_turn {c : Nat} (hc : c ∈ sgns) : atI [V.str (Txt.upper (S [c])), V.str (Txt.lower (S [c]))] (if Txt.isupper (S [c]) then 1 else 0) = some (.str (S [con c])) := by
  rw [up1 c hc, low1 c hc, isup1 c hc]
  unfold con up lo
  by_cases h : c < 97
  · have h2 : ¬ 97 ≤ c := by omega
    rw [if_neg h2, if_neg h2, if_neg h2, decide_eq_true h]
    exact atI1
  · have h2 : 97 ≤ c := by omega
    rw [if_pos h2, if_pos h2, if_pos h2, decide_eq_false h]
    exact atI0
theorem sz_str {l m : List Nat} (h1 : l.length < 40000) (h2 : m.length < 40000) : (S l).length + (S m).length ≤ sizeLine := by
  rw [len_S, len_S]
  exact Nat.le_trans (by omega : _ ≤ 100000) (by decide)
theorem row_snoc {l : List Nat} {c : Nat} (h : Row l) (hc : c ∈ sgns) : Row (l ++ [c]) := fun d hd => by
  rcases List.mem_append.mp hd with q | q
  · exact h d q
  · rw [List.mem_singleton.mp q]; exact hc
theorem all_snoc {P : Nat → Prop} {l : List Nat} {c : Nat} (h : ∀ d ∈ l, P d) (hc : P c) : ∀ d ∈ l ++ [c], P d := fun d hd => by
  rcases List.mem_append.mp hd with q | q
  · exact h d q
  · rw [List.mem_singleton.mp q]; exact hc
theorem at_last {m : List Nat} {d : Nat} : atI (S (m ++ [d])).cps.toList (-(1 : Int)) = some d := by
  show atI (m ++ [d]) (-1) = some d
  unfold atI ixN
  have h : -(((m ++ [d]).length : Nat) : Int) ≤ -1 := by simp; omega
  rw [if_neg (by decide), if_pos h]
  have e : ((-1 : Int) + ((m ++ [d]).length : Nat)).toNat = m.length := by simp; omega
  rw [e]
  simp
theorem cut_S (l : List Nat) (lo hi : Option Int) : cutS (S l) lo hi = S ((l.drop (HT.sIx l.length 0 lo)).take (HT.sIx l.length l.length hi - HT.sIx l.length 0 lo)) := by
  unfold cutS
  rw [len_S]
theorem cut_last {m : List Nat} {d : Nat} : cutS (S (m ++ [d])) none (some (-1)) = S m := by
  rw [cut_S, HT.sIx_none]
  have e : HT.sIx (m ++ [d]).length (m ++ [d]).length (some (-1)) = m.length := by
    show (if (-1 : Int) < 0 then ((-1 : Int) + ((m ++ [d]).length : Nat)).toNat else min (-1 : Int).toNat (m ++ [d]).length) = _
    rw [if_pos (by decide)]
    simp
    omega
  rw [e, List.drop_zero, Nat.sub_zero]
  simp
theorem sz_of' {n : Nat} (h : n ≤ 100000) : n ≤ sizeLine := Nat.le_trans h (by decide)
theorem exists_snoc {α : Type} {m : List α} (h : m ≠ []) : ∃ l d, m = l ++ [d] := ⟨m.dropLast, m.getLast h, (List.dropLast_concat_getLast h).symm⟩
theorem ix_con {c : Nat} (h : c ∈ sgns) : ix (con c) / 2 = ix c / 2 := by
  have : ∀ c ∈ sgns, ix (con c) / 2 = ix c / 2 := by decide
  exact this c h
/-! ### the rank of a row, as data -/
def intsD (xs : List Nat) : List PyData := xs.map fun (c : Nat) => .int (c : Int)
def rankD (l : List Nat) : PyData := .tuple [.int l.length, .list (intsD (l.map ix))]
theorem alike_ints : ∀ xs ys : List Nat, PySem.W.alikeAll (intsD xs) (intsD ys) = true
  | [], _ => by simp [intsD, PySem.W.alikeAll]
  | _ :: _, [] => by simp [intsD, PySem.W.alikeAll]
  | x :: xs, y :: ys => by
    have ih := alike_ints xs ys
    simp only [intsD] at ih ⊢
    simp [PySem.W.alikeAll, PySem.W.alike, ih]
theorem alike_rank (l m : List Nat) : PySem.W.alike (rankD l) (rankD m) = true := by
  simp [rankD, PySem.W.alike, PySem.W.alikeAll, alike_ints]
theorem eqv_int (a b : Int) : PyData.eqv (.int a) (.int b) = decide (a = b) := by
  simp [PyData.eqv]
  by_cases h : a = b <;> simp [h]
theorem lex_ints : ∀ xs ys : List Nat, xs.length = ys.length → PyProof.Rows.lexLt PyProof.Rows.itemOrd (PySem.W.keyToksAll (intsD xs)) (PySem.W.keyToksAll (intsD ys)) = RowM.lexI xs ys
  | [], [], _ => by decide
  | [], _ :: _, h => by simp at h
  | _ :: _, [], h => by simp at h
  | x :: xs, y :: ys, h => by
    have ih := lex_ints xs ys (by simpa using h)
    show PyProof.Rows.lexLt PyProof.Rows.itemOrd (PySem.W.keyToksAll (.int (x : Int) :: intsD xs)) (PySem.W.keyToksAll (.int (y : Int) :: intsD ys)) = _
    by_cases e : x = y
    · rw [PySem.W.dataLt_all_yes rfl (by rw [eqv_int]; simp [e]), ih, RowM.lexI, if_pos e]
    · rw [PySem.W.dataLt_all_no rfl (by rw [eqv_int]; simp; omega), PySem.W.dataLt_int, RowM.lexI, if_neg e]
      congr 1
      simp
theorem eqv_list_len : ∀ xs ys : List Nat, PyData.eqvAll (intsD xs) (intsD ys) = true → xs = ys
  | [], [], _ => rfl
  | [], _ :: _, h => by simp [intsD, PyData.eqvAll] at h
  | _ :: _, [], h => by simp [intsD, PyData.eqvAll] at h
  | x :: xs, y :: ys, h => by
    have h2 : PyData.eqvAll (.int (x : Int) :: intsD xs) (.int (y : Int) :: intsD ys) = true := h
    rw [PySem.W.eqv_all_cons, Bool.and_eq_true, eqv_int] at h2
    have := eqv_list_len xs ys h2.2
    have e := of_decide_eq_true h2.1
    rw [this]
    congr 1
    omega
theorem lt_rank {l m : List Nat} : PySem.W.dataLt (rankD l) (rankD m) = RowM.before l m := by
  unfold rankD
  rw [PySem.W.dataLt_tuple]
  unfold RowM.before
  by_cases e : l.length = m.length
  · rw [if_pos e, PySem.W.dataLt_all_yes rfl (by rw [eqv_int]; simp [e])]
    by_cases q : PyData.eqv (.list (intsD (l.map ix))) (.list (intsD (m.map ix))) = true
    · rw [PySem.W.dataLt_all_yes (by rw [PySem.W.alike]; exact alike_ints _ _) q]
      have : l.map ix = m.map ix := eqv_list_len _ _ (by simpa [PyData.eqv] using q)
      rw [this]
      have z : ∀ n : List Nat, RowM.lexI n n = false := by
        intro n
        induction n with
        | nil => rfl
        | cons a n ih => simp [RowM.lexI, ih]
      rw [z]
      decide
    · rw [PySem.W.dataLt_all_no (by rw [PySem.W.alike]; exact alike_ints _ _) (by simpa using q), PySem.W.dataLt_list, lex_ints _ _ (by simpa using e)]
  · rw [if_neg e, PySem.W.dataLt_all_no rfl (by rw [eqv_int]; simp; omega), PySem.W.dataLt_int]
    congr 1
    simp
section
variable {K : PySem.W.Frag} {H : Hp}
theorem dp_ints : ∀ xs : List Nat, DpAll K H (xs.map fun (c : Nat) => V.int (c : Int)) (intsD xs)
  | [] => .nil
  | x :: xs => .cons (.int _) (dp_ints xs)
theorem dp_rank {t q : Addr} {l : List Nat} (ht : H t = some (.tup [.int l.length, .ref q])) (hq : H q = some (.lst (l.map fun c => V.int (ix c : Nat)))) : Dp K H (.ref t) (rankD l) :=
  .tup (SqT.of ht) (.cons (.int _) (.cons (.lst (SqL.of hq) (by
    have := dp_ints (K := K) (H := H) (l.map ix)
    rw [List.map_map] at this
    exact this)) .nil))
end
theorem depth_ints : ∀ xs : List Nat, PyData.depthAll (intsD xs) = 0
  | [] => rfl
  | x :: xs => by
    have := depth_ints xs
    simp only [intsD, List.map_cons, PyData.depthAll, PyData.depth] at this ⊢
    omega
theorem depth_rank (l : List Nat) : (rankD l).depth ≤ 60 := by
  simp [rankD, PyData.depth, PyData.depthAll, depth_ints]
def isRow (l : List Nat) : Bool := decide (l.length ≤ 60) && l.all fun c => decide (c ∈ sgns)
theorem isRow_iff {l : List Nat} : isRow l = true ↔ l.length ≤ 60 ∧ Row l := by
  simp [isRow, RowM.Row]
theorem turns_ok (x t : Int) (h : 1 ≤ t) : 1 ≤ (if (if t < x then t else x) > 1 then (if t < x then t else x) else 1) ∧ (if (if t < x then t else x) > 1 then (if t < x then t else x) else 1) ≤ t := by
  by_cases a : t < x
  · rw [if_pos a]
    by_cases b : t > 1
    · rw [if_pos b]; omega
    · rw [if_neg b]; omega
  · rw [if_neg a]
    by_cases b : x > 1
    · rw [if_pos b]; omega
    · rw [if_neg b]; omega
theorem at2 {α : Type} {a b : α} {v : Int} (h0 : 0 ≤ v) (h1 : v < 2) : ∃ x, atI [a, b] v = some x ∧ (x = a ∨ x = b) := by
  have : v = 0 ∨ v = 1 := by omega
  rcases this with rfl | rfl
  · exact ⟨a, atI0, .inl rfl⟩
  · exact ⟨b, atI1, .inr rfl⟩
theorem cut_to {l : List Nat} {k : Nat} (h : k ≤ l.length) : cutS (S l) none (some (k : Int)) = S (l.take k) := by
  rw [cut_S, HT.sIx_none, HT.sIx_nat, Nat.min_eq_left h, List.drop_zero, Nat.sub_zero]
theorem cut_from {l : List Nat} {k : Nat} : cutS (S l) (some (k : Int)) none = S (l.drop k) := by
  rw [cut_S, HT.sIx_none, HT.sIx_nat]
  congr 1
  by_cases h : k ≤ l.length
  · rw [Nat.min_eq_left h]
    have : (l.drop k).length = l.length - k := List.length_drop ..
    rw [← this, List.take_length]
  · have h2 : l.length ≤ k := by omega
    rw [Nat.min_eq_right h2, List.drop_eq_nil_of_le h2, Nat.sub_self, List.take_zero]
theorem str_dec {c d : Nat} : decide (V.str (S [c]) = V.str (S [d])) = decide (c = d) := by
  apply decide_eq_decide.mpr
  constructor
  · intro h
    have h1 := congrArg (fun v => match v with | V.str z => z.cps.toList | _ => []) h
    simpa using h1
  · intro h; rw [h]
theorem row_sub {l m : List Nat} (h : Row l) (s : ∀ c ∈ m, c ∈ l) : Row m := fun c hc => h c (s c hc)
theorem row_app {l m : List Nat} (h : Row l) (h2 : Row m) : Row (l ++ m) := fun c hc => by
  rcases List.mem_append.mp hc with q | q
  · exact h c q
  · exact h2 c q
theorem at2of3 {α : Type} {a b c : α} {l : List α} : atI (a :: b :: c :: l) 2 = some c := atI_nat (xs := a :: b :: c :: l) (j := 2) rfl
theorem at3 {α : Type} {a b c : α} {v : Int} (h0 : 0 ≤ v) (h1 : v < 3) : ∃ x, atI [a, b, c] v = some x ∧ (x = a ∨ x = b ∨ x = c) := by
  have : v = 0 ∨ v = 1 ∨ v = 2 := by omega
  rcases this with rfl | rfl | rfl
  · exact ⟨a, atI0, .inl rfl⟩
  · exact ⟨b, atI1, .inr (.inl rfl)⟩
  · exact ⟨c, at2of3, .inr (.inr rfl)⟩
theorem at4 {α : Type} {a b c d : α} {v : Int} (h0 : 0 ≤ v) (h1 : v < 4) : ∃ x, atI [a, b, c, d] v = some x ∧ (x = a ∨ x = b ∨ x = c ∨ x = d) := by
  have : v = 0 ∨ v = 1 ∨ v = 2 ∨ v = 3 := by omega
  rcases this with rfl | rfl | rfl | rfl
  · exact ⟨a, atI0, .inl rfl⟩
  · exact ⟨b, atI1, .inr (.inl rfl)⟩
  · exact ⟨c, at2of3, .inr (.inr (.inl rfl))⟩
  · exact ⟨d, atI_nat (xs := [a, b, c, d]) (j := 3) rfl, .inr (.inr (.inr rfl))⟩
theorem Pool.ne {H : Hp} {p d : Addr} (h : Pool H p) (hd : H d = none) : p ≠ d := fun e => by
  obtain ⟨_, _, q, _⟩ := h
  rw [e, hd] at q
  cases q
theorem Pool.new {H : Hp} {p d : Addr} {o : HO} (h : Pool H p) (hd : H d = none) : Pool (upd H d o) p := h.same (Same.new hd)
/-- what stood ahead of the pool stands -/
theorem Off.same {H0 H H' : Hp} {p : Addr} (hp : H0 p = none) (s : Same H0 H) (o : Off p H H') : Same H0 H' := fun b u e => o b u (fun q => by rw [q, hp] at e; cases e) (s b u e)
/-! ### digits -/
open NumM (numR Low)
def dg (c : Nat) : Nat := if ix c < 10 then 48 + ix c else 87 + ix c
theorem dg_at : ∀ c ∈ sgns, (Str.ofString "0123456789ab").cps.toList[ix c]? = some (dg c) := by decide +kernel
theorem dg_dv : ∀ c ∈ sgns, Db.dv (dg c) = ix c := by decide
theorem dg_rng : ∀ c ∈ sgns, (48 ≤ dg c ∧ dg c ≤ 57) ∨ (97 ≤ dg c ∧ dg c ≤ 98) := by decide
theorem num_dg {B : Nat} {l : List Nat} (h : Row l) : Db.num B (l.map dg) = NumM.val B l := by
  unfold Db.num NumM.val
  rw [List.foldl_map]
  have : ∀ (l : List Nat) (a : Nat), Row l → l.foldl (fun a c => a * B + Db.dv (dg c)) a = l.foldl (fun a c => a * B + ix c) a := by
    intro l
    induction l with
    | nil => intros; rfl
    | cons c l ih =>
      intro a hl
      rw [List.foldl_cons, List.foldl_cons, dg_dv c (RowM.Row.head hl)]
      exact ih _ (RowM.Row.tail hl)
  exact this l 0 h
theorem base_is {d : Nat} (h1 : 1 ≤ d) (h2 : d ≤ 6) : Db.Base (2 * d) := by unfold Db.Base; omega
theorem sgns_S : Str.ofString "aAbBcCdDeEfF" = S sgns := by
  refine ext_tl ?_
  have h : (Str.ofString "aAbBcCdDeEfF").cps.toList = sgns := by decide +kernel
  exact h
theorem mem_take {c k : Nat} (hc : c ∈ sgns) : (c ∈ sgns.take k) ↔ ix c < k := by
  have h : ∀ c ∈ sgns, ∀ k < 13, (c ∈ sgns.take k ↔ ix c < k) := by decide
  have h2 : ∀ c ∈ sgns, ix c < 12 := by decide
  by_cases q : k < 13
  · exact h c hc k q
  · have e : sgns.take k = sgns := List.take_of_length_le (by show 12 ≤ k; omega)
    rw [e]
    have := h2 c hc
    exact ⟨fun _ => by omega, fun _ => hc⟩

/-- a def that the caller knows: where it stands, how its arguments bind, what it promises -/
def KN (P : Program) (w : World) (K : PySem.W.Frag) (mg : Str → Option Value) (base : Heap) (k : Nat) (ps : List Str) (sp : Sp) (x : Str) (dvs : List V) : Prop :=
  ∃ (f : Addr) (fd : FuncData) (ds : List Value), mg x = some (.ref f) ∧ PySem.W.keepIn K (.ref f) = true ∧ Vals dvs ds ∧ Binds K fd ps ds ∧ FnOk P w K mg base CX0 k f fd ps sp
structure Txt (K : PySem.W.Frag) (mg : Str → Option Value) : Prop where
  b_all : mg "all" = none
  b_bool : mg "bool" = none
  b_enumerate : mg "enumerate" = none
  b_int : mg "int" = none
  b_isinstance : mg "isinstance" = none
  b_len : mg "len" = none
  b_max : mg "max" = none
  b_min : mg "min" = none
  b_range : mg "range" = none
  b_str : mg "str" = none
  g_DEEDS : ∃ u, mg "DEEDS" = some u ∧ RelV (.str "abcdef") u
  g_DIGITS : ∃ u, mg "DIGITS" = some u ∧ RelV (.str "0123456789ab") u
  g_MOST_SIGNS : ∃ u, mg "MOST_SIGNS" = some u ∧ RelV (.int 60) u
  g_SIGNS : ∃ u, mg "SIGNS" = some u ∧ RelV (.str "aAbBcCdDeEfF") u
def sp_law_pool (K : PySem.W.Frag) : Sp := fun vs H Q E => ∃ (a : Addr) (ns : List Int) (i : Int), vs = [.ref a, .int i] ∧ (SqL K H a (ns.map V.int)) ∧ (0 ≤ i) ∧ (i < 1000) ∧ ∀ (p : Addr) (H' : Hp), H p = none → Same H H' → Pool H' p → Q (.ref p) H'
def sp_law_take : Sp := fun vs H Q E => ∃ (p : Addr) (m : Int), vs = [.ref p, .int m] ∧ (Pool H p) ∧ (0 < m) ∧ (m < 18446744073709551616) ∧ ∀ (v : Int) (H' : Hp), 0 ≤ v → v < m → Off p H H' → Pool H' p → Q (.int v) H'
def sp_is_whole : Sp := fun vs H Q E => ∃ (i : Int), vs = [.int i] ∧ ∀ H' : Hp, Same H H' → Q (.bl true) H'
def sp_look_at_deeds : Sp := fun vs H Q E => ∃ (d m : Int), vs = [.int d, .int m] ∧ (1 ≤ d) ∧ (d ≤ m) ∧ ∀ H' : Hp, Same H H' → Q .non H'
def sp_row_at : Sp := fun vs H Q E => ∃ (n d : Nat), vs = [.int (n : Int), .int (d : Int)] ∧ (1 ≤ d) ∧ (d ≤ 6) ∧ (n < NumM.ones (2 * d) 61) ∧ ∀ (l : List Nat) (H' : Hp), Row l → l.length ≤ 60 → Low (2 * d) l → numR (2 * d) l = n → Same H H' → Q (.str (S l)) H'
def sp_law_turned : Sp := fun vs H Q E => ∃ (l : List Nat), vs = [.str (S l)] ∧ (Row l) ∧ (l.length ≤ 40000) ∧ ∀ H' : Hp, Same H H' → Q (.str (S (RowM.turn l))) H'
def sp_law_row : Sp := fun vs H Q E => ∃ (p : Addr) (most deeds : Int), vs = [.ref p, .int most, .int deeds] ∧ (Pool H p) ∧ (0 ≤ most) ∧ (most ≤ 1000) ∧ (1 ≤ deeds) ∧ (deeds ≤ 6) ∧ ∀ (l : List Nat) (H' : Hp), Row l → (l.length : Int) ≤ most → (∀ c ∈ l, (ix c : Int) < 2 * deeds) → Off p H H' → Pool H' p → Q (.str (S l)) H'
def sp_is_row_within : Sp := fun vs H Q E => ∃ (l : List Nat) (most : Int), vs = [.str (S l), .int most] ∧ (l.length ≤ 40000) ∧ ∀ H' : Hp, Same H H' → Q (.bl (decide ((l.length : Int) ≤ most) && l.all fun c => decide (c ∈ sgns))) H'
def sp_is_row : Sp := fun vs H Q E => ∃ (l : List Nat), vs = [.str (S l)] ∧ (l.length ≤ 40000) ∧ ∀ H' : Hp, Same H H' → Q (.bl (isRow l)) H'
def sp_look_at_row : Sp := fun vs H Q E => ∃ (l : List Nat), vs = [.str (S l)] ∧ (isRow l = true) ∧ ∀ H' : Hp, Same H H' → Q .non H'
def sp_rank : Sp := fun vs H Q E => ∃ (l : List Nat), vs = [.str (S l)] ∧ (Row l) ∧ (l.length ≤ 40000) ∧ ∀ (t q : Addr) (H' : Hp), Same H H' → H t = none → H' t = some (.tup [.int l.length, .ref q]) → H' q = some (.lst (l.map fun c => V.int (ix c : Nat))) → Q (.ref t) H'
def sp_before : Sp := fun vs H Q E => ∃ (l m : List Nat), vs = [.str (S l), .str (S m)] ∧ (isRow l = true) ∧ (isRow m = true) ∧ ∀ H' : Hp, Same H H' → Q (.bl (RowM.before l m)) H'
def sp_number_of : Sp := fun vs H Q E => ∃ (l : List Nat) (d : Nat), vs = [.str (S l), .int (d : Int)] ∧ (isRow l = true) ∧ (1 ≤ d) ∧ (d ≤ 6) ∧ (Low (2 * d) l) ∧ ∀ H' : Hp, Same H H' → Q (.int (numR (2 * d) l : Nat)) H'
def sp_contrary_sign : Sp := fun vs H Q E => ∃ (c : Nat), vs = [.str (S [c])] ∧ (c ∈ sgns) ∧ ∀ H' : Hp, Same H H' → Q (.str (S [con c])) H'
def sp_turned : Sp := fun vs H Q E => ∃ (l : List Nat), vs = [.str (S l)] ∧ (Row l) ∧ (l.length ≤ 40000) ∧ ∀ H' : Hp, Same H H' → Q (.str (S (RowM.turn l))) H'
def sp_contrary : Sp := fun vs H Q E => ∃ (l : List Nat), vs = [.str (S l)] ∧ (isRow l = true) ∧ ∀ H' : Hp, Same H H' → Q (.str (S (RowM.turn l))) H'
def sp_law (K : PySem.W.Frag) : Sp := fun vs H Q E => ∃ (a : Addr) (ns : List Int), vs = [.ref a] ∧ (SqL K H a (ns.map V.int)) ∧ (ns.length ≤ 63) ∧ ∀ H', Q (.bl true) H'
section
variable {P : Program} {w : World} {K : PySem.W.Frag} {mg : Str → Option Value} {base : Heap}
theorem sc_law_pool : FnScope ["_law_script", "_law_k", "_law_cell", "_law_number"] ["_law_script", "_law_k"] (defScope s_law_pool) := ⟨rfl, rfl, rfl, by decide +kernel, rfl, by decide +kernel, by decide +kernel⟩
theorem ok_law_pool {f : Addr} {fd : FuncData} (F : Fun K "_law_pool" "_law_pool" s_law_pool f fd) (T : Txt K mg) : FnOk P w K mg base CX0 1 f fd ["_law_script", "_law_k"] (sp_law_pool K) := by
  refine F.ok sc_law_pool (fun vs H Q E h => ?_) (fun cdv A outer s H vs Q E hr h => ?_)
  · obtain ⟨a, ns, i, rfl, _⟩ := h
    all_goals rfl
  · obtain ⟨a, ns, i, rfl, ha, h0, h1, k⟩ := h
    refine ⟨_, (pss_cons (ps_set (i := 2) sc_law_pool.nd rfl (Or.inl rfl) pe_int)
    (pss_cons (ps_if (pt_cmpR op_lt (pv 1) (pe_callB (call_lenK (K := K)) (by rfl) T.b_len (by decide +kernel) (pa_cons (pv 0) pa_nil)) (nomark _)) (pss_one (ps_set (i := 2) sc_law_pool.nd rfl (Or.inl rfl) (pe_ix (ix_listK (K := K)) (pv 0) (pv 1) (fun _ _ => rfl)))) pss_nil)
    (pss_cons (ps_set (i := 3) sc_law_pool.nd rfl (Or.inl rfl) (pe_op op_mod (pe_op op_pow (pe_op op_add (pe_op op_add (pe_op op_mod (pv 2) pe_int) (pe_op op_mul (pe_op op_mul pe_int (pv 1)) (pv 1))) pe_int) pe_int) pe_int))
    (pss_cons (ps_if (pt_cmpR op_lt (pv 2) (pe_op op_pow pe_int pe_int) (nomark _)) (pss_one (ps_set (i := 2) sc_law_pool.nd rfl (Or.inl rfl) pe_int)) pss_nil)
    (pss_one (ps_ret (pe_lst (pa_cons (pv 2) (pa_cons (pv 3) pa_nil))))))))), ?_⟩
    have go : ∀ c : Int, tSeq (tAsg (tOp (rI (fun x j => 0 < j) fun i j => V.int (i % j))
                (tOp (rI CPow fun i j => V.int (i ^ j.toNat))
                  (tOp (rI0 fun i j => V.int (i + j))
                    (tOp (rI0 fun i j => V.int (i + j))
                      (tOp (rI (fun x j => 0 < j) fun i j => V.int (i % j)) (tVar 2) (tC (V.int 2147483629)))
                      (tOp (rI CMul fun i j => V.int (i * j))
                        (tOp (rI CMul fun i j => V.int (i * j)) (tC (V.int 104729)) (tVar 1)) (tVar 1)))
                    (tC (V.int 11)))
                  (tC (V.int 3)))
                (tC (V.int 2147483647)))
              (gName 3))
            (tSeq
              (tIfS
                (tTest
                  (tOp (rI0 fun i j => V.bl (decide (i < j))) (tVar 2)
                    (tOp (rI CPow fun i j => V.int (i ^ j.toNat)) (tC (V.int 10)) (tC (V.int 18)))))
                (tAsg (tC (V.int 0)) (gName 2)) tNext)
              (tRet (tLst (tCons (tVar 2) (tCons (tVar 3) tNil))))) { nx := fun x H' => Q V.non H', rt := Q } [some (.ref a), some (.int i), some (.int c), none] H := fun c => by
        have z0 : 0 ≤ c % 2147483629 := Int.emod_nonneg _ (by decide)
        have z1 : c % 2147483629 < 2147483629 := Int.emod_lt_of_pos _ (by decide)
        have m0 : 0 ≤ i * i := Int.mul_nonneg h0 h0
        have m1 : i * i < 1000000 := by
          have : i * i ≤ 999 * 999 := Int.mul_le_mul (by omega) (by omega) h0 (by decide)
          omega
        have ea : 104729 * i * i = 104729 * (i * i) := Int.mul_assoc _ _ _
        refine ⟨_, rfl, _, _, rfl, rfl, (by show (0 : Int) < 2147483629; decide), _, rfl, _, _, rfl, rfl, .inl ⟨by decide, by decide⟩, _, rfl, _, _, rfl, rfl, .inr ⟨by omega, by omega⟩, _, _, rfl, rfl, _, _, rfl, rfl, _, _, rfl, rfl, ⟨by decide, by decide, by omega⟩, _, _, rfl, rfl, (by show (0 : Int) < 2147483647; decide), ?_⟩
        have y0 : 0 ≤ ((c % 2147483629 + 104729 * i * i + 11) ^ (3 : Int).toNat) % 2147483647 := Int.emod_nonneg _ (by decide)
        have y1 : ((c % 2147483629 + 104729 * i * i + 11) ^ (3 : Int).toNat) % 2147483647 < 2147483647 := Int.emod_lt_of_pos _ (by decide)
        refine ⟨_, rfl, _, _, rfl, rfl, ⟨by decide, by decide, by decide⟩, _, _, rfl, rfl, _, rfl, ?_⟩
        refine ite2 (fun _ => ?_) (fun _ => ?_)
        · exact ⟨_, rfl, _, rfl, (by show 2 ≤ sizeLine; decide), fun p hp => k p _ hp (Same.new hp) ⟨_, _, upd_same, y0, y1⟩⟩
        · exact ⟨_, rfl, _, rfl, (by show 2 ≤ sizeLine; decide), fun p hp => k p _ hp (Same.new hp) ⟨_, _, upd_same, y0, y1⟩⟩
    refine ⟨_, rfl, _, rfl, _, _, rfl, .inl ha, _, _, rfl, rfl, _, rfl, ?_⟩
    refine ite2 (fun q => ?_) (fun _ => go 0)
    have hl : i < (ns.length : Int) := by
      have q := of_decide_eq_true q
      rw [List.length_map] at q
      exact q
    obtain ⟨j, rfl⟩ : ∃ j : Nat, i = (j : Int) := ⟨i.toNat, by omega⟩
    have hj : j < ns.length := by omega
    refine ⟨_, rfl, _, rfl, _, _, _, _, rfl, rfl, ha, atI_nat (by rw [List.getElem?_map, List.getElem?_eq_getElem hj]; rfl), go _⟩
theorem sc_law_take : FnScope ["_law_pool_here", "_law_many", "_law_found"] ["_law_pool_here", "_law_many"] (defScope s_law_take) := ⟨rfl, rfl, rfl, by decide +kernel, rfl, by decide +kernel, by decide +kernel⟩
theorem ok_law_take {f : Addr} {fd : FuncData} (F : Fun K "_law_take" "_law_take" s_law_take f fd) (T : Txt K mg) : FnOk P w K mg base CX0 1 f fd ["_law_pool_here", "_law_many"] (sp_law_take) := by
  refine F.ok sc_law_take (fun vs H Q E h => ?_) (fun cdv A outer s H vs Q E hr h => ?_)
  · obtain ⟨p, m, rfl, _⟩ := h
    all_goals rfl
  · obtain ⟨p, m, rfl, hp, h0, h1, k⟩ := h
    refine ⟨_, (pss_cons (ps_if (pt_cmpR op_gt (pe_ix (ix_listK (K := K)) (pv 0) pe_int (fun _ _ => rfl)) pe_int (nomark _)) (pss_cons (ps_set (i := 2) sc_law_take.nd rfl (Or.inl rfl) (pe_op op_mod (pe_ix (ix_listK (K := K)) (pv 0) pe_int (fun _ _ => rfl)) (pv 1)))
    (pss_cons (ps_asg (pe_op op_fdivW (pe_ix (ix_listK (K := K)) (pv 0) pe_int (fun _ _ => rfl)) (pv 1)) (pg_sub (pv 0) pe_int set_list))
    (pss_one (ps_ret (pv 2))))) pss_nil)
    (pss_cons (ps_asg (pe_op op_mod (pe_op op_add (pe_op op_mul (pe_ix (ix_listK (K := K)) (pv 0) pe_int (fun _ _ => rfl)) pe_int) pe_int) pe_int) (pg_sub (pv 0) pe_int set_list))
    (pss_one (ps_ret (pe_op op_mod (pe_op op_fdiv (pe_op op_mod (pe_op op_mul (pe_ix (ix_listK (K := K)) (pv 0) pe_int (fun _ _ => rfl)) (pe_ix (ix_listK (K := K)) (pv 0) pe_int (fun _ _ => rfl))) pe_int) pe_int) (pv 1)))))), ?_⟩
    obtain ⟨c, n, hp, n0, n1⟩ := hp
    refine ⟨_, rfl, _, _, _, _, rfl, rfl, SqL.of hp, atI0, _, _, rfl, rfl, _, rfl, ?_⟩
    refine ite2 (fun _ => ?_) (fun _ => ?_)
    · refine ⟨_, rfl, _, _, _, _, rfl, rfl, SqL.of hp, atI0, _, rfl, _, _, rfl, rfl, h0, ?_⟩
      refine ⟨_, rfl, _, _, _, _, rfl, rfl, SqL.of hp, atI0, _, rfl, _, _, rfl, rfl, wide_div h0 (b := 64) (by omega) (by decide) (by decide), _, rfl, _, _, _, 0, rfl, rfl, hp, rfl, ?_⟩
      exact ⟨_, rfl, k _ _ (Int.emod_nonneg _ (by omega)) (Int.emod_lt_of_pos _ h0) (Off.upd (Off.refl _ _)) ⟨_, n, upd_same, n0, n1⟩⟩
    · refine ⟨_, rfl, _, _, _, _, rfl, rfl, SqL.of hp, atI1, _, _, rfl, rfl, .inr ⟨by decide, by decide⟩, _, _, rfl, rfl, _, _, rfl, rfl, (by show (0 : Int) < 2147483647; decide), _, rfl, _, _, _, 1, rfl, rfl, hp, rfl, ?_⟩
      have z0 : 0 ≤ (n * 48271 + 11) % 2147483647 := Int.emod_nonneg _ (by decide)
      have z1 : (n * 48271 + 11) % 2147483647 < 2147483647 := Int.emod_lt_of_pos _ (by decide)
      refine ⟨_, rfl, _, _, _, _, rfl, rfl, SqL.of upd_same, atI1, _, rfl, _, _, _, _, rfl, rfl, SqL.of upd_same, atI1, _, _, rfl, rfl, .inl ⟨by omega, by omega⟩, _, _, rfl, rfl, (by show (0 : Int) < 2147483629; decide), _, _, rfl, rfl, ⟨by decide, by decide⟩, _, rfl, _, _, rfl, rfl, h0, ?_⟩
      exact k _ _ (Int.emod_nonneg _ (by omega)) (Int.emod_lt_of_pos _ h0) (Off.upd (Off.refl _ _)) ⟨_, _, upd_same, z0, z1⟩
theorem sc_is_whole : FnScope ["thing"] ["thing"] (defScope s_is_whole) := ⟨rfl, rfl, rfl, by decide +kernel, rfl, by decide +kernel, by decide +kernel⟩
theorem ok_is_whole {f : Addr} {fd : FuncData} (F : Fun K "is_whole" "is_whole" s_is_whole f fd) (T : Txt K mg) : FnOk P w K mg base CX0 1 f fd ["thing"] (sp_is_whole) := by
  refine F.ok sc_is_whole (fun vs H Q E h => ?_) (fun cdv A outer s H vs Q E hr h => ?_)
  · obtain ⟨i, rfl, _⟩ := h
    all_goals rfl
  · obtain ⟨i, rfl, k⟩ := h
    refine ⟨_, (pss_one (ps_ret (pe_and (pe_callB (call_isiK1 (K := K)) (by rfl) T.b_isinstance (by decide +kernel) (pa_cons (pv 0) (pa_cons (pe_bltn (v := .ty "int") (by rfl) T.b_int (by decide +kernel) rfl) pa_nil))) (pe_one (pe_not (pe_callB (call_isiK1 (K := K)) (by rfl) T.b_isinstance (by decide +kernel) (pa_cons (pv 0) (pa_cons (pe_bltn (v := .ty "bool") (by rfl) T.b_bool (by decide +kernel) rfl) pa_nil)))))))), ?_⟩
    refine Evl.s_ret (Evl.ev_andV (a := true) (b := true) (Evl.ev_isi (Evl.ev_var rfl) Evl.ev_c (.ty "int") (fun _ _ => .base (.int _)) (kit_ty (r := true) (by decide +kernel)))
      (fun _ => Evl.ev_notV (a := false) (Evl.ev_isi (Evl.ev_var rfl) Evl.ev_c (.ty "bool") (fun _ _ => .base (.int _)) (kit_ty (r := false) (by decide +kernel))))) fun H1 e => k H1 e
theorem sc_look_at_deeds : FnScope ["deeds", "most"] ["deeds", "most"] (defScope s_look_at_deeds) := ⟨rfl, rfl, rfl, by decide +kernel, rfl, by decide +kernel, by decide +kernel⟩
theorem ok_look_at_deeds {f : Addr} {fd : FuncData} (F : Fun K "look_at_deeds" "look_at_deeds" s_look_at_deeds f fd) (T : Txt K mg) (kn_is_whole : KN P w K mg base 1 ["thing"] (sp_is_whole) "is_whole" []) : FnOk P w K mg base CX0 2 f fd ["deeds", "most"] (sp_look_at_deeds) := by
  obtain ⟨f_is_whole, fd_is_whole, ds_is_whole, m_is_whole, k_is_whole, v_is_whole, b_is_whole, G_is_whole⟩ := kn_is_whole
  refine F.ok sc_look_at_deeds (fun vs H Q E h => ?_) (fun cdv A outer s H vs Q E hr h => ?_)
  · obtain ⟨d, m, rfl, _⟩ := h
    all_goals rfl
  · obtain ⟨d, m, rfl, h0, h1, k⟩ := h
    refine ⟨_, (pss_one (ps_if (PW.pt (pw_or (pt_not (pt_val (pe_call G_is_whole (hr.mono (by decide)) rfl m_is_whole k_is_whole b_is_whole v_is_whole pass0 (pa_cons (pv 0) pa_nil)))) (pw_or1 (pt_not (pt_chain op_le op_le pe_int (pv 0) (pv 1)))))) (pss_one ps_never) pss_nil)), ?_⟩
    refine ⟨_, rfl, d, rfl, fun H1 s1 => ⟨_, rfl, iteF ?_⟩⟩
    refine ⟨_, rfl, _, _, rfl, rfl, _, rfl, ?_⟩
    rw [decide_eq_true h0]
    refine iteT ⟨_, rfl, _, _, rfl, rfl, _, rfl, ?_⟩
    rw [decide_eq_true h1]
    exact iteF (k H1 s1)
theorem sc_row_at : FnScope ["number", "deeds", "base", "left", "many", "length", "found", "place"] ["number", "deeds"] (defScope s_row_at) := ⟨rfl, rfl, rfl, by decide +kernel, rfl, by decide +kernel, by decide +kernel⟩
theorem ok_row_at {f : Addr} {fd : FuncData} (F : FunD K "row_at" "row_at" (defArgs s_row_at) (defBody s_row_at) (defScope s_row_at) [.int 2] [] f fd) (T : Txt K mg) (kn_look_at_deeds : KN P w K mg base 2 ["deeds", "most"] (sp_look_at_deeds) "look_at_deeds" []) (kn_is_whole : KN P w K mg base 1 ["thing"] (sp_is_whole) "is_whole" []) : FnOk P w K mg base CX0 3 f fd ["number", "deeds"] (sp_row_at) := by
  obtain ⟨f_look_at_deeds, fd_look_at_deeds, ds_look_at_deeds, m_look_at_deeds, k_look_at_deeds, v_look_at_deeds, b_look_at_deeds, G_look_at_deeds⟩ := kn_look_at_deeds
  obtain ⟨f_is_whole, fd_is_whole, ds_is_whole, m_is_whole, k_is_whole, v_is_whole, b_is_whole, G_is_whole⟩ := kn_is_whole
  refine F.ok0 sc_row_at (fun vs H Q E h => ?_) (fun cdv A outer s H vs Q E hr h => ?_)
  · obtain ⟨n, d, rfl, _⟩ := h
    all_goals rfl
  · obtain ⟨n, d, rfl, d0, d1, hn, k⟩ := h
    refine ⟨_, (pss_cons (ps_expr (pe_call G_look_at_deeds (hr.mono (by decide)) rfl m_look_at_deeds k_look_at_deeds b_look_at_deeds v_look_at_deeds pass0 (pa_cons (pv 1) (pa_cons (pe_callB call_len_str (by rfl) T.b_len (by decide +kernel) (pa_cons (pe_globC T.g_DEEDS) pa_nil)) pa_nil))))
    (pss_cons (ps_if (PW.pt (pw_or (pt_not (pt_val (pe_call G_is_whole (hr.mono (by decide)) rfl m_is_whole k_is_whole b_is_whole v_is_whole pass0 (pa_cons (pv 0) pa_nil)))) (pw_or1 (pt_cmpR op_lt (pv 0) pe_int (nomark _))))) (pss_one ps_never) pss_nil)
    (pss_cons (ps_set (i := 2) sc_row_at.nd rfl (Or.inl rfl) (pe_op op_mul pe_int (pv 1)))
    (pss_cons (ps_par3 (i := 3) (j := 4) (l := 5) rfl sc_row_at.nd rfl rfl rfl (by decide) (by decide) (by decide) rfl rfl rfl (pa_cons (pv 0) (pa_cons pe_int (pa_cons pe_int pa_nil))) (by rfl))
    (pss_cons (ps_while PassesOwn.never (pt_cmpR op_ge (pv 3) (pv 4) (nomark _)) (pss_cons (ps_aug (i := 3) sc_row_at.nd rfl (Or.inl rfl) (pv 4) iop_sub)
    (pss_cons (ps_aug (i := 4) sc_row_at.nd rfl (Or.inl rfl) (pv 2) iop_mul)
    (pss_cons (ps_aug (i := 5) sc_row_at.nd rfl (Or.inl rfl) pe_int iop_add)
    (pss_one (ps_if (pt_cmpR op_gt (pv 5) (pe_globC T.g_MOST_SIGNS) (nomark _)) (pss_one ps_never) pss_nil))))))
    (pss_cons (ps_set (i := 6) sc_row_at.nd rfl (Or.inl rfl) pe_str)
    (pss_cons (ps_for PassesOwn.never rfl (pi_range1 (by rfl) T.b_range (pa_cons (pv 5) pa_nil)) (pg_name (i := 7) sc_row_at.nd rfl (Or.inl rfl)) (pss_cons (ps_set (i := 6) sc_row_at.nd rfl (Or.inl rfl) (pe_op op_add_str (pe_ix ix_str (pe_globC T.g_SIGNS) (pe_op op_mod (pv 3) (pv 2)) (fun _ _ => rfl)) (pv 6)))
    (pss_one (ps_aug (i := 3) sc_row_at.nd rfl (Or.inl rfl) (pv 2) iop_fdiv))))
    (pss_one (ps_ret (pv 6)))))))))), ?_⟩
    refine ⟨_, rfl, _, rfl, (by decide), (d : Int), _, rfl, (by omega), (by show (d : Int) ≤ 6; omega), fun H1 s1 => ?_⟩
    refine ⟨_, rfl, (n : Int), rfl, fun H2 s2 => ⟨_, rfl, iteF ?_⟩⟩
    refine ⟨_, rfl, _, _, rfl, rfl, _, rfl, ?_⟩
    have nn : decide ((n : Int) < 0) = false := decide_eq_false (by omega)
    rw [nn]
    refine iteF ?_
    refine ⟨_, rfl, _, _, rfl, rfl, .inl ⟨by decide, by decide⟩, ?_⟩
    refine ⟨_, rfl, _, _, _, rfl, ?_⟩
    have eb : (2 * (d : Int)) = ((2 * d : Nat) : Int) := by omega
    refine Evl.q_while (fun m σ H' => ∃ (len left : Nat) (x y : Option V), σ = [some (.int (n : Int)), some (.int (d : Int)), some (.int (2 * (d : Int))), some (.int (left : Int)), some (.int (((2 * d) ^ len : Nat) : Int)), some (.int (len : Int)), x, y] ∧
        left + NumM.ones (2 * d) len = n ∧ len ≤ 60 ∧ m = 61 - len ∧ Same H H') 61 ⟨0, n, none, none, rfl, by simp [NumM.ones], by omega, rfl, Same.trans s1 s2⟩ ?_
    rintro m σ H3 ⟨len, left, x, y, rfl, hl, h60, rfl, s3⟩
    refine ⟨_, Evl.et_test (Evl.ev_op (Evl.ev_var rfl) (Evl.ev_var rfl) Evl.rv_I0), fun q H4 e4 => ?_, fun q H4 e4 => ?_⟩
    · have q2 : (2 * d) ^ len ≤ left := by
        have := of_decide_eq_true q
        omega
      have op := NumM.ones_pow (2 * d) len
      have l60 : len + 1 ≤ 60 := by
        have op60 : NumM.ones (2 * d) 61 = NumM.ones (2 * d) 60 + (2 * d) ^ 60 := NumM.ones_pow _ 60
        by_cases z : len = 60
        · subst z
          omega
        · omega
      refine ⟨_, fun σ2 H2 h => ⟨61 - (len + 1), by omega, h⟩, ?_⟩
      refine ⟨_, rfl, _, rfl, _, _, rfl, rfl, _, rfl, _, rfl, _, _, rfl, rfl, .inr ⟨by omega, by omega⟩, _, rfl, _, _, rfl, rfl, ?_⟩
      have es : (left : Int) - (((2 * d) ^ len : Nat) : Int) = ((left - (2 * d) ^ len : Nat) : Int) := by omega
      have em : (((2 * d) ^ len : Nat) : Int) * (2 * (d : Int)) = (((2 * d) ^ (len + 1) : Nat) : Int) := by
        rw [Nat.pow_succ, Int.natCast_mul ((2 * d) ^ len), eb]
      refine ⟨_, rfl, _, _, rfl, rfl, _, rfl, ?_⟩
      have nl : decide ((60 : Int) < (len : Int) + 1) = false := decide_eq_false (by omega)
      rw [nl]
      refine iteF ⟨len + 1, left - (2 * d) ^ len, x, y, ?_, by omega, l60, rfl, Same.trans s3 e4⟩
      rw [← es, ← em]
      rfl
    have q2 : left < (2 * d) ^ len := by
      have := of_decide_eq_false q
      omega
    refine ⟨_, rfl, _, rfl, by omega, by omega, for_range (lo := 0) (n := _) (fun i σ H' => ∃ (l : List Nat) (r : Nat) (z : Option V), σ = [some (.int (n : Int)), some (.int (d : Int)), some (.int (2 * (d : Int))), some (.int (r : Int)), some (.int (((2 * d) ^ len : Nat) : Int)), some (.int (len : Int)), some (.str (S l)), z] ∧
        Row l ∧ Low (2 * d) l ∧ l.length = i ∧ NumM.val (2 * d) l + r * (2 * d) ^ i = left ∧ Same H H') ⟨[], left, y, rfl, RowM.nil_row, (by intro c q; cases q), rfl, by simp [NumM.val], Same.trans s3 e4⟩ ?_ ?_⟩
    · rintro i σ H5 hi ⟨l, r, z, rfl, rl, low, zl, hv, s5⟩
      have b0 : (0 : Int) < 2 * (d : Int) := by omega
      obtain ⟨c, hc, sc, ic⟩ := sign_of_at (i := (r : Int) % (2 * (d : Int))) (Int.emod_nonneg _ (by omega)) (by have := Int.emod_lt_of_pos (r : Int) b0; omega) rfl
      refine ⟨_, rfl, _, rfl, _, _, rfl, rfl, b0, _, _, c, rfl, rfl, (by decide), hc, _, rfl, _, _, rfl, rfl, sz_str (l := [c]) (by simp) (by omega), ?_⟩
      rw [add_S]
      refine ⟨_, rfl, _, rfl, _, _, rfl, rfl, ⟨b0, by omega⟩, ?_⟩
      have ic2 : ix c = r % (2 * d) := by
        have : ((r % (2 * d) : Nat) : Int) = (r : Int) % (2 * (d : Int)) := by rw [eb]; exact Int.natCast_emod ..
        omega
      have ed : (r : Int) / (2 * (d : Int)) = ((r / (2 * d) : Nat) : Int) := by rw [eb]; exact (Int.natCast_ediv ..).symm
      refine ⟨[c] ++ l, r / (2 * d), some (.int (0 + i)), (by rw [← ed]; rfl), (fun e he => ?_), (fun e he => ?_), (by simp [zl]), ?_, s5⟩
      · rcases List.mem_cons.mp he with rfl | he
        · exact sc
        · exact rl e he
      · rcases List.mem_cons.mp he with rfl | he
        · rw [ic2]; exact Nat.mod_lt _ (by omega)
        · exact low e he
      · show NumM.val (2 * d) (c :: l) + _ = left
        rw [NumM.val_cons, zl, ic2, Nat.pow_succ, ← hv]
        have e1 : r / (2 * d) * ((2 * d) ^ i * (2 * d)) = (2 * d) * (r / (2 * d)) * (2 * d) ^ i := by
          rw [Nat.mul_comm ((2 * d) ^ i), ← Nat.mul_assoc, Nat.mul_comm (r / (2 * d))]
        have e2 : r * (2 * d) ^ i = (2 * d) * (r / (2 * d)) * (2 * d) ^ i + r % (2 * d) * (2 * d) ^ i := by
          rw [← Nat.add_mul, Nat.div_add_mod]
        omega
    · rintro σ H5 ⟨l, r, z, rfl, rl, low, zl, hv, s5⟩
      have zl2 : l.length = len := by rw [zl]; simp
      have el : ((len : Int)).toNat = len := by simp
      rw [el] at hv
      have r0 : r = 0 := by
        by_cases h : r = 0
        · exact h
        · have : 1 * (2 * d) ^ len ≤ r * (2 * d) ^ len := Nat.mul_le_mul_right _ (by omega)
          omega
      subst r0
      refine ⟨_, rfl, k l H5 rl (by omega) low ?_ s5⟩
      unfold numR
      rw [zl2]
      omega
theorem sc_law_turned : FnScope ["_law_text", "_law_sign"] ["_law_text"] (defScope s_law_turned) := ⟨rfl, rfl, rfl, by decide +kernel, rfl, by decide +kernel, by decide +kernel⟩
theorem ok_law_turned {f : Addr} {fd : FuncData} (F : Fun K "_law_turned" "_law_turned" s_law_turned f fd) (T : Txt K mg) : FnOk P w K mg base CX0 1 f fd ["_law_text"] (sp_law_turned) := by
  refine F.ok sc_law_turned (fun vs H Q E h => ?_) (fun cdv A outer s H vs Q E hr h => ?_)
  · obtain ⟨l, rfl, _⟩ := h
    all_goals rfl
  · obtain ⟨l, rfl, hl, hz, k⟩ := h
    refine ⟨_, (pss_one (ps_ret (pe_m1 PySem.F.slot_str_join PySem.F.type_str_join (mt_joinK (K := K)) pe_str (pe_lc (own := [("_law_sign", 1)]) (g := gName 1) (tt := tYes) rfl sc_law_turned.nd (pi_str (pe_revS (pv 0))) (blkOk_by (own := [("_law_sign", 1)]) (N := ["_law_text", "_law_sign"]) (sc := defScope s_law_turned) (by decide +kernel)) (fun _ _ _ _ _ => (pg_name (i := 1) sc_law_turned.nd rfl (Or.inl rfl))) (fun _ _ _ _ _ => pts_nil) (fun _ _ _ _ _ => (pe_ix (ix_listK (K := K)) (pe_lst (pa_cons (pe_upper (pv 1)) (pa_cons (pe_lower (pv 1)) pa_nil))) (pe_callTy call_int1 (by rfl) T.b_int (by decide +kernel) (pa_cons (pe_m0 PySem.F.slot_str_isupper PySem.F.type_str_isupper mt_isupper (pv 1)) pa_nil)) (fun _ _ => rfl))))))), ?_⟩
    refine Evl.s_ret (Evl.ev_is (ev_joinMap con Evl.ev_c (by decide) (Evl.ev_revS (Evl.ev_var rfl) (by rw [len_S]; omega)) (by show (S l.reverse).length ≤ _; rw [len_S, List.length_reverse]; omega) (fun _ => rfl) (fun c H1 e hc => ?_)) rfl) fun H1 e => k H1 e
    have hc : c ∈ sgns := hl c (List.mem_reverse.mp hc)
    exact Evl.ev_ixNew (Evl.el_lst (Evl.ea_cons (Evl.ev_m0 (Evl.ev_var rfl) one_le) (Evl.ea_cons (Evl.ev_m0 (Evl.ev_var rfl) one_le) Evl.ea_nil)) (by show 2 ≤ _; decide)) (fun H1 e => Evl.ev_intB (Evl.ev_m0 (Evl.ev_var rfl) trivial)) (at_turn hc)
theorem sc_law_row : FnScope ["_law_pool_here", "_law_most", "_law_deeds", "_law_way", "_law_found", "_law_left", "_law_k", "_law_sign"] ["_law_pool_here", "_law_most", "_law_deeds"] (defScope s_law_row) := ⟨rfl, rfl, rfl, by decide +kernel, rfl, by decide +kernel, by decide +kernel⟩
theorem ok_law_row {f : Addr} {fd : FuncData} (F : Fun K "_law_row" "_law_row" s_law_row f fd) (T : Txt K mg) (kn_law_take : KN P w K mg base 1 ["_law_pool_here", "_law_many"] (sp_law_take) "_law_take" []) (kn_law_turned : KN P w K mg base 1 ["_law_text"] (sp_law_turned) "_law_turned" []) : FnOk P w K mg base CX0 2 f fd ["_law_pool_here", "_law_most", "_law_deeds"] (sp_law_row) := by
  obtain ⟨f_law_take, fd_law_take, ds_law_take, m_law_take, k_law_take, v_law_take, b_law_take, G_law_take⟩ := kn_law_take
  obtain ⟨f_law_turned, fd_law_turned, ds_law_turned, m_law_turned, k_law_turned, v_law_turned, b_law_turned, G_law_turned⟩ := kn_law_turned
  refine F.ok sc_law_row (fun vs H Q E h => ?_) (fun cdv A outer s H vs Q E hr h => ?_)
  · obtain ⟨p, most, deeds, rfl, _⟩ := h
    all_goals rfl
  · obtain ⟨p, most, deeds, rfl, hp, m0, m1, d0, d1, k⟩ := h
    refine ⟨_, (pss_cons (ps_set (i := 3) sc_law_row.nd rfl (Or.inl rfl) (pe_call G_law_take (hr.mono (by decide)) rfl m_law_take k_law_take b_law_take v_law_take pass0 (pa_cons (pv 0) (pa_cons pe_int pa_nil))))
    (pss_cons (ps_set (i := 4) sc_law_row.nd rfl (Or.inl rfl) pe_str)
    (pss_cons (ps_set (i := 5) sc_law_row.nd rfl (Or.inl rfl) pe_str)
    (pss_cons (ps_for PassesOwn.never rfl (pi_range1 (by rfl) T.b_range (pa_cons (pe_call G_law_take (hr.mono (by decide)) rfl m_law_take k_law_take b_law_take v_law_take pass0 (pa_cons (pv 0) (pa_cons (pe_op op_add (pv 1) pe_int) pa_nil))) pa_nil)) (pg_name (i := 6) sc_law_row.nd rfl (Or.inl rfl)) (pss_cons (ps_set (i := 7) sc_law_row.nd rfl (Or.inl rfl) (pe_ix ix_str pe_str (pe_call G_law_take (hr.mono (by decide)) rfl m_law_take k_law_take b_law_take v_law_take pass0 (pa_cons (pv 0) (pa_cons (pe_op op_mul pe_int (pv 2)) pa_nil))) (fun _ _ => rfl)))
    (Evl.pss_cut (ps_if (PW.pt (pw_and (pt_cmpR op_gt (pv 3) pe_int (nomark _)) (pw_and (pt_cmpR op_ne (pv 5) pe_str (nomark _)) (pw_and1 (pt_cmpR op_gt (pe_call G_law_take (hr.mono (by decide)) rfl m_law_take k_law_take b_law_take v_law_take pass0 (pa_cons (pv 0) (pa_cons (pe_op op_add pe_int (pv 3)) pa_nil))) pe_int (nomark _)))))) (pss_cons (ps_set (i := 7) sc_law_row.nd rfl (Or.inl rfl) (pe_call G_law_turned (hr.mono (by decide)) rfl m_law_turned k_law_turned b_law_turned v_law_turned pass0 (pa_cons (pe_ix ix_str (pv 5) (pe_un un_neg pe_int) (fun _ _ => rfl)) pa_nil)))
    (pss_one (ps_set (i := 5) sc_law_row.nd rfl (Or.inl rfl) (pe_slice sl_str (pv 5) po_none (po_some (pe_un un_neg pe_int)))))) (pss_one (ps_set (i := 5) sc_law_row.nd rfl (Or.inl rfl) (pe_op op_add_str (pv 5) (pv 7)))))
    (pss_one (ps_set (i := 4) sc_law_row.nd rfl (Or.inl rfl) (pe_op op_add_str (pv 4) (pv 7)))))))
    (pss_one (ps_ret (pv 4))))))), ?_⟩
    refine ⟨_, rfl, p, 3, rfl, hp, by decide, by decide, fun way H1 w0 w1 o1 p1 => ?_⟩
    refine ⟨_, rfl, _, rfl, _, _, rfl, rfl, p, most + 1, rfl, p1, by omega, by omega, fun n H2 n0 n1 o2 p2 => ?_⟩
    refine ⟨n, rfl, by omega, by omega, for_range (lo := 0) (n := n.toNat) (fun i σ H' => ∃ (l m : List Nat) (x y : Option V), σ = [some (.ref p), some (.int most), some (.int deeds), some (.int way), some (.str (S l)), some (.str (S m)), x, y] ∧
        Row l ∧ Row m ∧ (∀ c ∈ l, (ix c : Int) < 2 * deeds) ∧ (∀ c ∈ m, (ix c : Int) < 2 * deeds) ∧ l.length = i ∧ m.length ≤ i ∧ Off p H H' ∧ Pool H' p)
      ⟨[], [], none, none, rfl, RowM.nil_row, RowM.nil_row, (by intro c q; cases q), (by intro c q; cases q), rfl, Nat.le_refl _, o1.trans o2, p2⟩ ?_ ?_⟩
    · rintro i σ H' hi ⟨l, m, x, y, rfl, hl, hm, il, im, zl, zm, o, hp⟩
      have hin : (i : Int) < n := by omega
      refine ⟨_, rfl, _, rfl, _, _, rfl, rfl, .inl ⟨by decide, by decide⟩, p, 2 * deeds, rfl, hp, by omega, by omega, fun v H3 v0 v1 o3 p3 => ?_⟩
      obtain ⟨c, hc, sc, ic⟩ := sign_of_at (i := v) v0 (by omega) rfl
      refine ⟨_, _, c, rfl, rfl, (by decide), hc, ?_⟩
      have icd : (ix c : Int) < 2 * deeds := by omega
      have z1 : l.length < 2000 := by omega
      have z2 : m.length < 2000 := by omega
      refine ⟨fun σ H' => ∃ (m : List Nat) (c : Nat), σ = [some (.ref p), some (.int most), some (.int deeds), some (.int way), some (.str (S l)), some (.str (S m)), some (.int (0 + i)), some (.str (S [c]))] ∧
        Row m ∧ c ∈ sgns ∧ (∀ c ∈ m, (ix c : Int) < 2 * deeds) ∧ (ix c : Int) < 2 * deeds ∧ m.length ≤ i + 1 ∧ Off p H H' ∧ Pool H' p, ?_, ?_⟩
      · have add : ∀ H4, Off p H H4 → Pool H4 p → ∀ (D : Ends), D.nx = (fun σ H' => ∃ (m : List Nat) (c : Nat), σ = [some (.ref p), some (.int most), some (.int deeds), some (.int way), some (.str (S l)), some (.str (S m)), some (.int (0 + i)), some (.str (S [c]))] ∧
            Row m ∧ c ∈ sgns ∧ (∀ c ∈ m, (ix c : Int) < 2 * deeds) ∧ (ix c : Int) < 2 * deeds ∧ m.length ≤ i + 1 ∧ Off p H H' ∧ Pool H' p) →
            tAsg (tOp (fun x y H Q => ∃ i j, x = V.str i ∧ y = V.str j ∧ i.length + j.length ≤ sizeLine ∧ Q (V.str (i ++ j)) H) (tVar 5) (tVar 7)) (gName 5) D
              [some (.ref p), some (.int most), some (.int deeds), some (.int way), some (.str (S l)), some (.str (S m)), some (.int (0 + i)), some (.str (S [c]))] H4 := fun H4 o4 p4 D hD => by
          refine ⟨_, rfl, _, rfl, _, _, rfl, rfl, sz_str (m := [c]) (by omega) (by simp), ?_⟩
          show D.nx _ _
          rw [hD, add_S]
          exact ⟨m ++ [c], c, rfl, row_snoc hm sc, sc, all_snoc im icd, icd, by simp; omega, o4, p4⟩
        walk_at "rd"
        refine ite2 (fun _ => ?_) (fun _ => iteF (add _ (o.trans o3) p3 _ rfl))
        walk_at "rd"
        refine ite2 (fun q => ?_) (fun _ => iteF (add _ (o.trans o3) p3 _ rfl))
        have mne : m ≠ [] := fun e => by
          subst e
          exact absurd q (by decide)
        refine ⟨_, rfl, _, rfl, _, _, rfl, rfl, p, 1 + way, rfl, p3, by omega, by omega, fun u H4 u0 u1 o4 p4 => ?_⟩
        walk_at "rd"
        refine ite2 (fun _ => ?_) (fun _ => add _ ((o.trans o3).trans o4) p4 _ rfl)
        obtain ⟨m, d, rfl⟩ := exists_snoc mne
        have hd : d ∈ sgns := hm d (by simp)
        refine ⟨_, rfl, _, rfl, _, _, d, rfl, rfl, sz_of' (by rw [len_S]; omega), at_last, [d], rfl, (by intro e he; rw [List.mem_singleton.mp he]; exact hd), (by simp), fun H5 s5 => ?_⟩
        refine ⟨_, rfl, _, rfl, _, rfl, _, rfl, sz_of' (by rw [len_S]; omega), ?_⟩
        rw [cut_last]
        refine ⟨m, con d, rfl, (fun e he => hm e (List.mem_append_left _ he)), RowM.con_mem hd, (fun e he => im e (List.mem_append_left _ he)), ?_, by simp at zm; omega, ((o.trans o3).trans o4).trans (off_of s5), p4.same s5⟩
        have := im d (by simp)
        have q := ix_con hd
        omega
      · rintro σ H4 ⟨m, c, rfl, hm, sc, im, icd, zm, o4, p4⟩
        refine ⟨_, rfl, _, rfl, _, _, rfl, rfl, sz_str (m := [c]) (by omega) (by simp), ?_⟩
        rw [add_S]
        exact ⟨l ++ [c], m, _, _, rfl, row_snoc hl sc, hm, all_snoc il icd, im, by simp [zl], zm, o4, p4⟩
    · rintro σ H' ⟨l, m, x, y, rfl, hl, hm, il, im, zl, zm, o, hp⟩
      exact ⟨_, rfl, k l H' hl (by omega) il o hp⟩
theorem sc_is_row_within : FnScope ["thing", "most", "sign"] ["thing", "most"] (defScope s_is_row_within) := ⟨rfl, rfl, rfl, by decide +kernel, rfl, by decide +kernel, by decide +kernel⟩
theorem ok_is_row_within {f : Addr} {fd : FuncData} (F : Fun K "is_row_within" "is_row_within" s_is_row_within f fd) (T : Txt K mg) : FnOk P w K mg base CX0 1 f fd ["thing", "most"] (sp_is_row_within) := by
  refine F.ok sc_is_row_within (fun vs H Q E h => ?_) (fun cdv A outer s H vs Q E hr h => ?_)
  · obtain ⟨l, most, rfl, _⟩ := h
    all_goals rfl
  · obtain ⟨l, most, rfl, hz, k⟩ := h
    refine ⟨_, (pss_one (ps_ret (pe_and (pe_callB (call_isiK1 (K := K)) (by rfl) T.b_isinstance (by decide +kernel) (pa_cons (pv 0) (pa_cons (pe_bltn (v := .ty "str") (by rfl) T.b_str (by decide +kernel) rfl) pa_nil))) (pe_and (pe_cmpR op_le (pe_callB call_len_str (by rfl) T.b_len (by decide +kernel) (pa_cons (pv 0) pa_nil)) (pv 1) (nomark _)) (pe_one (pe_callB (cr_allK (K := K) rfl) (by rfl) T.b_all (by decide +kernel) (pa_cons (pe_lc (own := [("sign", 2)]) (g := gName 2) (tt := tYes) rfl sc_is_row_within.nd (pi_str (pv 0)) (blkOk_by (own := [("sign", 2)]) (N := ["thing", "most", "sign"]) (sc := defScope s_is_row_within) (by decide +kernel)) (fun _ _ _ _ _ => (pg_name (i := 2) sc_is_row_within.nd rfl (Or.inl rfl))) (fun _ _ _ _ _ => pts_nil) (fun _ _ _ _ _ => (pe_cmpR op_in_sign (pv 2) (pe_globC T.g_SIGNS) rfl))) pa_nil))))))), ?_⟩
    obtain ⟨u, hu, ru⟩ := T.g_SIGNS
    refine Evl.s_ret (Evl.ev_is (Evl.ev_andV (Evl.ev_isi (Evl.ev_var rfl) Evl.ev_c (.ty "str") (fun _ _ => .base (.str _)) (kit_ty (r := true) (by decide +kernel)))
      (fun _ => Evl.ev_andV (Evl.ev_op (Evl.ev_lenS (Evl.ev_var rfl) (by rw [len_S]; omega)) (Evl.ev_var rfl) Evl.rv_I0)
        (fun _ => Evl.ev_allN (bs := l.map fun c => decide (c ∈ sgns)) (el_is (Evl.el_mapS (fun c => .bl (decide (c ∈ sgns))) (Evl.ev_var rfl) (by rw [len_S]; omega) (fun _ => rfl)
          (fun c H1 e hc => Evl.ev_is (Evl.ev_op (Evl.ev_var rfl) Evl.ev_c Evl.rv_inS) (by rw [decide_eq_decide.mpr (iff_of_eq (sgns_mem c))]))) (by rw [List.map_map]; rfl))))) ?_) fun H1 e => k H1 e
    rw [len_S]
    simp [List.all_map, Function.comp]
theorem sc_is_row : FnScope ["thing"] ["thing"] (defScope s_is_row) := ⟨rfl, rfl, rfl, by decide +kernel, rfl, by decide +kernel, by decide +kernel⟩
theorem ok_is_row {f : Addr} {fd : FuncData} (F : Fun K "is_row" "is_row" s_is_row f fd) (T : Txt K mg) (kn_is_row_within : KN P w K mg base 1 ["thing", "most"] (sp_is_row_within) "is_row_within" []) : FnOk P w K mg base CX0 2 f fd ["thing"] (sp_is_row) := by
  obtain ⟨f_is_row_within, fd_is_row_within, ds_is_row_within, m_is_row_within, k_is_row_within, v_is_row_within, b_is_row_within, G_is_row_within⟩ := kn_is_row_within
  refine F.ok sc_is_row (fun vs H Q E h => ?_) (fun cdv A outer s H vs Q E hr h => ?_)
  · obtain ⟨l, rfl, _⟩ := h
    all_goals rfl
  · obtain ⟨l, rfl, hz, k⟩ := h
    refine ⟨_, (pss_one (ps_ret (pe_call G_is_row_within (hr.mono (by decide)) rfl m_is_row_within k_is_row_within b_is_row_within v_is_row_within pass0 (pa_cons (pv 0) (pa_cons (pe_globC T.g_MOST_SIGNS) pa_nil))))), ?_⟩
    refine ⟨_, rfl, l, 60, rfl, hz, fun H1 e => ?_⟩
    have q := k H1 e
    unfold isRow at q
    have z : decide ((l.length : Int) ≤ 60) = decide (l.length ≤ 60) := decide_eq_decide.mpr (by omega)
    rw [z]
    exact q
theorem sc_look_at_row : FnScope ["thing"] ["thing"] (defScope s_look_at_row) := ⟨rfl, rfl, rfl, by decide +kernel, rfl, by decide +kernel, by decide +kernel⟩
theorem ok_look_at_row {f : Addr} {fd : FuncData} (F : Fun K "look_at_row" "look_at_row" s_look_at_row f fd) (T : Txt K mg) (kn_is_row : KN P w K mg base 2 ["thing"] (sp_is_row) "is_row" []) : FnOk P w K mg base CX0 3 f fd ["thing"] (sp_look_at_row) := by
  obtain ⟨f_is_row, fd_is_row, ds_is_row, m_is_row, k_is_row, v_is_row, b_is_row, G_is_row⟩ := kn_is_row
  refine F.ok sc_look_at_row (fun vs H Q E h => ?_) (fun cdv A outer s H vs Q E hr h => ?_)
  · obtain ⟨l, rfl, _⟩ := h
    all_goals rfl
  · obtain ⟨l, rfl, hl, k⟩ := h
    refine ⟨_, (pss_one (ps_if (pt_not (pt_val (pe_call G_is_row (hr.mono (by decide)) rfl m_is_row k_is_row b_is_row v_is_row pass0 (pa_cons (pv 0) pa_nil)))) (pss_one ps_never) pss_nil)), ?_⟩
    have hz := (isRow_iff.mp hl).1
    refine ⟨_, rfl, l, rfl, by omega, fun H1 e => ⟨_, rfl, ?_⟩⟩
    rw [hl]
    exact iteF (k H1 e)
theorem sc_rank : FnScope ["text", "sign"] ["text"] (defScope s_rank) := ⟨rfl, rfl, rfl, by decide +kernel, rfl, by decide +kernel, by decide +kernel⟩
theorem ok_rank {f : Addr} {fd : FuncData} (F : Fun K "rank" "rank" s_rank f fd) (T : Txt K mg) : FnOk P w K mg base CX0 1 f fd ["text"] (sp_rank) := by
  refine F.ok sc_rank (fun vs H Q E h => ?_) (fun cdv A outer s H vs Q E hr h => ?_)
  · obtain ⟨l, rfl, _⟩ := h
    all_goals rfl
  · obtain ⟨l, rfl, hl, hz, k⟩ := h
    refine ⟨_, (pss_one (ps_ret (pe_tup (pa_cons (pe_callB call_len_str (by rfl) T.b_len (by decide +kernel) (pa_cons (pv 0) pa_nil)) (pa_cons (pe_lc (own := [("sign", 1)]) (g := gName 1) (tt := tYes) rfl sc_rank.nd (pi_str (pv 0)) (blkOk_by (own := [("sign", 1)]) (N := ["text", "sign"]) (sc := defScope s_rank) (by decide +kernel)) (fun _ _ _ _ _ => (pg_name (i := 1) sc_rank.nd rfl (Or.inl rfl))) (fun _ _ _ _ _ => pts_nil) (fun _ _ _ _ _ => (pe_m1 PySem.F.slot_str_index PySem.F.type_str_index mt_sindex (pe_globC T.g_SIGNS) (pv 1)))) pa_nil))))), ?_⟩
    refine ⟨_, rfl, _, rfl, by rw [len_S]; exact sz_of' (by omega), ?_⟩
    refine Evl.el_mapS (fun c => .int (ix c : Nat)) (Evl.ev_var rfl) (by rw [len_S]; omega) (fun _ => rfl) (fun c H1 e hc => ?_) H (Evl.Ex.refl H) _ fun q H1 nq e1 hq => ?_
    · obtain ⟨r, hr⟩ := six1 c (hl c hc)
      exact fun H2 e2 Q q => ⟨⟨_, rfl⟩, _, rfl, _, S [c], ix c, r, rfl, rfl, hr, q H2 (Evl.Ex.refl H2)⟩
    · refine ⟨by show 2 ≤ sizeLine; decide, fun t ht => ?_⟩
      rw [len_S]
      exact k t q _ (Same.trans e1 (Same.new ht)) (Same.free e1 ht) upd_same (by rw [upd_ne (ne_of_none hq ht)]; exact hq)
theorem sc_before : FnScope ["one", "other"] ["one", "other"] (defScope s_before) := ⟨rfl, rfl, rfl, by decide +kernel, rfl, by decide +kernel, by decide +kernel⟩
theorem ok_before {f : Addr} {fd : FuncData} (F : Fun K "before" "before" s_before f fd) (T : Txt K mg) (kn_look_at_row : KN P w K mg base 3 ["thing"] (sp_look_at_row) "look_at_row" []) (kn_rank : KN P w K mg base 1 ["text"] (sp_rank) "rank" []) : FnOk P w K mg base CX0 4 f fd ["one", "other"] (sp_before) := by
  obtain ⟨f_look_at_row, fd_look_at_row, ds_look_at_row, m_look_at_row, k_look_at_row, v_look_at_row, b_look_at_row, G_look_at_row⟩ := kn_look_at_row
  obtain ⟨f_rank, fd_rank, ds_rank, m_rank, k_rank, v_rank, b_rank, G_rank⟩ := kn_rank
  refine F.ok sc_before (fun vs H Q E h => ?_) (fun cdv A outer s H vs Q E hr h => ?_)
  · obtain ⟨l, m, rfl, _⟩ := h
    all_goals rfl
  · obtain ⟨l, m, rfl, hl, hm, k⟩ := h
    refine ⟨_, (pss_cons (ps_expr (pe_call G_look_at_row (hr.mono (by decide)) rfl m_look_at_row k_look_at_row b_look_at_row v_look_at_row pass0 (pa_cons (pv 0) pa_nil)))
    (pss_cons (ps_expr (pe_call G_look_at_row (hr.mono (by decide)) rfl m_look_at_row k_look_at_row b_look_at_row v_look_at_row pass0 (pa_cons (pv 1) pa_nil)))
    (pss_one (ps_ret (pe_cmpR (op_ltDK (K := K) hr.units) (pe_call G_rank (hr.mono (by decide)) rfl m_rank k_rank b_rank v_rank pass0 (pa_cons (pv 0) pa_nil)) (pe_call G_rank (hr.mono (by decide)) rfl m_rank k_rank b_rank v_rank pass0 (pa_cons (pv 1) pa_nil)) (nomark _)))))), ?_⟩
    obtain ⟨zl, rl⟩ := isRow_iff.mp hl
    obtain ⟨zm, rm⟩ := isRow_iff.mp hm
    refine ⟨_, rfl, l, rfl, hl, fun H1 s1 => ?_⟩
    refine ⟨_, rfl, m, rfl, hm, fun H2 s2 => ?_⟩
    refine ⟨_, rfl, l, rfl, rl, by omega, fun t q H3 s3 _ ht hq => ?_⟩
    refine ⟨_, rfl, m, rfl, rm, by omega, fun t' q' H4 s4 _ ht' hq' => ?_⟩
    refine ⟨rankD l, rankD m, dp_rank (s4 _ _ ht) (s4 _ _ hq), dp_rank ht' hq', alike_rank l m, (fun h => by cases h), Nat.le_trans (Nat.min_le_left _ _) (depth_rank l), ?_⟩
    rw [lt_rank]
    exact k H4 (Same.trans s1 (Same.trans s2 (Same.trans s3 s4)))
theorem sc_number_of : FnScope ["row", "deeds", "base", "place", "sign", "found"] ["row", "deeds"] (defScope s_number_of) := ⟨rfl, rfl, rfl, by decide +kernel, rfl, by decide +kernel, by decide +kernel⟩
theorem ok_number_of {f : Addr} {fd : FuncData} (F : FunD K "number_of" "number_of" (defArgs s_number_of) (defBody s_number_of) (defScope s_number_of) [.int 2] [] f fd) (T : Txt K mg) (kn_look_at_row : KN P w K mg base 3 ["thing"] (sp_look_at_row) "look_at_row" []) (kn_look_at_deeds : KN P w K mg base 2 ["deeds", "most"] (sp_look_at_deeds) "look_at_deeds" []) : FnOk P w K mg base CX0 4 f fd ["row", "deeds"] (sp_number_of) := by
  obtain ⟨f_look_at_row, fd_look_at_row, ds_look_at_row, m_look_at_row, k_look_at_row, v_look_at_row, b_look_at_row, G_look_at_row⟩ := kn_look_at_row
  obtain ⟨f_look_at_deeds, fd_look_at_deeds, ds_look_at_deeds, m_look_at_deeds, k_look_at_deeds, v_look_at_deeds, b_look_at_deeds, G_look_at_deeds⟩ := kn_look_at_deeds
  refine F.ok0 sc_number_of (fun vs H Q E h => ?_) (fun cdv A outer s H vs Q E hr h => ?_)
  · obtain ⟨l, d, rfl, _⟩ := h
    all_goals rfl
  · obtain ⟨l, d, rfl, hl, d0, d1, low, k⟩ := h
    refine ⟨_, (pss_cons (ps_expr (pe_call G_look_at_row (hr.mono (by decide)) rfl m_look_at_row k_look_at_row b_look_at_row v_look_at_row pass0 (pa_cons (pv 0) pa_nil)))
    (pss_cons (ps_expr (pe_call G_look_at_deeds (hr.mono (by decide)) rfl m_look_at_deeds k_look_at_deeds b_look_at_deeds v_look_at_deeds pass0 (pa_cons (pv 1) (pa_cons (pe_callB call_len_str (by rfl) T.b_len (by decide +kernel) (pa_cons (pe_globC T.g_DEEDS) pa_nil)) pa_nil))))
    (pss_cons (ps_set (i := 2) sc_number_of.nd rfl (Or.inl rfl) (pe_op op_mul pe_int (pv 1)))
    (pss_cons (ps_for PassesOwn.never rfl (pi_enumS (by rfl) T.b_enumerate (pa_cons (pv 0) pa_nil)) (pg_tup rfl (pgs_cons (pg_name (i := 3) sc_number_of.nd rfl (Or.inl rfl)) (pgs_cons (pg_name (i := 4) sc_number_of.nd rfl (Or.inl rfl)) pgs_nil))) (pss_one (ps_if (pt_cmpR op_notIn_sign (pv 4) (pe_slice sl_str (pe_globC T.g_SIGNS) po_none (po_some (pv 2))) rfl) (pss_one ps_never) pss_nil)))
    (pss_cons (ps_set (i := 5) sc_number_of.nd rfl (Or.inl rfl) pe_int)
    (pss_cons (ps_for PassesOwn.never rfl (pi_range1 (by rfl) T.b_range (pa_cons (pe_callB call_len_str (by rfl) T.b_len (by decide +kernel) (pa_cons (pv 0) pa_nil)) pa_nil)) (pg_name (i := 3) sc_number_of.nd rfl (Or.inl rfl)) (pss_cons (ps_aug (i := 5) sc_number_of.nd rfl (Or.inl rfl) (pv 2) iop_mul)
    (pss_one (ps_aug (i := 5) sc_number_of.nd rfl (Or.inl rfl) pe_int iop_add))))
    (pss_cons (ps_if (pt_cmpR op_eq (pv 0) pe_str (nomark _)) (pss_one (ps_ret pe_int)) pss_nil)
    (pss_one (ps_ret (pe_op op_add (pv 5) (pe_callTy call_int_base (by rfl) T.b_int (by decide +kernel) (pa_cons (pe_m1 PySem.F.slot_str_join PySem.F.type_str_join (mt_joinK (K := K)) pe_str (pe_lc (own := [("sign", 4)]) (g := gName 4) (tt := tYes) rfl sc_number_of.nd (pi_str (pv 0)) (blkOk_by (own := [("sign", 4)]) (N := ["row", "deeds", "base", "place", "sign", "found"]) (sc := defScope s_number_of) (by decide +kernel)) (fun _ _ _ _ _ => (pg_name (i := 4) sc_number_of.nd rfl (Or.inl rfl))) (fun _ _ _ _ _ => pts_nil) (fun _ _ _ _ _ => (pe_ix ix_str (pe_globC T.g_DIGITS) (pe_m1 PySem.F.slot_str_index PySem.F.type_str_index mt_sindex (pe_globC T.g_SIGNS) (pv 4)) (fun _ _ => rfl))))) (pa_cons (pv 2) pa_nil))))))))))))), ?_⟩
    obtain ⟨zl, rl⟩ := isRow_iff.mp hl
    refine ⟨_, rfl, l, rfl, hl, fun H1 s1 => ?_⟩
    refine ⟨_, rfl, _, rfl, (by decide), (d : Int), _, rfl, (by omega), (by show (d : Int) ≤ 6; omega), fun H2 s2 => ?_⟩
    refine ⟨_, rfl, _, _, rfl, rfl, .inl ⟨by decide, by decide⟩, ?_⟩
    have s12 := Same.trans s1 s2
    -- no sign of another deed
    refine ⟨_, rfl, _, rfl, for_it walk_enumS (fun i σ H' => ∃ x y z t, σ = [some (.str (S l)), some (.int (d : Int)), some (.int (2 * (d : Int))), x, y, z] ∧ t = () ∧ Same H H') ⟨_, _, _, (), rfl, rfl, s12⟩ (fun _ _ _ _ _ => trivial) ?_ ?_⟩
    · rintro i v σ H3 H4 hi ⟨x, y, z, _, rfl, _, s3⟩ ⟨t, c, rfl, nt, rfl, hc⟩
      have hc' : l[i]? = some c := by simpa using hc
      have sc : c ∈ sgns := rl c (List.mem_of_getElem? hc')
      have s4 := Same.trans s3 (Same.new (o := .tup [.int (i : Nat), .str ⟨#[c]⟩]) nt)
      refine ⟨t, [_, _], rfl, SqT.of upd_same, rfl, _, _, rfl, _, _, rfl, rfl, ?_⟩
      refine Evl.s_if (Evl.et_test (Evl.ev_op (Evl.ev_var rfl) (Evl.ev_slS Evl.ev_c Evl.eo_none (Evl.eo_some (Evl.ev_var rfl)) (by decide)) Evl.rv_niS)) (fun q H5 e5 => ?_) (fun q H5 e5 => ?_)
      · exfalso
        have e2 : (2 * (d : Int)) = ((2 * d : Nat) : Int) := by omega
        have q2 : (!decide (c ∈ (cutS (Str.ofString "aAbBcCdDeEfF") none (some (2 * (d : Int)))).cps.toList)) = true := q
        rw [sgns_S, e2, cut_to (by show 2 * d ≤ 12; omega)] at q2
        have q3 : ¬ c ∈ sgns.take (2 * d) := by simpa using q2
        exact q3 ((mem_take sc).mpr (low c (List.mem_of_getElem? hc')))
      · exact ⟨_, _, _, (), rfl, rfl, Same.trans s4 e5⟩
    rintro σ H3 ⟨x, y, z, _, rfl, _, s3⟩
    -- how many rows are shorter
    refine ⟨_, rfl, _, rfl, sz_of' (by rw [len_S]; omega), _, rfl, (by rw [len_S]; omega), (by rw [len_S]; omega), for_range (lo := 0) (n := _) (fun i σ H' => ∃ x y, σ = [some (.str (S l)), some (.int (d : Int)), some (.int (2 * (d : Int))), x, y, some (.int (NumM.ones (2 * d) i : Nat))] ∧ Same H H') ⟨_, _, rfl, s3⟩ ?_ ?_⟩
    · rintro i σ H4 hi ⟨x, y, rfl, s4⟩
      refine ⟨_, rfl, _, rfl, _, _, rfl, rfl, .inr ⟨by omega, by omega⟩, _, rfl, _, _, rfl, rfl, ?_⟩
      have e : ((NumM.ones (2 * d) i : Nat) : Int) * (2 * (d : Int)) + 1 = ((NumM.ones (2 * d) (i + 1) : Nat) : Int) := by
        show _ = ((NumM.ones (2 * d) i * (2 * d) + 1 : Nat) : Int)
        rw [Int.natCast_add, Int.natCast_mul, Int.natCast_mul]
        rfl
      exact ⟨some (.int (0 + i)), y, (by rw [← e]; rfl), s4⟩
    rintro σ H4 ⟨x, y, rfl, s4⟩
    have en : (((S l).length : Nat) : Int).toNat = l.length := by rw [len_S]; simp
    rw [en]
    refine Evl.q_when (Evl.et_test (Evl.ev_op (Evl.ev_var rfl) Evl.ev_c (Evl.rv_eq rfl))) (fun q H5 e5 => ?_) (fun q H5 e5 => ?_)
    · have q2 : V.str (S l) = V.str (Str.ofString "") := of_decide_eq_true q
      have q3 : l = [] := by
        have h2 : l = (Str.ofString "").cps.toList := congrArg (fun v => match v with | V.str z => z.cps.toList | _ => []) q2
        exact h2.trans (by decide)
      subst q3
      have z := k H5 (Same.trans s4 e5)
      rw [NumM.num_nil] at z
      exact z
    · have ne : l ≠ [] := fun e => by
        subst e
        exact absurd q (by decide)
      have ej : Evl.Ev (tM1 (rJoinK K) (tC (V.str (Str.ofString ""))) (tLc (iStr (tVar 0)) (gName 4) tYes (tOp rIxS (tC (V.str (Str.ofString "0123456789ab"))) (tM1 (fun x xs H Q => ∃ a b i rest, x = .str a ∧ xs = [.str b] ∧ Builtin.Str.occurrences a b 0 a.length 1 = i :: rest ∧ Q (.int (i : Nat)) H) (tC (V.str (Str.ofString "aAbBcCdDeEfF"))) (tVar 4))) [4]))
          [some (.str (S l)), some (.int (d : Int)), some (.int (2 * (d : Int))), x, y, some (.int (NumM.ones (2 * d) l.length : Nat))] H5 (.str (S (l.map dg))) := by
        refine ev_joinMap (s := S l) dg Evl.ev_c (by decide) (Evl.ev_var rfl) (by rw [len_S]; omega) (fun _ => rfl) (fun c H1 e hc => ?_)
        have sc : c ∈ sgns := rl c hc
        obtain ⟨r, hr⟩ := six1 c sc
        refine Evl.ev_op Evl.ev_c (y := .int (ix c : Nat)) ?_ (Evl.rv_ixS (by decide) (atI_nat (dg_at c sc)))
        exact fun H2 e2 Q q => ⟨⟨_, rfl⟩, _, rfl, _, S [c], ix c, r, rfl, rfl, hr, q H2 (Evl.Ex.refl H2)⟩
      refine Evl.s_ret (v := .int (((NumM.ones (2 * d) l.length : Nat) : Int) + ((Db.num (2 * d) (l.map dg) : Nat) : Int))) (Evl.ev_op (Evl.ev_var rfl) (Evl.ev_cb (Evl.ea_cons ej (Evl.ea_cons (Evl.ev_var rfl) Evl.ea_nil)) (fun H6 e6 Q q => ⟨S (l.map dg), 2 * d, (by rw [Int.natCast_mul]; rfl), base_is d0 d1, (by simpa using ne), (by rw [len_S, List.length_map]; omega), (fun c hc => by
          have hc' : c ∈ l.map dg := hc
          obtain ⟨b, hb, rfl⟩ := List.mem_map.mp hc'
          exact ⟨dg_rng b (rl b hb), by rw [dg_dv b (rl b hb)]; exact low b hb⟩), q H6 (Evl.Ex.refl H6)⟩)) Evl.rv_I0) fun H6 e6 => ?_
      have z := k H6 (Same.trans s4 (Same.trans e5 e6))
      rw [num_dg rl]
      unfold numR at z
      rw [Int.natCast_add] at z
      exact z
theorem sc_contrary_sign : FnScope ["sign"] ["sign"] (defScope s_contrary_sign) := ⟨rfl, rfl, rfl, by decide +kernel, rfl, by decide +kernel, by decide +kernel⟩
theorem ok_contrary_sign {f : Addr} {fd : FuncData} (F : Fun K "contrary_sign" "contrary_sign" s_contrary_sign f fd) (T : Txt K mg) : FnOk P w K mg base CX0 1 f fd ["sign"] (sp_contrary_sign) := by
  refine F.ok sc_contrary_sign (fun vs H Q E h => ?_) (fun cdv A outer s H vs Q E hr h => ?_)
  · obtain ⟨c, rfl, _⟩ := h
    all_goals rfl
  · obtain ⟨c, rfl, hc, k⟩ := h
    refine ⟨_, (pss_one (ps_ret (pe_ifExp (pt_val (pe_m0 PySem.F.slot_str_isupper PySem.F.type_str_isupper mt_isupper (pv 0))) (pe_lower (pv 0)) (pe_upper (pv 0))))), ?_⟩
    refine Evl.s_ret (Evl.ev_is (Evl.ev_ifv (Evl.et_B (Evl.ev_m0 (Evl.ev_var rfl) trivial)) (fun _ => Evl.ev_m0 (Evl.ev_var rfl) one_le) (fun _ => Evl.ev_m0 (Evl.ev_var rfl) one_le)) ?_) fun H1 e => k H1 e
    rw [up1 c hc, low1 c hc, isup1 c hc]
    unfold con lo up
    by_cases h : c < 97
    · have h2 : ¬ 97 ≤ c := by omega
      rw [decide_eq_true h, if_pos rfl, if_neg h2, if_neg h2]
    · have h2 : 97 ≤ c := by omega
      rw [decide_eq_false h, if_neg (by decide), if_pos h2, if_pos h2]
theorem sc_turned : FnScope ["text", "sign"] ["text"] (defScope s_turned) := ⟨rfl, rfl, rfl, by decide +kernel, rfl, by decide +kernel, by decide +kernel⟩
theorem ok_turned {f : Addr} {fd : FuncData} (F : Fun K "turned" "turned" s_turned f fd) (T : Txt K mg) (kn_contrary_sign : KN P w K mg base 1 ["sign"] (sp_contrary_sign) "contrary_sign" []) : FnOk P w K mg base CX0 2 f fd ["text"] (sp_turned) := by
  obtain ⟨f_contrary_sign, fd_contrary_sign, ds_contrary_sign, m_contrary_sign, k_contrary_sign, v_contrary_sign, b_contrary_sign, G_contrary_sign⟩ := kn_contrary_sign
  refine F.ok sc_turned (fun vs H Q E h => ?_) (fun cdv A outer s H vs Q E hr h => ?_)
  · obtain ⟨l, rfl, _⟩ := h
    all_goals rfl
  · obtain ⟨l, rfl, hl, hz, k⟩ := h
    refine ⟨_, (pss_one (ps_ret (pe_m1 PySem.F.slot_str_join PySem.F.type_str_join (mt_joinK (K := K)) pe_str (pe_lc (own := [("sign", 1)]) (g := gName 1) (tt := tYes) rfl sc_turned.nd (pi_str (pe_revS (pv 0))) (blkOk_by (own := [("sign", 1)]) (N := ["text", "sign"]) (sc := defScope s_turned) (by decide +kernel)) (fun _ _ _ _ _ => (pg_name (i := 1) sc_turned.nd rfl (Or.inl rfl))) (fun _ _ _ _ _ => pts_nil) (fun _ _ _ _ _ => (pe_call G_contrary_sign (hr.mono (by decide)) rfl m_contrary_sign k_contrary_sign b_contrary_sign v_contrary_sign pass0 (pa_cons (pv 1) pa_nil))))))), ?_⟩
    refine Evl.s_ret (Evl.ev_is (ev_joinMap con Evl.ev_c (by decide) (Evl.ev_revS (Evl.ev_var rfl) (by rw [len_S]; omega)) (by show (S l.reverse).length ≤ _; rw [len_S, List.length_reverse]; omega) (fun _ => rfl) (fun c H1 e hc => ?_)) rfl) fun H1 e => k H1 e
    have hc : c ∈ sgns := hl c (List.mem_reverse.mp hc)
    exact Evl.ev_call (Evl.ea_cons (Evl.ev_var rfl) Evl.ea_nil) fun H1 e Q q E => ⟨c, rfl, hc, q⟩
theorem sc_contrary : FnScope ["row"] ["row"] (defScope s_contrary) := ⟨rfl, rfl, rfl, by decide +kernel, rfl, by decide +kernel, by decide +kernel⟩
theorem ok_contrary {f : Addr} {fd : FuncData} (F : Fun K "contrary" "contrary" s_contrary f fd) (T : Txt K mg) (kn_look_at_row : KN P w K mg base 3 ["thing"] (sp_look_at_row) "look_at_row" []) (kn_turned : KN P w K mg base 2 ["text"] (sp_turned) "turned" []) : FnOk P w K mg base CX0 4 f fd ["row"] (sp_contrary) := by
  obtain ⟨f_look_at_row, fd_look_at_row, ds_look_at_row, m_look_at_row, k_look_at_row, v_look_at_row, b_look_at_row, G_look_at_row⟩ := kn_look_at_row
  obtain ⟨f_turned, fd_turned, ds_turned, m_turned, k_turned, v_turned, b_turned, G_turned⟩ := kn_turned
  refine F.ok sc_contrary (fun vs H Q E h => ?_) (fun cdv A outer s H vs Q E hr h => ?_)
  · obtain ⟨l, rfl, _⟩ := h
    all_goals rfl
  · obtain ⟨l, rfl, hl, k⟩ := h
    refine ⟨_, (pss_cons (ps_expr (pe_call G_look_at_row (hr.mono (by decide)) rfl m_look_at_row k_look_at_row b_look_at_row v_look_at_row pass0 (pa_cons (pv 0) pa_nil)))
    (pss_one (ps_ret (pe_call G_turned (hr.mono (by decide)) rfl m_turned k_turned b_turned v_turned pass0 (pa_cons (pv 0) pa_nil))))), ?_⟩
    obtain ⟨zl, rl⟩ := isRow_iff.mp hl
    exact ⟨_, rfl, l, rfl, hl, fun H1 s1 => ⟨_, rfl, l, rfl, rl, by omega, fun H2 s2 => k H2 (Same.trans s1 s2)⟩⟩
theorem sc_law : FnScope ["_law_script", "_law_k", "_law_pool_here", "_law_deeds", "_law_one", "_law_other", "_law_rows", "_law_first", "_law_second", "_law_ahead", "_law_more", "_law_back"] ["_law_script"] (defScope s_law) := ⟨rfl, rfl, rfl, by decide +kernel, rfl, by decide +kernel, by decide +kernel⟩
theorem ok_law {f : Addr} {fd : FuncData} (F : Fun K "law" "law" s_law f fd) (T : Txt K mg) (kn_law_pool : KN P w K mg base 1 ["_law_script", "_law_k"] (sp_law_pool K) "_law_pool" []) (kn_law_take : KN P w K mg base 1 ["_law_pool_here", "_law_many"] (sp_law_take) "_law_take" []) (kn_row_at : KN P w K mg base 3 ["number", "deeds"] (sp_row_at) "row_at" []) (kn_law_row : KN P w K mg base 2 ["_law_pool_here", "_law_most", "_law_deeds"] (sp_law_row) "_law_row" []) (kn_before : KN P w K mg base 4 ["one", "other"] (sp_before) "before" []) (kn_number_of : KN P w K mg base 4 ["row", "deeds"] (sp_number_of) "number_of" []) (kn_contrary : KN P w K mg base 4 ["row"] (sp_contrary) "contrary" []) : FnOk P w K mg base CX0 5 f fd ["_law_script"] (sp_law K) := by
  obtain ⟨f_law_pool, fd_law_pool, ds_law_pool, m_law_pool, k_law_pool, v_law_pool, b_law_pool, G_law_pool⟩ := kn_law_pool
  obtain ⟨f_law_take, fd_law_take, ds_law_take, m_law_take, k_law_take, v_law_take, b_law_take, G_law_take⟩ := kn_law_take
  obtain ⟨f_row_at, fd_row_at, ds_row_at, m_row_at, k_row_at, v_row_at, b_row_at, G_row_at⟩ := kn_row_at
  obtain ⟨f_law_row, fd_law_row, ds_law_row, m_law_row, k_law_row, v_law_row, b_law_row, G_law_row⟩ := kn_law_row
  obtain ⟨f_before, fd_before, ds_before, m_before, k_before, v_before, b_before, G_before⟩ := kn_before
  obtain ⟨f_number_of, fd_number_of, ds_number_of, m_number_of, k_number_of, v_number_of, b_number_of, G_number_of⟩ := kn_number_of
  obtain ⟨f_contrary, fd_contrary, ds_contrary, m_contrary, k_contrary, v_contrary, b_contrary, G_contrary⟩ := kn_contrary
  refine F.ok sc_law (fun vs H Q E h => ?_) (fun cdv A outer s H vs Q E hr h => ?_)
  · obtain ⟨a, ns, rfl, _⟩ := h
    all_goals rfl
  · obtain ⟨a, ns, rfl, hS, hlen, k⟩ := h
    refine ⟨_, (pss_cons (ps_for PassesOwn.never rfl (pi_range1 (by rfl) T.b_range (pa_cons (pe_callB (call_max2 rfl) (by rfl) T.b_max (by decide +kernel) (pa_cons pe_int (pa_cons (pe_callB (call_min2 rfl) (by rfl) T.b_min (by decide +kernel) (pa_cons (pe_callB (call_lenK (K := K)) (by rfl) T.b_len (by decide +kernel) (pa_cons (pv 0) pa_nil)) (pa_cons pe_int pa_nil))) pa_nil))) pa_nil)) (pg_name (i := 1) sc_law.nd rfl (Or.inl rfl)) (pss_cons (ps_set (i := 2) sc_law.nd rfl (Or.inl rfl) (pe_call G_law_pool (hr.mono (by decide)) rfl m_law_pool k_law_pool b_law_pool v_law_pool pass0 (pa_cons (pv 0) (pa_cons (pv 1) pa_nil))))
    (pss_cons (ps_set (i := 3) sc_law.nd rfl (Or.inl rfl) (pe_op op_add pe_int (pe_call G_law_take (hr.mono (by decide)) rfl m_law_take k_law_take b_law_take v_law_take pass0 (pa_cons (pv 2) (pa_cons pe_int pa_nil)))))
    (pss_cons (ps_set (i := 4) sc_law.nd rfl (Or.inl rfl) (pe_ix (ix_listK (K := K)) (pe_lst (pa_cons (pe_call G_law_take (hr.mono (by decide)) rfl m_law_take k_law_take b_law_take v_law_take pass0 (pa_cons (pv 2) (pa_cons pe_int pa_nil))) (pa_cons (pe_call G_law_take (hr.mono (by decide)) rfl m_law_take k_law_take b_law_take v_law_take pass0 (pa_cons (pv 2) (pa_cons (pe_op op_pow pe_int pe_int) pa_nil))) (pa_cons (pe_call G_law_take (hr.mono (by decide)) rfl m_law_take k_law_take b_law_take v_law_take pass0 (pa_cons (pv 2) (pa_cons (pe_op op_pow pe_int pe_int) pa_nil))) pa_nil)))) (pe_call G_law_take (hr.mono (by decide)) rfl m_law_take k_law_take b_law_take v_law_take pass0 (pa_cons (pv 2) (pa_cons pe_int pa_nil))) (fun _ _ => rfl)))
    (pss_cons (ps_set (i := 5) sc_law.nd rfl (Or.inl rfl) (pe_ix (ix_listK (K := K)) (pe_lst (pa_cons (pv 4) (pa_cons (pe_op op_add (pv 4) pe_int) (pa_cons (pe_call G_law_take (hr.mono (by decide)) rfl m_law_take k_law_take b_law_take v_law_take pass0 (pa_cons (pv 2) (pa_cons pe_int pa_nil))) (pa_cons (pe_call G_law_take (hr.mono (by decide)) rfl m_law_take k_law_take b_law_take v_law_take pass0 (pa_cons (pv 2) (pa_cons (pe_op op_pow pe_int pe_int) pa_nil))) pa_nil))))) (pe_call G_law_take (hr.mono (by decide)) rfl m_law_take k_law_take b_law_take v_law_take pass0 (pa_cons (pv 2) (pa_cons pe_int pa_nil))) (fun _ _ => rfl)))
    (pss_cons (ps_set (i := 6) sc_law.nd rfl (Or.inl rfl) (pe_lst (pa_cons (pe_call G_row_at (hr.mono (by decide)) rfl m_row_at k_row_at b_row_at v_row_at pass0 (pa_cons (pv 4) (pa_cons (pv 3) pa_nil))) (pa_cons (pe_call G_row_at (hr.mono (by decide)) rfl m_row_at k_row_at b_row_at v_row_at pass0 (pa_cons (pv 5) (pa_cons (pv 3) pa_nil))) pa_nil))))
    (pss_cons (ps_set (i := 6) sc_law.nd rfl (Or.inl rfl) (pe_op op_cat (pv 6) (pe_lst (pa_cons (pe_call G_law_row (hr.mono (by decide)) rfl m_law_row k_law_row b_law_row v_law_row pass0 (pa_cons (pv 2) (pa_cons pe_int (pa_cons (pv 3) pa_nil)))) (pa_cons (pe_call G_law_row (hr.mono (by decide)) rfl m_law_row k_law_row b_law_row v_law_row pass0 (pa_cons (pv 2) (pa_cons pe_int (pa_cons (pv 3) pa_nil)))) pa_nil)))))
    (pss_cons (ps_for PassesOwn.never rfl (pi_list (pv 6)) (pg_name (i := 7) sc_law.nd rfl (Or.inl rfl)) (pss_cons (ps_for PassesOwn.never rfl (pi_list (pv 6)) (pg_name (i := 8) sc_law.nd rfl (Or.inl rfl)) (pss_cons (ps_set (i := 9) sc_law.nd rfl (Or.inl rfl) (pe_call G_before (hr.mono (by decide)) rfl m_before k_before b_before v_before pass0 (pa_cons (pv 7) (pa_cons (pv 8) pa_nil))))
    (pss_cons (ps_if (pt_cmpR op_ne (pv 9) (pe_cmpR op_lt (pe_call G_number_of (hr.mono (by decide)) rfl m_number_of k_number_of b_number_of v_number_of pass0 (pa_cons (pv 7) (pa_cons (pv 3) pa_nil))) (pe_call G_number_of (hr.mono (by decide)) rfl m_number_of k_number_of b_number_of v_number_of pass0 (pa_cons (pv 8) (pa_cons (pv 3) pa_nil))) (nomark _)) (nomark _)) (pss_one (ps_ret pe_bl)) pss_nil)
    (pss_cons (ps_if (pt_cmpR op_ne (pe_cmpR op_eq (pe_call G_number_of (hr.mono (by decide)) rfl m_number_of k_number_of b_number_of v_number_of pass0 (pa_cons (pv 7) (pa_cons (pv 3) pa_nil))) (pe_call G_number_of (hr.mono (by decide)) rfl m_number_of k_number_of b_number_of v_number_of pass0 (pa_cons (pv 8) (pa_cons (pv 3) pa_nil))) (nomark _)) (pe_cmpR op_eq (pv 7) (pv 8) (nomark _)) (nomark _)) (pss_one (ps_ret pe_bl)) pss_nil)
    (pss_cons (ps_set (i := 10) sc_law.nd rfl (Or.inl rfl) (pe_callB (call_min2 rfl) (by rfl) T.b_min (by decide +kernel) (pa_cons pe_int (pa_cons (pe_op op_add (pv 3) pe_int) pa_nil))))
    (pss_one (ps_if (pt_cmpR op_ne (pv 9) (pe_cmpR op_lt (pe_call G_number_of (hr.mono (by decide)) rfl m_number_of k_number_of b_number_of v_number_of pass0 (pa_cons (pv 7) (pa_cons (pv 10) pa_nil))) (pe_call G_number_of (hr.mono (by decide)) rfl m_number_of k_number_of b_number_of v_number_of pass0 (pa_cons (pv 8) (pa_cons (pv 10) pa_nil))) (nomark _)) (nomark _)) (pss_one (ps_ret pe_bl)) pss_nil)))))))
    (pss_cons (ps_set (i := 11) sc_law.nd rfl (Or.inl rfl) (pe_call G_contrary (hr.mono (by decide)) rfl m_contrary k_contrary b_contrary v_contrary pass0 (pa_cons (pv 7) pa_nil)))
    (pss_one (ps_if (pt_cmpR op_ne (pe_cmpR op_eq (pe_call G_number_of (hr.mono (by decide)) rfl m_number_of k_number_of b_number_of v_number_of pass0 (pa_cons (pv 11) (pa_cons (pv 3) pa_nil))) (pe_call G_number_of (hr.mono (by decide)) rfl m_number_of k_number_of b_number_of v_number_of pass0 (pa_cons (pv 7) (pa_cons (pv 3) pa_nil))) (nomark _)) (pe_cmpR op_eq (pv 11) (pv 7) (nomark _)) (nomark _)) (pss_one (ps_ret pe_bl)) pss_nil)))))
    (pss_one (ps_if (pt_cmpR op_ne (pe_cmpR op_lt (pv 4) (pv 5) (nomark _)) (pe_call G_before (hr.mono (by decide)) rfl m_before k_before b_before v_before pass0 (pa_cons (pe_ix (ix_listK (K := K)) (pv 6) pe_int (fun _ _ => rfl)) (pa_cons (pe_ix (ix_listK (K := K)) (pv 6) pe_int (fun _ _ => rfl)) pa_nil))) (nomark _)) (pss_one (ps_ret pe_bl)) pss_nil))))))))))
    (pss_one (ps_ret pe_bl))), ?_⟩
    have tn := turns_ok (ns.map V.int).length 12 (by decide)
    refine ⟨_, rfl, _, _, rfl, .inl hS, _, _, rfl, _, _, rfl, _, rfl, by omega, by omega, for_range (lo := 0) (n := _) (fun i σ H' => ∃ x1 x2 x3 x4 x5 x6 x7 x8 x9 x10 x11, σ = [some (.ref a), x1, x2, x3, x4, x5, x6, x7, x8, x9, x10, x11] ∧ Same H H')
      ⟨none, none, none, none, none, none, none, none, none, none, none, rfl, Same.refl H⟩ ?_ ?_⟩
    · rintro i σ H1 hi ⟨x1, x2, x3, x4, x5, x6, x7, x8, x9, x10, x11, rfl, s1⟩
      refine ⟨_, rfl, _, rfl, a, ns, _, rfl, s1.seq hS, by omega, by omega, fun p H2 np s2 hp => ?_⟩
      have hpn : H p = none := Same.free s1 np
      have sH := Same.trans s1 s2
      refine ⟨_, rfl, p, 6, rfl, hp, by decide, by decide, fun dv H3 d0 d1 o3 p3 => ⟨_, _, rfl, rfl, ?_⟩⟩
      have sH := Off.same hpn sH o3
      obtain ⟨d, hd1, hd2, hd⟩ : ∃ d : Nat, 1 ≤ d ∧ d ≤ 6 ∧ 1 + dv = (d : Int) := ⟨(1 + dv).toNat, by omega, by omega, by omega⟩
      dsimp only
      rw [hd]
      -- one
      refine ⟨_, rfl, p, 300, rfl, p3, by decide, by decide, fun u1 H4 u10 u11 o4 p4 => ?_⟩
      refine ⟨_, rfl, _, _, rfl, rfl, ⟨by decide, by decide, by decide⟩, p, _, rfl, p4, by decide, by decide, fun u2 H5 u20 u21 o5 p5 => ?_⟩
      refine ⟨_, rfl, _, _, rfl, rfl, ⟨by decide, by decide, by decide⟩, p, _, rfl, p5, by decide, by decide, fun u3 H6 u30 u31 o6 p6 => ?_⟩
      refine ⟨by show 3 ≤ sizeLine; decide, fun q1 hq1 => ?_⟩
      have sH := Off.same hpn (Off.same hpn (Off.same hpn sH o4) o5) o6
      refine ⟨_, rfl, p, 3, rfl, p6.new hq1, by decide, by decide, fun v H7 v0 v1 o7 p7 => ?_⟩
      have sH := Off.same hpn (Same.trans sH (Same.new hq1)) o7
      obtain ⟨x, hx, xx⟩ := at3 (a := V.int u1) (b := V.int u2) (c := V.int u3) v0 v1
      have e9 : (10 : Int) ^ (9 : Int).toNat = 1000000000 := by decide
      have e60 : (2 : Int) ^ (60 : Int).toNat = 1152921504606846976 := by decide
      rw [e9] at u21
      rw [e60] at u31
      obtain ⟨n1, rfl, z1⟩ : ∃ n : Nat, x = .int (n : Int) ∧ n ≤ 1152921504606846976 := by
        rcases xx with rfl | rfl | rfl
        · exact ⟨u1.toNat, by congr 1; omega, by omega⟩
        · exact ⟨u2.toNat, by congr 1; omega, by omega⟩
        · exact ⟨u3.toNat, by congr 1; omega, by omega⟩
      refine ⟨_, _, _, _, rfl, rfl, SqL.of (o7 q1 _ (p6.ne hq1).symm upd_same), hx, ?_⟩
      -- other
      refine ⟨_, rfl, _, rfl, _, _, rfl, rfl, ?_⟩
      refine ⟨_, rfl, p, 300, rfl, p7, by decide, by decide, fun w1 H8 w10 w11 o8 p8 => ?_⟩
      refine ⟨_, rfl, _, _, rfl, rfl, ⟨by decide, by decide, by decide⟩, p, _, rfl, p8, by decide, by decide, fun w2 H9 w20 w21 o9 p9 => ?_⟩
      refine ⟨by show 4 ≤ sizeLine; decide, fun q2 hq2 => ?_⟩
      have sH := Off.same hpn (Off.same hpn sH o8) o9
      refine ⟨_, rfl, p, 4, rfl, p9.new hq2, by decide, by decide, fun v' H10 v'0 v'1 o10 p10 => ?_⟩
      have sH := Off.same hpn (Same.trans sH (Same.new hq2)) o10
      obtain ⟨y, hy, yy⟩ := at4 (a := V.int (n1 : Int)) (b := V.int ((n1 : Int) + 1)) (c := V.int w1) (d := V.int w2) v'0 v'1
      rw [e9] at w21
      obtain ⟨n2, rfl, z2⟩ : ∃ n : Nat, y = .int (n : Int) ∧ n ≤ 1152921504606846977 := by
        rcases yy with rfl | rfl | rfl | rfl
        · exact ⟨n1, rfl, by omega⟩
        · exact ⟨n1 + 1, by congr 1, by omega⟩
        · exact ⟨w1.toNat, by congr 1; omega, by omega⟩
        · exact ⟨w2.toNat, by congr 1; omega, by omega⟩
      refine ⟨_, _, _, _, rfl, rfl, SqL.of (o10 q2 _ (p9.ne hq2).symm upd_same), hy, ?_⟩
      have big := NumM.ones_61 (B := 2 * d) (by omega)
      -- rows
      refine ⟨_, rfl, _, rfl, n1, d, rfl, hd1, hd2, by omega, fun l0 H11 r0 y0 lo0 e0 s11 => ?_⟩
      refine ⟨_, rfl, _, rfl, n2, d, rfl, hd1, hd2, by omega, fun l1 H12 r1 y1 lo1 e1 s12 => ?_⟩
      refine ⟨by show 2 ≤ sizeLine; decide, fun R hR => ?_⟩
      have p12 : Pool (upd H12 R (.lst [.str (S l0), .str (S l1)])) p := ((p10.same s11).same s12).new hR
      have npR : R ≠ p := (((p10.same s11).same s12).ne hR).symm
      refine ⟨_, rfl, _, rfl, _, rfl, p, 60, (d : Int), rfl, p12, by decide, by decide, by omega, by omega, fun l2 H13 r2 y2 lo2 o13 p13 => ?_⟩
      refine ⟨_, rfl, _, rfl, p, 6, (d : Int), rfl, p13, by decide, by decide, by omega, by omega, fun l3 H14 r3 y3 lo3 o14 p14 => ?_⟩
      refine ⟨by show 2 ≤ sizeLine; decide, fun R2 hR2 => ?_⟩
      have hRr : H14 R = some (.lst [.str (S l0), .str (S l1)]) := o14 R _ npR (o13 R _ npR upd_same)
      have nRR : R ≠ R2 := ne_of_none hRr hR2
      refine ⟨R, R2, _, _, rfl, rfl, by rw [upd_ne nRR]; exact hRr, upd_same, by show 4 ≤ sizeLine; decide, fun RR hRR => ?_⟩
      have sH : Same H (upd (upd H14 R2 (.lst [.str (S l2), .str (S l3)])) RR (.lst ([.str (S l0), .str (S l1)] ++ [.str (S l2), .str (S l3)]))) := Same.trans (Off.same hpn (Off.same hpn (Same.trans (Same.trans (Same.trans sH s11) s12) (Same.new hR)) o13) o14) (Same.trans (Same.new hR2) (Same.new hRR))
      have hRw : (upd (upd H14 R2 (.lst [.str (S l2), .str (S l3)])) RR (.lst ([.str (S l0), .str (S l1)] ++ [.str (S l2), .str (S l3)]))) RR = some (.lst [.str (S l0), .str (S l1), .str (S l2), .str (S l3)]) := upd_same
      generalize upd (upd H14 R2 (.lst [.str (S l2), .str (S l3)])) RR (.lst ([.str (S l0), .str (S l1)] ++ [.str (S l2), .str (S l3)])) = H15 at sH hRw
      have lowOf : ∀ l : List Nat, (∀ c ∈ l, (ix c : Int) < 2 * (d : Int)) → Low (2 * d) l := fun l h c hc => by have := h c hc; omega
      have row_at : ∀ (i : Nat) (y : V), [V.str (S l0), V.str (S l1), V.str (S l2), V.str (S l3)][i]? = some y → ∃ l, y = .str (S l) ∧ Row l ∧ l.length ≤ 60 ∧ Low (2 * d) l := fun i y e => by
        have m := List.mem_of_getElem? e
        simp only [List.mem_cons, List.not_mem_nil, or_false] at m
        rcases m with rfl | rfl | rfl | rfl
        · exact ⟨l0, rfl, r0, y0, lo0⟩
        · exact ⟨l1, rfl, r1, y1, lo1⟩
        · exact ⟨l2, rfl, r2, by omega, lowOf _ lo2⟩
        · exact ⟨l3, rfl, r3, by omega, lowOf _ lo3⟩
      have isr : ∀ l : List Nat, Row l → l.length ≤ 60 → isRow l = true := fun l h1 h2 => isRow_iff.mpr ⟨h2, h1⟩
      refine ⟨_, rfl, RR, rfl, ⟨_, SqL.of hRw⟩, for_list (K := K) (a := RR) (xs := [.str (S l0), .str (S l1), .str (S l2), .str (S l3)]) (fun j σ H' => ∃ x7 x8 x9 x10 x11, σ = [some (.ref a), some (.int (0 + i)), some (.ref p), some (.int (d : Int)), some (.int (n1 : Int)), some (.int (n2 : Int)), some (.ref RR), x7, x8, x9, x10, x11] ∧ Same H15 H')
        ⟨_, _, _, _, _, rfl, Same.refl _⟩ (fun j σ H' _ ⟨_, _, _, _, _, _, s⟩ => s.seq (SqL.of hRw)) ?_ ?_⟩
      · rintro j y σ H16 hj ⟨x7, x8, x9, x10, x11, rfl, s16⟩
        obtain ⟨l, rfl, rl, zl, lol⟩ := row_at j y hj
        refine ⟨_, rfl, RR, rfl, ⟨_, s16.seq (SqL.of hRw)⟩, for_list (K := K) (a := RR) (xs := [.str (S l0), .str (S l1), .str (S l2), .str (S l3)]) (fun j' σ H' => ∃ x8 x9 x10 x11, σ = [some (.ref a), some (.int (0 + i)), some (.ref p), some (.int (d : Int)), some (.int (n1 : Int)), some (.int (n2 : Int)), some (.ref RR), some (.str (S l)), x8, x9, x10, x11] ∧ Same H15 H')
          ⟨_, _, _, _, rfl, s16⟩ (fun j σ H' _ ⟨_, _, _, _, _, s⟩ => s.seq (SqL.of hRw)) ?_ ?_⟩
        · rintro j' y' σ H17 hj' ⟨x8, x9, x10, x11, rfl, s17⟩
          obtain ⟨m, rfl, rm, zm, lom⟩ := row_at j' y' hj'
          refine ⟨_, rfl, _, rfl, l, m, rfl, isr l rl zl, isr m rm zm, fun H18 s18 => ?_⟩
          refine ⟨_, rfl, _, rfl, _, rfl, l, d, rfl, isr l rl zl, hd1, hd2, lol, fun H19 s19 => ⟨_, rfl, _, rfl, m, d, rfl, isr m rm zm, hd1, hd2, lom, fun H20 s20 => ⟨_, _, rfl, rfl, rfl, _, rfl, iteNS ?_ ?_⟩⟩⟩
          · rw [NumM.before_num lol lom]
            all_goals exact congrArg V.bl (decide_eq_decide.mpr (by omega))
          refine ⟨_, rfl, _, rfl, l, d, rfl, isr l rl zl, hd1, hd2, lol, fun H21 s21 => ⟨_, rfl, _, rfl, m, d, rfl, isr m rm zm, hd1, hd2, lom, fun H22 s22 => ⟨rfl, _, rfl, _, rfl, rfl, rfl, _, rfl, iteNS ?_ ?_⟩⟩⟩
          · refine congrArg V.bl (decide_eq_decide.mpr ⟨fun h => ?_, fun h => ?_⟩)
            · have h2 : numR (2 * d) l = numR (2 * d) m := by injection h with h; omega
              rw [NumM.num_inj rl rm lol lom h2]
            · have h2 : l = m := congrArg (fun v => match v with | V.str z => z.cps.toList | _ => []) h
              rw [h2]
          refine ⟨_, rfl, _, _, rfl, rfl, _, _, rfl, ?_⟩
          obtain ⟨g, hg1, hg2, hgd, hg⟩ : ∃ g : Nat, 1 ≤ g ∧ g ≤ 6 ∧ d ≤ g ∧ (if (d : Int) + 1 < 6 then (d : Int) + 1 else 6) = (g : Int) := by
            by_cases h : (d : Int) + 1 < 6
            · exact ⟨d + 1, by omega, by omega, by omega, by rw [if_pos h]; rfl⟩
            · exact ⟨6, by omega, by omega, by omega, by rw [if_neg h]; rfl⟩
          have lol2 : Low (2 * g) l := fun c hc => by have := lol c hc; omega
          have lom2 : Low (2 * g) m := fun c hc => by have := lom c hc; omega
          rw [hg]
          refine ⟨_, rfl, _, rfl, _, rfl, l, g, rfl, isr l rl zl, hg1, hg2, lol2, fun H23 s23 => ⟨_, rfl, _, rfl, m, g, rfl, isr m rm zm, hg1, hg2, lom2, fun H24 s24 => ⟨_, _, rfl, rfl, rfl, _, rfl, iteNS ?_ ?_⟩⟩⟩
          · rw [NumM.before_num lol2 lom2]
            all_goals exact congrArg V.bl (decide_eq_decide.mpr (by omega))
          exact ⟨_, _, _, _, rfl, Same.trans s17 (Same.trans s18 (Same.trans s19 (Same.trans s20 (Same.trans s21 (Same.trans s22 (Same.trans s23 s24))))))⟩
        · rintro σ H17 ⟨x8, x9, x10, x11, rfl, s17⟩
          have rt := RowM.turn_row rl
          have zt : (RowM.turn l).length ≤ 60 := by rw [RowM.turn_length]; exact zl
          have lot : Low (2 * d) (RowM.turn l) := fun c hc => by
            simp only [RowM.turn, List.mem_map, List.mem_reverse] at hc
            obtain ⟨b, hb, rfl⟩ := hc
            have := lol b hb
            have q := ix_con (rl b hb)
            omega
          refine ⟨_, rfl, l, rfl, isr l rl zl, fun H18 s18 => ?_⟩
          refine ⟨_, rfl, _, rfl, RowM.turn l, d, rfl, isr _ rt zt, hd1, hd2, lot, fun H19 s19 => ⟨_, rfl, _, rfl, l, d, rfl, isr l rl zl, hd1, hd2, lol, fun H20 s20 => ⟨rfl, _, rfl, _, rfl, rfl, rfl, _, rfl, iteNS ?_ ?_⟩⟩⟩
          · refine congrArg V.bl (decide_eq_decide.mpr ⟨fun h => ?_, fun h => ?_⟩)
            · have h2 : numR (2 * d) (RowM.turn l) = numR (2 * d) l := by injection h with h; omega
              rw [NumM.num_inj rt rl lot lol h2]
            · have h2 : RowM.turn l = l := congrArg (fun v => match v with | V.str z => z.cps.toList | _ => []) h
              rw [h2]
          exact ⟨_, _, _, _, _, rfl, Same.trans s17 (Same.trans s18 (Same.trans s19 s20))⟩
      · rintro σ H16 ⟨x7, x8, x9, x10, x11, rfl, s16⟩
        have hR8 := s16 _ _ hRw
        refine ⟨_, rfl, _, rfl, _, _, rfl, rfl, _, rfl, _, _, _, _, rfl, rfl, SqL.of hR8, atI0, _, rfl, _, _, _, _, rfl, rfl, SqL.of hR8, atI1, l0, l1, rfl, isr _ r0 y0, isr _ r1 y1, fun H17 s17 => ⟨rfl, _, rfl, iteNS ?_ ?_⟩⟩
        · rw [NumM.before_num lo0 lo1, e0, e1]
          all_goals exact congrArg V.bl (decide_eq_decide.mpr (by omega))
        exact ⟨_, _, _, _, _, _, _, _, _, _, _, rfl, Same.trans sH (Same.trans s16 s17)⟩
    · rintro σ H1 ⟨x1, x2, x3, x4, x5, x6, x7, x8, x9, x10, x11, rfl, s1⟩
      exact k _
end
theorem all_mk {l : PySem.W.OpenLaw} {w : World} {K : PySem.W.Frag} {h : Heap} {mg : Str → Option Value} {fa : Addr} (X : K.In h) (G : h.Ns mainGlobals mg) (hfa : mg "law" = some (.ref fa))
    {t_DEEDS : Tok}
    {t_DIGITS : Tok}
    {t_MOST_SIGNS : Tok}
    {t_SIGNS : Tok}
    {f_law_pool : Addr} {od_law_pool an_law_pool : Option Addr} {sl_law_pool : Array (Option Value)} {oc_law_pool kV_law_pool dc_law_pool pm_law_pool cd_law_pool ct_law_pool : Value}
    {f_law_take : Addr} {od_law_take an_law_take : Option Addr} {sl_law_take : Array (Option Value)} {oc_law_take kV_law_take dc_law_take pm_law_take cd_law_take ct_law_take : Value}
    {f_is_whole : Addr} {od_is_whole an_is_whole : Option Addr} {sl_is_whole : Array (Option Value)} {oc_is_whole kV_is_whole dc_is_whole pm_is_whole cd_is_whole ct_is_whole : Value}
    {f_look_at_deeds : Addr} {od_look_at_deeds an_look_at_deeds : Option Addr} {sl_look_at_deeds : Array (Option Value)} {oc_look_at_deeds kV_look_at_deeds dc_look_at_deeds pm_look_at_deeds cd_look_at_deeds ct_look_at_deeds : Value}
    {f_row_at : Addr} {od_row_at an_row_at : Option Addr} {sl_row_at : Array (Option Value)} {oc_row_at kV_row_at dc_row_at pm_row_at cd_row_at ct_row_at : Value}
    {T_row_at : Addr} {tc_row_at : Value} {tdd_row_at : Option Addr} {tn_row_at : Nat} {ts_row_at : Array (Option Value)} {td0_row_at : Tok}
    {f_law_turned : Addr} {od_law_turned an_law_turned : Option Addr} {sl_law_turned : Array (Option Value)} {oc_law_turned kV_law_turned dc_law_turned pm_law_turned cd_law_turned ct_law_turned : Value}
    {f_law_row : Addr} {od_law_row an_law_row : Option Addr} {sl_law_row : Array (Option Value)} {oc_law_row kV_law_row dc_law_row pm_law_row cd_law_row ct_law_row : Value}
    {f_is_row_within : Addr} {od_is_row_within an_is_row_within : Option Addr} {sl_is_row_within : Array (Option Value)} {oc_is_row_within kV_is_row_within dc_is_row_within pm_is_row_within cd_is_row_within ct_is_row_within : Value}
    {f_is_row : Addr} {od_is_row an_is_row : Option Addr} {sl_is_row : Array (Option Value)} {oc_is_row kV_is_row dc_is_row pm_is_row cd_is_row ct_is_row : Value}
    {f_look_at_row : Addr} {od_look_at_row an_look_at_row : Option Addr} {sl_look_at_row : Array (Option Value)} {oc_look_at_row kV_look_at_row dc_look_at_row pm_look_at_row cd_look_at_row ct_look_at_row : Value}
    {f_rank : Addr} {od_rank an_rank : Option Addr} {sl_rank : Array (Option Value)} {oc_rank kV_rank dc_rank pm_rank cd_rank ct_rank : Value}
    {f_before : Addr} {od_before an_before : Option Addr} {sl_before : Array (Option Value)} {oc_before kV_before dc_before pm_before cd_before ct_before : Value}
    {f_number_of : Addr} {od_number_of an_number_of : Option Addr} {sl_number_of : Array (Option Value)} {oc_number_of kV_number_of dc_number_of pm_number_of cd_number_of ct_number_of : Value}
    {T_number_of : Addr} {tc_number_of : Value} {tdd_number_of : Option Addr} {tn_number_of : Nat} {ts_number_of : Array (Option Value)} {td0_number_of : Tok}
    {f_contrary_sign : Addr} {od_contrary_sign an_contrary_sign : Option Addr} {sl_contrary_sign : Array (Option Value)} {oc_contrary_sign kV_contrary_sign dc_contrary_sign pm_contrary_sign cd_contrary_sign ct_contrary_sign : Value}
    {f_turned : Addr} {od_turned an_turned : Option Addr} {sl_turned : Array (Option Value)} {oc_turned kV_turned dc_turned pm_turned cd_turned ct_turned : Value}
    {f_contrary : Addr} {od_contrary an_contrary : Option Addr} {sl_contrary : Array (Option Value)} {oc_contrary kV_contrary dc_contrary pm_contrary cd_contrary ct_contrary : Value}
    {f_law : Addr} {od_law an_law : Option Addr} {sl_law : Array (Option Value)} {oc_law kV_law dc_law pm_law cd_law ct_law : Value}
    (z_all : PySem.W.nsIn K mainGlobals "all" = some none)
    (z_bool : PySem.W.nsIn K mainGlobals "bool" = some none)
    (z_enumerate : PySem.W.nsIn K mainGlobals "enumerate" = some none)
    (z_int : PySem.W.nsIn K mainGlobals "int" = some none)
    (z_isinstance : PySem.W.nsIn K mainGlobals "isinstance" = some none)
    (z_len : PySem.W.nsIn K mainGlobals "len" = some none)
    (z_max : PySem.W.nsIn K mainGlobals "max" = some none)
    (z_min : PySem.W.nsIn K mainGlobals "min" = some none)
    (z_range : PySem.W.nsIn K mainGlobals "range" = some none)
    (z_str : PySem.W.nsIn K mainGlobals "str" = some none)
    (n_DEEDS : PySem.W.nsIn K mainGlobals "DEEDS" = some (some (.str "abcdef" t_DEEDS)))
    (n_DIGITS : PySem.W.nsIn K mainGlobals "DIGITS" = some (some (.str "0123456789ab" t_DIGITS)))
    (n_MOST_SIGNS : PySem.W.nsIn K mainGlobals "MOST_SIGNS" = some (some (.int 60 t_MOST_SIGNS)))
    (n_SIGNS : PySem.W.nsIn K mainGlobals "SIGNS" = some (some (.str "aAbBcCdDeEfF" t_SIGNS)))
    (a_law_pool : PySem.W.nsIn K mainGlobals "_law_pool" = some (some (.ref f_law_pool)))
    (l_law_pool : K.lookup f_law_pool = some ⟨oc_law_pool, od_law_pool, .func (PySem.W.fnOf "_law_pool" "_law_pool" (defArgs s_law_pool) (defBody s_law_pool) (defScope s_law_pool) .none kV_law_pool dc_law_pool pm_law_pool an_law_pool cd_law_pool ct_law_pool), sl_law_pool⟩)
    (c_law_pool : PySem.W.codeIn K cd_law_pool "_law_pool" = true)
    (k_law_pool : PySem.W.keepIn K (.ref f_law_pool) = true)
    (a_law_take : PySem.W.nsIn K mainGlobals "_law_take" = some (some (.ref f_law_take)))
    (l_law_take : K.lookup f_law_take = some ⟨oc_law_take, od_law_take, .func (PySem.W.fnOf "_law_take" "_law_take" (defArgs s_law_take) (defBody s_law_take) (defScope s_law_take) .none kV_law_take dc_law_take pm_law_take an_law_take cd_law_take ct_law_take), sl_law_take⟩)
    (c_law_take : PySem.W.codeIn K cd_law_take "_law_take" = true)
    (k_law_take : PySem.W.keepIn K (.ref f_law_take) = true)
    (a_is_whole : PySem.W.nsIn K mainGlobals "is_whole" = some (some (.ref f_is_whole)))
    (l_is_whole : K.lookup f_is_whole = some ⟨oc_is_whole, od_is_whole, .func (PySem.W.fnOf "is_whole" "is_whole" (defArgs s_is_whole) (defBody s_is_whole) (defScope s_is_whole) .none kV_is_whole dc_is_whole pm_is_whole an_is_whole cd_is_whole ct_is_whole), sl_is_whole⟩)
    (c_is_whole : PySem.W.codeIn K cd_is_whole "is_whole" = true)
    (k_is_whole : PySem.W.keepIn K (.ref f_is_whole) = true)
    (a_look_at_deeds : PySem.W.nsIn K mainGlobals "look_at_deeds" = some (some (.ref f_look_at_deeds)))
    (l_look_at_deeds : K.lookup f_look_at_deeds = some ⟨oc_look_at_deeds, od_look_at_deeds, .func (PySem.W.fnOf "look_at_deeds" "look_at_deeds" (defArgs s_look_at_deeds) (defBody s_look_at_deeds) (defScope s_look_at_deeds) .none kV_look_at_deeds dc_look_at_deeds pm_look_at_deeds an_look_at_deeds cd_look_at_deeds ct_look_at_deeds), sl_look_at_deeds⟩)
    (c_look_at_deeds : PySem.W.codeIn K cd_look_at_deeds "look_at_deeds" = true)
    (k_look_at_deeds : PySem.W.keepIn K (.ref f_look_at_deeds) = true)
    (a_row_at : PySem.W.nsIn K mainGlobals "row_at" = some (some (.ref f_row_at)))
    (l_row_at : K.lookup f_row_at = some ⟨oc_row_at, od_row_at, .func (PySem.W.fnOf "row_at" "row_at" (defArgs s_row_at) (defBody s_row_at) (defScope s_row_at) (.ref T_row_at) kV_row_at dc_row_at pm_row_at an_row_at cd_row_at ct_row_at), sl_row_at⟩)
    (t_row_at : K.lookup T_row_at = some ⟨tc_row_at, tdd_row_at, .seq #[.int 2 td0_row_at] tn_row_at, ts_row_at⟩)
    (c_row_at : PySem.W.codeIn K cd_row_at "row_at" = true)
    (k_row_at : PySem.W.keepIn K (.ref f_row_at) = true)
    (a_law_turned : PySem.W.nsIn K mainGlobals "_law_turned" = some (some (.ref f_law_turned)))
    (l_law_turned : K.lookup f_law_turned = some ⟨oc_law_turned, od_law_turned, .func (PySem.W.fnOf "_law_turned" "_law_turned" (defArgs s_law_turned) (defBody s_law_turned) (defScope s_law_turned) .none kV_law_turned dc_law_turned pm_law_turned an_law_turned cd_law_turned ct_law_turned), sl_law_turned⟩)
    (c_law_turned : PySem.W.codeIn K cd_law_turned "_law_turned" = true)
    (k_law_turned : PySem.W.keepIn K (.ref f_law_turned) = true)
    (a_law_row : PySem.W.nsIn K mainGlobals "_law_row" = some (some (.ref f_law_row)))
    (l_law_row : K.lookup f_law_row = some ⟨oc_law_row, od_law_row, .func (PySem.W.fnOf "_law_row" "_law_row" (defArgs s_law_row) (defBody s_law_row) (defScope s_law_row) .none kV_law_row dc_law_row pm_law_row an_law_row cd_law_row ct_law_row), sl_law_row⟩)
    (c_law_row : PySem.W.codeIn K cd_law_row "_law_row" = true)
    (k_law_row : PySem.W.keepIn K (.ref f_law_row) = true)
    (a_is_row_within : PySem.W.nsIn K mainGlobals "is_row_within" = some (some (.ref f_is_row_within)))
    (l_is_row_within : K.lookup f_is_row_within = some ⟨oc_is_row_within, od_is_row_within, .func (PySem.W.fnOf "is_row_within" "is_row_within" (defArgs s_is_row_within) (defBody s_is_row_within) (defScope s_is_row_within) .none kV_is_row_within dc_is_row_within pm_is_row_within an_is_row_within cd_is_row_within ct_is_row_within), sl_is_row_within⟩)
    (c_is_row_within : PySem.W.codeIn K cd_is_row_within "is_row_within" = true)
    (k_is_row_within : PySem.W.keepIn K (.ref f_is_row_within) = true)
    (a_is_row : PySem.W.nsIn K mainGlobals "is_row" = some (some (.ref f_is_row)))
    (l_is_row : K.lookup f_is_row = some ⟨oc_is_row, od_is_row, .func (PySem.W.fnOf "is_row" "is_row" (defArgs s_is_row) (defBody s_is_row) (defScope s_is_row) .none kV_is_row dc_is_row pm_is_row an_is_row cd_is_row ct_is_row), sl_is_row⟩)
    (c_is_row : PySem.W.codeIn K cd_is_row "is_row" = true)
    (k_is_row : PySem.W.keepIn K (.ref f_is_row) = true)
    (a_look_at_row : PySem.W.nsIn K mainGlobals "look_at_row" = some (some (.ref f_look_at_row)))
    (l_look_at_row : K.lookup f_look_at_row = some ⟨oc_look_at_row, od_look_at_row, .func (PySem.W.fnOf "look_at_row" "look_at_row" (defArgs s_look_at_row) (defBody s_look_at_row) (defScope s_look_at_row) .none kV_look_at_row dc_look_at_row pm_look_at_row an_look_at_row cd_look_at_row ct_look_at_row), sl_look_at_row⟩)
    (c_look_at_row : PySem.W.codeIn K cd_look_at_row "look_at_row" = true)
    (k_look_at_row : PySem.W.keepIn K (.ref f_look_at_row) = true)
    (a_rank : PySem.W.nsIn K mainGlobals "rank" = some (some (.ref f_rank)))
    (l_rank : K.lookup f_rank = some ⟨oc_rank, od_rank, .func (PySem.W.fnOf "rank" "rank" (defArgs s_rank) (defBody s_rank) (defScope s_rank) .none kV_rank dc_rank pm_rank an_rank cd_rank ct_rank), sl_rank⟩)
    (c_rank : PySem.W.codeIn K cd_rank "rank" = true)
    (k_rank : PySem.W.keepIn K (.ref f_rank) = true)
    (a_before : PySem.W.nsIn K mainGlobals "before" = some (some (.ref f_before)))
    (l_before : K.lookup f_before = some ⟨oc_before, od_before, .func (PySem.W.fnOf "before" "before" (defArgs s_before) (defBody s_before) (defScope s_before) .none kV_before dc_before pm_before an_before cd_before ct_before), sl_before⟩)
    (c_before : PySem.W.codeIn K cd_before "before" = true)
    (k_before : PySem.W.keepIn K (.ref f_before) = true)
    (a_number_of : PySem.W.nsIn K mainGlobals "number_of" = some (some (.ref f_number_of)))
    (l_number_of : K.lookup f_number_of = some ⟨oc_number_of, od_number_of, .func (PySem.W.fnOf "number_of" "number_of" (defArgs s_number_of) (defBody s_number_of) (defScope s_number_of) (.ref T_number_of) kV_number_of dc_number_of pm_number_of an_number_of cd_number_of ct_number_of), sl_number_of⟩)
    (t_number_of : K.lookup T_number_of = some ⟨tc_number_of, tdd_number_of, .seq #[.int 2 td0_number_of] tn_number_of, ts_number_of⟩)
    (c_number_of : PySem.W.codeIn K cd_number_of "number_of" = true)
    (k_number_of : PySem.W.keepIn K (.ref f_number_of) = true)
    (a_contrary_sign : PySem.W.nsIn K mainGlobals "contrary_sign" = some (some (.ref f_contrary_sign)))
    (l_contrary_sign : K.lookup f_contrary_sign = some ⟨oc_contrary_sign, od_contrary_sign, .func (PySem.W.fnOf "contrary_sign" "contrary_sign" (defArgs s_contrary_sign) (defBody s_contrary_sign) (defScope s_contrary_sign) .none kV_contrary_sign dc_contrary_sign pm_contrary_sign an_contrary_sign cd_contrary_sign ct_contrary_sign), sl_contrary_sign⟩)
    (c_contrary_sign : PySem.W.codeIn K cd_contrary_sign "contrary_sign" = true)
    (k_contrary_sign : PySem.W.keepIn K (.ref f_contrary_sign) = true)
    (a_turned : PySem.W.nsIn K mainGlobals "turned" = some (some (.ref f_turned)))
    (l_turned : K.lookup f_turned = some ⟨oc_turned, od_turned, .func (PySem.W.fnOf "turned" "turned" (defArgs s_turned) (defBody s_turned) (defScope s_turned) .none kV_turned dc_turned pm_turned an_turned cd_turned ct_turned), sl_turned⟩)
    (c_turned : PySem.W.codeIn K cd_turned "turned" = true)
    (k_turned : PySem.W.keepIn K (.ref f_turned) = true)
    (a_contrary : PySem.W.nsIn K mainGlobals "contrary" = some (some (.ref f_contrary)))
    (l_contrary : K.lookup f_contrary = some ⟨oc_contrary, od_contrary, .func (PySem.W.fnOf "contrary" "contrary" (defArgs s_contrary) (defBody s_contrary) (defScope s_contrary) .none kV_contrary dc_contrary pm_contrary an_contrary cd_contrary ct_contrary), sl_contrary⟩)
    (c_contrary : PySem.W.codeIn K cd_contrary "contrary" = true)
    (k_contrary : PySem.W.keepIn K (.ref f_contrary) = true)
    (a_law : PySem.W.nsIn K mainGlobals "law" = some (some (.ref f_law)))
    (l_law : K.lookup f_law = some ⟨oc_law, od_law, .func (PySem.W.fnOf "law" "law" (defArgs s_law) (defBody s_law) (defScope s_law) .none kV_law dc_law pm_law an_law cd_law ct_law), sl_law⟩)
    (c_law : PySem.W.codeIn K cd_law "law" = true)
    (k_law : PySem.W.keepIn K (.ref f_law) = true) :
    ∃ fd : FuncData, (∀ (s : Shared) (v : Value), BindsTo s fd ⟨[v], []⟩ [("_law_script", v)]) ∧ ∀ base : Heap, K.In base → base.Ns mainGlobals mg → FnOk l.prog w K mg base CX0 5 fa fd ["_law_script"] (sp_law K) := by
  have e := hfa.symm.trans (PySem.W.mg_of X G a_law)
  cases e
  have T : Txt K mg := ⟨PySem.W.mg_none_of X G z_all, PySem.W.mg_none_of X G z_bool, PySem.W.mg_none_of X G z_enumerate, PySem.W.mg_none_of X G z_int, PySem.W.mg_none_of X G z_isinstance, PySem.W.mg_none_of X G z_len, PySem.W.mg_none_of X G z_max, PySem.W.mg_none_of X G z_min, PySem.W.mg_none_of X G z_range, PySem.W.mg_none_of X G z_str, ⟨_, PySem.W.mg_of X G n_DEEDS, ⟨_, rfl⟩⟩, ⟨_, PySem.W.mg_of X G n_DIGITS, ⟨_, rfl⟩⟩, ⟨_, PySem.W.mg_of X G n_MOST_SIGNS, ⟨_, rfl⟩⟩, ⟨_, PySem.W.mg_of X G n_SIGNS, ⟨_, rfl⟩⟩⟩
  have F_law_pool := fun_mk (st := s_law_pool) l_law_pool c_law_pool k_law_pool
  have b_law_pool := F_law_pool.binds (ps := ["_law_script", "_law_k"]) fun _ _ _ _ _ _ us hl => match us, hl with | [_, _], _ => rfl
  have F_law_take := fun_mk (st := s_law_take) l_law_take c_law_take k_law_take
  have b_law_take := F_law_take.binds (ps := ["_law_pool_here", "_law_many"]) fun _ _ _ _ _ _ us hl => match us, hl with | [_, _], _ => rfl
  have F_is_whole := fun_mk (st := s_is_whole) l_is_whole c_is_whole k_is_whole
  have b_is_whole := F_is_whole.binds (ps := ["thing"]) fun _ _ _ _ _ _ us hl => match us, hl with | [_], _ => rfl
  have F_look_at_deeds := fun_mk (st := s_look_at_deeds) l_look_at_deeds c_look_at_deeds k_look_at_deeds
  have b_look_at_deeds := F_look_at_deeds.binds (ps := ["deeds", "most"]) fun _ _ _ _ _ _ us hl => match us, hl with | [_, _], _ => rfl
  have F_row_at := funD_mk (st := s_row_at) (its := [.int 2 td0_row_at]) (dvs := [.int 2]) l_row_at c_row_at k_row_at t_row_at rfl (.cons ⟨_, rfl⟩ .nil) (by simp)
  obtain ⟨ds_row_at, v_row_at, b_row_at⟩ := FunD.binds1 F_row_at (ps := ["number", "deeds"]) 2 1 (by simp) rfl fun _ _ _ _ _ _ _ us its hu hi => match us, hu, its, hi with | [_, _], _, [_], _ => ⟨_, rfl, rfl⟩
  have F_law_turned := fun_mk (st := s_law_turned) l_law_turned c_law_turned k_law_turned
  have b_law_turned := F_law_turned.binds (ps := ["_law_text"]) fun _ _ _ _ _ _ us hl => match us, hl with | [_], _ => rfl
  have F_law_row := fun_mk (st := s_law_row) l_law_row c_law_row k_law_row
  have b_law_row := F_law_row.binds (ps := ["_law_pool_here", "_law_most", "_law_deeds"]) fun _ _ _ _ _ _ us hl => match us, hl with | [_, _, _], _ => rfl
  have F_is_row_within := fun_mk (st := s_is_row_within) l_is_row_within c_is_row_within k_is_row_within
  have b_is_row_within := F_is_row_within.binds (ps := ["thing", "most"]) fun _ _ _ _ _ _ us hl => match us, hl with | [_, _], _ => rfl
  have F_is_row := fun_mk (st := s_is_row) l_is_row c_is_row k_is_row
  have b_is_row := F_is_row.binds (ps := ["thing"]) fun _ _ _ _ _ _ us hl => match us, hl with | [_], _ => rfl
  have F_look_at_row := fun_mk (st := s_look_at_row) l_look_at_row c_look_at_row k_look_at_row
  have b_look_at_row := F_look_at_row.binds (ps := ["thing"]) fun _ _ _ _ _ _ us hl => match us, hl with | [_], _ => rfl
  have F_rank := fun_mk (st := s_rank) l_rank c_rank k_rank
  have b_rank := F_rank.binds (ps := ["text"]) fun _ _ _ _ _ _ us hl => match us, hl with | [_], _ => rfl
  have F_before := fun_mk (st := s_before) l_before c_before k_before
  have b_before := F_before.binds (ps := ["one", "other"]) fun _ _ _ _ _ _ us hl => match us, hl with | [_, _], _ => rfl
  have F_number_of := funD_mk (st := s_number_of) (its := [.int 2 td0_number_of]) (dvs := [.int 2]) l_number_of c_number_of k_number_of t_number_of rfl (.cons ⟨_, rfl⟩ .nil) (by simp)
  obtain ⟨ds_number_of, v_number_of, b_number_of⟩ := FunD.binds1 F_number_of (ps := ["row", "deeds"]) 2 1 (by simp) rfl fun _ _ _ _ _ _ _ us its hu hi => match us, hu, its, hi with | [_, _], _, [_], _ => ⟨_, rfl, rfl⟩
  have F_contrary_sign := fun_mk (st := s_contrary_sign) l_contrary_sign c_contrary_sign k_contrary_sign
  have b_contrary_sign := F_contrary_sign.binds (ps := ["sign"]) fun _ _ _ _ _ _ us hl => match us, hl with | [_], _ => rfl
  have F_turned := fun_mk (st := s_turned) l_turned c_turned k_turned
  have b_turned := F_turned.binds (ps := ["text"]) fun _ _ _ _ _ _ us hl => match us, hl with | [_], _ => rfl
  have F_contrary := fun_mk (st := s_contrary) l_contrary c_contrary k_contrary
  have b_contrary := F_contrary.binds (ps := ["row"]) fun _ _ _ _ _ _ us hl => match us, hl with | [_], _ => rfl
  have F_law := fun_mk (st := s_law) l_law c_law k_law
  refine ⟨PySem.W.fnOf "law" "law" (defArgs s_law) (defBody s_law) (defScope s_law) .none kV_law dc_law pm_law an_law cd_law ct_law, fun s v => .of_eq rfl, fun base _ _ => ?_⟩
  have N_law_pool : KN l.prog w K mg base 1 ["_law_script", "_law_k"] (sp_law_pool K) "_law_pool" [] := ⟨_, _, [], PySem.W.mg_of X G a_law_pool, k_law_pool, .nil, b_law_pool, ok_law_pool F_law_pool T⟩
  have N_law_take : KN l.prog w K mg base 1 ["_law_pool_here", "_law_many"] (sp_law_take) "_law_take" [] := ⟨_, _, [], PySem.W.mg_of X G a_law_take, k_law_take, .nil, b_law_take, ok_law_take F_law_take T⟩
  have N_is_whole : KN l.prog w K mg base 1 ["thing"] (sp_is_whole) "is_whole" [] := ⟨_, _, [], PySem.W.mg_of X G a_is_whole, k_is_whole, .nil, b_is_whole, ok_is_whole F_is_whole T⟩
  have N_look_at_deeds : KN l.prog w K mg base 2 ["deeds", "most"] (sp_look_at_deeds) "look_at_deeds" [] := ⟨_, _, [], PySem.W.mg_of X G a_look_at_deeds, k_look_at_deeds, .nil, b_look_at_deeds, ok_look_at_deeds F_look_at_deeds T N_is_whole⟩
  have N_row_at : KN l.prog w K mg base 3 ["number", "deeds"] (sp_row_at) "row_at" [] := ⟨_, _, _, PySem.W.mg_of X G a_row_at, k_row_at, v_row_at, b_row_at, ok_row_at F_row_at T N_look_at_deeds N_is_whole⟩
  have N_law_turned : KN l.prog w K mg base 1 ["_law_text"] (sp_law_turned) "_law_turned" [] := ⟨_, _, [], PySem.W.mg_of X G a_law_turned, k_law_turned, .nil, b_law_turned, ok_law_turned F_law_turned T⟩
  have N_law_row : KN l.prog w K mg base 2 ["_law_pool_here", "_law_most", "_law_deeds"] (sp_law_row) "_law_row" [] := ⟨_, _, [], PySem.W.mg_of X G a_law_row, k_law_row, .nil, b_law_row, ok_law_row F_law_row T N_law_take N_law_turned⟩
  have N_is_row_within : KN l.prog w K mg base 1 ["thing", "most"] (sp_is_row_within) "is_row_within" [] := ⟨_, _, [], PySem.W.mg_of X G a_is_row_within, k_is_row_within, .nil, b_is_row_within, ok_is_row_within F_is_row_within T⟩
  have N_is_row : KN l.prog w K mg base 2 ["thing"] (sp_is_row) "is_row" [] := ⟨_, _, [], PySem.W.mg_of X G a_is_row, k_is_row, .nil, b_is_row, ok_is_row F_is_row T N_is_row_within⟩
  have N_look_at_row : KN l.prog w K mg base 3 ["thing"] (sp_look_at_row) "look_at_row" [] := ⟨_, _, [], PySem.W.mg_of X G a_look_at_row, k_look_at_row, .nil, b_look_at_row, ok_look_at_row F_look_at_row T N_is_row⟩
  have N_rank : KN l.prog w K mg base 1 ["text"] (sp_rank) "rank" [] := ⟨_, _, [], PySem.W.mg_of X G a_rank, k_rank, .nil, b_rank, ok_rank F_rank T⟩
  have N_before : KN l.prog w K mg base 4 ["one", "other"] (sp_before) "before" [] := ⟨_, _, [], PySem.W.mg_of X G a_before, k_before, .nil, b_before, ok_before F_before T N_look_at_row N_rank⟩
  have N_number_of : KN l.prog w K mg base 4 ["row", "deeds"] (sp_number_of) "number_of" [] := ⟨_, _, _, PySem.W.mg_of X G a_number_of, k_number_of, v_number_of, b_number_of, ok_number_of F_number_of T N_look_at_row N_look_at_deeds⟩
  have N_contrary_sign : KN l.prog w K mg base 1 ["sign"] (sp_contrary_sign) "contrary_sign" [] := ⟨_, _, [], PySem.W.mg_of X G a_contrary_sign, k_contrary_sign, .nil, b_contrary_sign, ok_contrary_sign F_contrary_sign T⟩
  have N_turned : KN l.prog w K mg base 2 ["text"] (sp_turned) "turned" [] := ⟨_, _, [], PySem.W.mg_of X G a_turned, k_turned, .nil, b_turned, ok_turned F_turned T N_contrary_sign⟩
  have N_contrary : KN l.prog w K mg base 4 ["row"] (sp_contrary) "contrary" [] := ⟨_, _, [], PySem.W.mg_of X G a_contrary, k_contrary, .nil, b_contrary, ok_contrary F_contrary T N_look_at_row N_turned⟩
  exact ok_law F_law T N_law_pool N_law_take N_row_at N_law_row N_before N_number_of N_contrary
theorem walk {l : PySem.W.OpenLaw} {q : Program} {loose : List Str} {XP : (Str → Option Value) → Heap → Prop} {YP : World → Heap → Prop} {d : DefRec} {K : Params → PySem.W.Frag} (hn : l.most = some 63) (hdf : d.params.defaults = [])
    (hY : ∀ (w : World) (h : Heap), YP w h → (K w.params).In h)
    (F : ∀ (w : World) (mg : Str → Option Value) (fa : Addr) (h : Heap), (K w.params).In h → h.Ns mainGlobals mg → mg d.name = some (.ref fa) →
      ∃ fd : FuncData, (∀ (s : Shared) (u : Value), BindsTo s fd ⟨[u], []⟩ [("_law_script", u)]) ∧ ∀ base : Heap, (K w.params).In base → base.Ns mainGlobals mg → FnOk l.prog w (K w.params) mg base CX0 5 fa fd ["_law_script"] (sp_law (K w.params))) :
    PySem.W.WalkO q loose XP YP l.row.toRowW d [] (fun f vs => PySem.call f vs) :=
  L2.walk_of (n := 63) (k := 5) (x := "_law_script") (CX := fun _ => CX0) (sp := fun w => sp_law (K w.params)) hn (by decide) hdf ⟨rfl, by decide, by decide⟩ hY F (fun _ _ a ns hl _ hS => ⟨a, ns, rfl, hS, hl, fun _ => rfl⟩) fun _ _ _ _ _ z => z
end Toy

open PySem PySem.W PyProof.Rows in
set_option maxRecDepth 100000 in
set_option maxHeartbeats 0 in
theorem PySem.Challenge.cw_undotrees_k06_whole_numbers_in_order_holds : PySem.Challenge.rw_undotrees_k06_whole_numbers_in_order.Holds := by
  w_on; o_law; k_head; (case hw => w_witness2)
  k_fill
  refine Toy.walk (l := PySem.Challenge.rw_undotrees_k06_whole_numbers_in_order) rfl rfl (fun w h Y => PySem.W.kIn_of Y) ?F
  case F =>
    intro w mg fa h KX G hmg
    refine' Toy.all_mk KX G hmg ?z_all ?z_bool ?z_enumerate ?z_int ?z_isinstance ?z_len ?z_max ?z_min ?z_range ?z_str ?n_DEEDS ?n_DIGITS ?n_MOST_SIGNS ?n_SIGNS ?a_law_pool ?l_law_pool ?c_law_pool ?k_law_pool ?a_law_take ?l_law_take ?c_law_take ?k_law_take ?a_is_whole ?l_is_whole ?c_is_whole ?k_is_whole ?a_look_at_deeds ?l_look_at_deeds ?c_look_at_deeds ?k_look_at_deeds ?a_row_at ?l_row_at ?t_row_at ?c_row_at ?k_row_at ?a_law_turned ?l_law_turned ?c_law_turned ?k_law_turned ?a_law_row ?l_law_row ?c_law_row ?k_law_row ?a_is_row_within ?l_is_row_within ?c_is_row_within ?k_is_row_within ?a_is_row ?l_is_row ?c_is_row ?k_is_row ?a_look_at_row ?l_look_at_row ?c_look_at_row ?k_look_at_row ?a_rank ?l_rank ?c_rank ?k_rank ?a_before ?l_before ?c_before ?k_before ?a_number_of ?l_number_of ?t_number_of ?c_number_of ?k_number_of ?a_contrary_sign ?l_contrary_sign ?c_contrary_sign ?k_contrary_sign ?a_turned ?l_turned ?c_turned ?k_turned ?a_contrary ?l_contrary ?c_contrary ?k_contrary ?a_law ?l_law ?c_law ?k_law
    (case z_all => k_is)
    (case z_bool => k_is)
    (case z_enumerate => k_is)
    (case z_int => k_is)
    (case z_isinstance => k_is)
    (case z_len => k_is)
    (case z_max => k_is)
    (case z_min => k_is)
    (case z_range => k_is)
    (case z_str => k_is)
    (case n_DEEDS => k_is)
    (case n_DIGITS => k_is)
    (case n_MOST_SIGNS => k_is)
    (case n_SIGNS => k_is)
    (case a_law_pool => k_is)
    (case l_law_pool => k_is)
    (case c_law_pool => k_is)
    (case k_law_pool => k_is)
    (case a_law_take => k_is)
    (case l_law_take => k_is)
    (case c_law_take => k_is)
    (case k_law_take => k_is)
    (case a_is_whole => k_is)
    (case l_is_whole => k_is)
    (case c_is_whole => k_is)
    (case k_is_whole => k_is)
    (case a_look_at_deeds => k_is)
    (case l_look_at_deeds => k_is)
    (case c_look_at_deeds => k_is)
    (case k_look_at_deeds => k_is)
    (case a_row_at => k_is)
    (case l_row_at => k_is)
    (case t_row_at => k_is)
    (case c_row_at => k_is)
    (case k_row_at => k_is)
    (case a_law_turned => k_is)
    (case l_law_turned => k_is)
    (case c_law_turned => k_is)
    (case k_law_turned => k_is)
    (case a_law_row => k_is)
    (case l_law_row => k_is)
    (case c_law_row => k_is)
    (case k_law_row => k_is)
    (case a_is_row_within => k_is)
    (case l_is_row_within => k_is)
    (case c_is_row_within => k_is)
    (case k_is_row_within => k_is)
    (case a_is_row => k_is)
    (case l_is_row => k_is)
    (case c_is_row => k_is)
    (case k_is_row => k_is)
    (case a_look_at_row => k_is)
    (case l_look_at_row => k_is)
    (case c_look_at_row => k_is)
    (case k_look_at_row => k_is)
    (case a_rank => k_is)
    (case l_rank => k_is)
    (case c_rank => k_is)
    (case k_rank => k_is)
    (case a_before => k_is)
    (case l_before => k_is)
    (case c_before => k_is)
    (case k_before => k_is)
    (case a_number_of => k_is)
    (case l_number_of => k_is)
    (case t_number_of => k_is)
    (case c_number_of => k_is)
    (case k_number_of => k_is)
    (case a_contrary_sign => k_is)
    (case l_contrary_sign => k_is)
    (case c_contrary_sign => k_is)
    (case k_contrary_sign => k_is)
    (case a_turned => k_is)
    (case l_turned => k_is)
    (case c_turned => k_is)
    (case k_turned => k_is)
    (case a_contrary => k_is)
    (case l_contrary => k_is)
    (case c_contrary => k_is)
    (case k_contrary => k_is)
    (case a_law => k_is)
    (case l_law => k_is)
    (case c_law => k_is)
    (case k_law => k_is)

