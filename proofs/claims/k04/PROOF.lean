import PyProof.Rows.All
import Wide.All
import OpenK.AllK
import Wide.FinOn
import HandS.ForMost
import HandS.ForExc
import HandS.Walk
import HandS.StrMore
import HandS.Replace
import HandS.IsInst
import HandS.Style
import HandS.Steps
import HandS.Evl
import HandS.Wide
import HandS.Defaults
import HandS.IntHex
import HandS.ExcIs
import HandS.TryMany
import HandS.ExcInit
import HandS.ExcField
import KE.KExcInit
import KE.KExcLine
import KE.KExcIs
import PyProof.ListStr
import PyProof.ReprRoads
import PyProof.StrBlock2
import KE.DataCmp
import KE.GoesZip
import KE.GoesMore
import KE.GoesEnum
import PySem.Challenge.RW_undotrees_k04_rows_by_numbers
set_option Elab.async false
set_option linter.all false
set_option maxRecDepth 100000
set_option maxHeartbeats 4000000

namespace RowM
/-- the twelve signs, in their order -/
def sgns : List Nat := [97, 65, 98, 66, 99, 67, 100, 68, 101, 69, 102, 70]
def con (c : Nat) : Nat := if 97 ≤ c then c - 32 else c + 32
def ix (c : Nat) : Nat := sgns.idxOf c
def lo (c : Nat) : Nat := if 97 ≤ c then c else c + 32
def up (c : Nat) : Nat := if 97 ≤ c then c - 32 else c
abbrev Row (l : List Nat) : Prop := ∀ c ∈ l, c ∈ sgns
theorem con_mem {c : Nat} (h : c ∈ sgns) : con c ∈ sgns := by
  have : ∀ c ∈ sgns, con c ∈ sgns := by decide
  exact this c h
theorem con_con {c : Nat} (h : c ∈ sgns) : con (con c) = c := by
  have : ∀ c ∈ sgns, con (con c) = c := by decide
  exact this c h
theorem con_ne {c : Nat} (h : c ∈ sgns) : con c ≠ c := by
  have : ∀ c ∈ sgns, con c ≠ c := by decide
  exact this c h
theorem con_inj {a b : Nat} (ha : a ∈ sgns) (hb : b ∈ sgns) (h : con a = con b) : a = b := by
  rw [← con_con ha, h, con_con hb]
/-! ### stacks: the plain row, its last sign first -/
def push (st : List Nat) (c : Nat) : List Nat := match st with
  | [] => [c]
  | d :: r => if d = con c then r else c :: d :: r
theorem push_cons (d c : Nat) (r : List Nat) : push (d :: r) c = if d = con c then r else c :: d :: r := rfl
def act (w st : List Nat) : List Nat := w.foldl push st
def plain (w : List Nat) : List Nat := (act w []).reverse
def turn (w : List Nat) : List Nat := (w.reverse).map con
/-- no sign next to its contrary -/
def Red : List Nat → Prop
  | [] => True
  | [_] => True
  | a :: b :: r => b ≠ con a ∧ Red (b :: r)
theorem Red.tail {a : Nat} {r : List Nat} (h : Red (a :: r)) : Red r := by
  cases r with
  | nil => trivial
  | cons b r => exact h.2
theorem Row.tail {a : Nat} {r : List Nat} (h : Row (a :: r)) : Row r := fun c hc => h c (List.mem_cons_of_mem _ hc)
theorem Row.head {a : Nat} {r : List Nat} (h : Row (a :: r)) : a ∈ sgns := h a List.mem_cons_self
theorem push_row {st : List Nat} {c : Nat} (h : Row st) (hc : c ∈ sgns) : Row (push st c) := by
  cases st with
  | nil => intro d hd; simp [push] at hd; rw [hd]; exact hc
  | cons d r =>
    rw [push_cons]
    by_cases q : d = con c
    · rw [if_pos q]
      exact Row.tail h
    · rw [if_neg q]
      intro e he
      rcases List.mem_cons.mp he with rfl | he
      · exact hc
      · exact h e he
theorem push_red {st : List Nat} {c : Nat} (h : Red st) : Red (push st c) := by
  cases st with
  | nil => simp [push, Red]
  | cons d r =>
    rw [push_cons]
    by_cases q : d = con c
    · rw [if_pos q]
      exact h.tail
    · rw [if_neg q]
      exact ⟨q, h⟩
theorem push_push {st : List Nat} {c : Nat} (h : Red st) (hc : c ∈ sgns) : push (push st c) (con c) = st := by
  cases st with
  | nil => simp [push, con_con hc]
  | cons d r =>
    by_cases e : d = con c
    · simp only [push, if_pos e]
      cases r with
      | nil => simp [e]
      | cons b r =>
        have hb : b ≠ c := by
          intro q
          have := h.1
          rw [e, con_con hc] at this
          exact this q
        simp only [con_con hc, if_neg hb, e]
    · simp only [push, if_neg e, con_con hc, if_pos]
theorem push_push' {st : List Nat} {c : Nat} (h : Red st) (hc : c ∈ sgns) : push (push st (con c)) c = st := by
  have := push_push (c := con c) h (con_mem hc)
  rw [con_con hc] at this
  exact this
theorem act_append (u v st : List Nat) : act (u ++ v) st = act v (act u st) := by simp [act, List.foldl_append]
theorem act_cons (a : Nat) (w st : List Nat) : act (a :: w) st = act w (push st a) := rfl
theorem act_row : ∀ (w st : List Nat), Row w → Row st → Row (act w st)
  | [], _, _, h => h
  | a :: w, st, hw, h => act_row w (push st a) (Row.tail hw) (push_row h (Row.head hw))
theorem act_red : ∀ (w st : List Nat), Red st → Red (act w st)
  | [], _, h => h
  | a :: w, st, h => act_red w (push st a) (push_red h)
theorem turn_cons (a : Nat) (w : List Nat) : turn (a :: w) = turn w ++ [con a] := by simp [turn]
theorem turn_append (u v : List Nat) : turn (u ++ v) = turn v ++ turn u := by simp [turn]
theorem turn_row {w : List Nat} (h : Row w) : Row (turn w) := by
  intro c hc
  simp only [turn, List.mem_map, List.mem_reverse] at hc
  obtain ⟨d, hd, rfl⟩ := hc
  exact con_mem (h d hd)
theorem turn_turn {w : List Nat} (h : Row w) : turn (turn w) = w := by
  unfold turn
  rw [← List.map_reverse, List.reverse_reverse, List.map_map]
  conv => rhs; rw [← List.map_id w]
  exact List.map_congr_left fun c hc => con_con (h c hc)
theorem turn_length (w : List Nat) : (turn w).length = w.length := by simp [turn]
theorem act_turn : ∀ {w st : List Nat}, Row w → Red st → act (turn w) (act w st) = st
  | [], _, _, _ => rfl
  | a :: w, st, hw, h => by
    rw [turn_cons, act_append]
    have e : act (a :: w) st = act w (push st a) := rfl
    rw [e, act_turn (Row.tail hw) (push_red h)]
    exact push_push h (Row.head hw)
theorem act_turn' {w st : List Nat} (hw : Row w) (h : Red st) : act w (act (turn w) st) = st := by
  have := act_turn (turn_row hw) h
  rw [turn_turn hw] at this
  exact this
/-- an unplain pair goes -/
theorem act_pair {c : Nat} {u v st : List Nat} (hc : c ∈ sgns) (h : Red st) : act (u ++ c :: con c :: v) st = act (u ++ v) st := by
  rw [act_append, act_append]
  show act v (push (push (act u st) c) (con c)) = _
  rw [push_push (act_red _ _ h) hc]
theorem act_pair' {c : Nat} {u v st : List Nat} (hc : c ∈ sgns) (h : Red st) : act (u ++ con c :: c :: v) st = act (u ++ v) st := by
  have := act_pair (c := con c) (u := u) (v := v) (con_mem hc) h
  rw [con_con hc] at this
  exact this
theorem Red.snoc_iff : ∀ {l : List Nat} {a b : Nat}, Red (l ++ [a, b]) ↔ Red (l ++ [a]) ∧ b ≠ con a
  | [], a, b => by simp [Red]
  | [x], a, b => by simp [Red, and_assoc]
  | x :: y :: l, a, b => by
    have := Red.snoc_iff (l := y :: l) (a := a) (b := b)
    simp only [List.cons_append] at this ⊢
    simp only [Red]
    constructor
    · rintro ⟨h1, h2⟩
      exact ⟨⟨h1, (this.mp h2).1⟩, (this.mp h2).2⟩
    · rintro ⟨⟨h1, h2⟩, h3⟩
      exact ⟨h1, this.mpr ⟨h2, h3⟩⟩
/-- a plain row as a stack: the same read backwards -/
theorem red_reverse : ∀ {l : List Nat}, Row l → (Red l ↔ Red l.reverse)
  | [], _ => by simp [Red]
  | [a], _ => by simp [Red]
  | a :: b :: r, h => by
    have ih := red_reverse (l := b :: r) (Row.tail h)
    rw [List.reverse_cons, List.reverse_cons, List.append_assoc]
    show Red (a :: b :: r) ↔ Red (r.reverse ++ [b, a])
    rw [Red.snoc_iff]
    rw [List.reverse_cons] at ih
    rw [← ih]
    show (b ≠ con a ∧ Red (b :: r)) ↔ _
    constructor
    · rintro ⟨h1, h2⟩
      refine ⟨h2, fun e => h1 ?_⟩
      rw [e, con_con (Row.head (Row.tail h))]
    · rintro ⟨h1, h2⟩
      refine ⟨fun e => h2 ?_, h1⟩
      rw [e, con_con (Row.head h)]
theorem red_drop : ∀ {l m : List Nat}, Red (l ++ m) → Red m
  | [], _, h => h
  | _ :: l, m, h => red_drop (l := l) (Red.tail h)
theorem act_of_red : ∀ {p st : List Nat}, Red (p.reverse ++ st) → act p st = p.reverse ++ st
  | [], _, _ => by simp [act]
  | a :: p, st, h => by
    have e : (a :: p).reverse ++ st = p.reverse ++ (a :: st) := by simp
    rw [e] at h ⊢
    show act p (push st a) = _
    have hp : push st a = a :: st := by
      cases st with
      | nil => rfl
      | cons d r =>
        have hr : Red (a :: d :: r) := red_drop h
        rw [push_cons, if_neg hr.1]
    rw [hp]
    exact act_of_red h
theorem plain_row {w : List Nat} (h : Row w) : Row (plain w) := fun c hc => act_row _ _ h (fun _ q => (by cases q)) c (List.mem_reverse.mp hc)
theorem plain_red {w : List Nat} (h : Row w) : Red (plain w) := by
  unfold plain
  exact (red_reverse (act_row _ _ h fun _ q => (by cases q))).mp (act_red w _ (by trivial))
theorem plain_of_red {w : List Nat} (h : Row w) (r : Red w) : plain w = w := by
  unfold plain
  rw [act_of_red (by rw [List.append_nil]; exact (red_reverse h).mp r), List.append_nil, List.reverse_reverse]
theorem plain_plain {w : List Nat} (h : Row w) : plain (plain w) = plain w := plain_of_red (plain_row h) (plain_red h)
theorem plain_pair {c : Nat} {u v : List Nat} (hc : c ∈ sgns) : plain (u ++ c :: con c :: v) = plain (u ++ v) := by
  unfold plain
  rw [act_pair hc (by trivial)]
theorem push_plain {w : List Nat} {c : Nat} : act (w ++ [c]) [] = push (act w []) c := by rw [act_append]; rfl
/-- a row and it made plain act alike on plain stacks -/
theorem act_plain_aux : ∀ {w : List Nat}, Row w → ∀ {st : List Nat}, Red st → Row st → act (plain w) st = act w st := by
  intro w
  generalize hn : w.length = n
  induction n generalizing w with
  | zero =>
    intro h st _ _
    have : w = [] := List.eq_nil_of_length_eq_zero hn
    subst this
    rfl
  | succ n ih =>
    intro h st hr hs
    obtain ⟨u, c, rfl⟩ : ∃ u c, w = u ++ [c] := ⟨w.dropLast, w.getLast (by intro e; simp [e] at hn), (List.dropLast_concat_getLast _).symm⟩
    have hu : Row u := fun d hd => h d (List.mem_append_left _ hd)
    have hc : c ∈ sgns := h c (by simp)
    have hl : u.length = n := by simp at hn; exact hn
    have e := ih hl hu hr hs
    rw [act_append]
    show act (plain (u ++ [c])) st = push (act u st) c
    rw [← e]
    unfold plain
    rw [push_plain]
    cases hst : act u [] with
    | nil => simp [push, act]
    | cons d r =>
      by_cases q : d = con c
      · simp only [push, if_pos q]
        have e2 : (d :: r).reverse = r.reverse ++ [d] := by simp
        rw [e2, act_append]
        show _ = push (push (act r.reverse st) d) c
        rw [q, push_push' (act_red _ _ hr) hc]
      · simp only [push, if_neg q]
        have e2 : (c :: d :: r).reverse = (d :: r).reverse ++ [c] := by simp
        rw [e2, act_append]
        rfl
theorem act_plain {w st : List Nat} (h : Row w) (hr : Red st) (hs : Row st) : act (plain w) st = act w st := act_plain_aux h hr hs
theorem nil_row : Row [] := fun _ q => (by cases q)
theorem plain_turn {w : List Nat} (h : Row w) : plain (turn w) = turn (plain w) := by
  have hp := plain_row h
  have rp : Red (turn (plain w)) := by
    unfold turn
    have : ∀ l : List Nat, Row l → Red l → Red (l.map con) := by
      intro l
      induction l with
      | nil => intros; trivial
      | cons a l ih =>
        cases l with
        | nil => intros; trivial
        | cons b l =>
          intro hl hr
          refine ⟨fun e => hr.1 ?_, ih (Row.tail hl) hr.2⟩
          have := con_inj (Row.head (Row.tail hl)) (con_mem (Row.head hl)) e
          exact this
    exact this _ (fun c hc => hp c (List.mem_reverse.mp hc)) ((red_reverse hp).mp (plain_red h))
  have e : act (turn w) [] = act (turn (plain w)) [] := by
    have h1 : act w (act (turn w) []) = [] := act_turn' h (by trivial)
    have r1 : Red (act (turn w) []) := act_red _ _ (by trivial)
    have w1 : Row (act (turn w) []) := act_row _ _ (turn_row h) nil_row
    rw [← act_plain h r1 w1] at h1
    have h2 := act_turn (w := plain w) (st := act (turn w) []) hp r1
    rw [h1] at h2
    exact h2.symm
  have e2 : plain (turn w) = plain (turn (plain w)) := by unfold plain at *; rw [e]
  rw [e2, plain_of_red (turn_row hp) rp]
theorem plain_there_back {u : List Nat} (h : Row u) : plain (u ++ turn u) = [] := by
  unfold plain
  rw [act_append, act_turn h (by trivial)]
  rfl
theorem push_length (st : List Nat) (c : Nat) : (push st c).length ≤ st.length + 1 := by
  cases st with
  | nil => simp [push]
  | cons d r =>
    rw [push_cons]
    by_cases q : d = con c
    · rw [if_pos q]; simp; omega
    · rw [if_neg q]; simp
theorem act_length : ∀ (w st : List Nat), (act w st).length ≤ st.length + w.length
  | [], st => by simp [act]
  | a :: w, st => by
    have := act_length w (push st a)
    have h2 := push_length st a
    show (act w (push st a)).length ≤ _
    simp only [List.length_cons]
    omega
theorem plain_length (w : List Nat) : (plain w).length ≤ w.length := by
  unfold plain
  rw [List.length_reverse]
  simpa using act_length w []
/-! ### the order of rows -/
def lexI : List Nat → List Nat → Bool
  | a :: l, b :: m => if a = b then lexI l m else decide (a < b)
  | _, _ => false
def aheadL : List Nat → List Nat → Bool
  | a :: l, b :: m => if a = b then aheadL l m else if lo a ≠ lo b then decide (lo a < lo b) else decide (97 ≤ a)
  | _, _ => false
def before (l m : List Nat) : Bool := if l.length = m.length then lexI (l.map ix) (m.map ix) else decide (l.length < m.length)
theorem ix_inj {a b : Nat} (ha : a ∈ sgns) (hb : b ∈ sgns) : ix a = ix b ↔ a = b := by
  have : ∀ a ∈ sgns, ∀ b ∈ sgns, (ix a = ix b ↔ a = b) := by decide
  exact this a ha b hb
theorem ix_lt {a b : Nat} (ha : a ∈ sgns) (hb : b ∈ sgns) (h : a ≠ b) : decide (ix a < ix b) = (if lo a ≠ lo b then decide (lo a < lo b) else decide (97 ≤ a)) := by
  have : ∀ a ∈ sgns, ∀ b ∈ sgns, a ≠ b → decide (ix a < ix b) = (if lo a ≠ lo b then decide (lo a < lo b) else decide (97 ≤ a)) := by decide
  exact this a ha b hb h
theorem ahead_lex : ∀ {l m : List Nat}, Row l → Row m → aheadL l m = lexI (l.map ix) (m.map ix)
  | [], _, _, _ => by simp [aheadL, lexI]
  | a :: l, [], _, _ => by simp [aheadL, lexI]
  | a :: l, b :: m, hl, hm => by
    have ih := ahead_lex (Row.tail hl) (Row.tail hm)
    simp only [aheadL, List.map_cons, lexI, ix_inj (Row.head hl) (Row.head hm)]
    by_cases e : a = b
    · rw [if_pos e, if_pos e, ih]
    · rw [if_neg e, if_neg e, ix_lt (Row.head hl) (Row.head hm) e]
theorem lexI_trans : ∀ {l m n : List Nat}, l.length = m.length → m.length = n.length → lexI l m = true → lexI m n = true → lexI l n = true
  | [], _, _, _, _, h, _ => by simp [lexI] at h
  | a :: l, [], _, h, _, _, _ => by simp at h
  | a :: l, b :: m, [], _, h, _, _ => by simp at h
  | a :: l, b :: m, c :: n, h1, h2, h3, h4 => by
    simp only [lexI] at h3 h4 ⊢
    have e1 : l.length = m.length := by simpa using h1
    have e2 : m.length = n.length := by simpa using h2
    by_cases p : a = b
    · subst p
      rw [if_pos rfl] at h3
      by_cases q : a = c
      · subst q
        rw [if_pos rfl] at h4 ⊢
        exact lexI_trans e1 e2 h3 h4
      · rw [if_neg q] at h4 ⊢
        exact h4
    · rw [if_neg p] at h3
      have h3' := of_decide_eq_true h3
      by_cases q : b = c
      · subst q
        rw [if_neg p]
        exact h3
      · rw [if_neg q] at h4
        have h4' := of_decide_eq_true h4
        have : a ≠ c := by omega
        rw [if_neg this]
        exact decide_eq_true (by omega)
theorem before_trans {l m n : List Nat} (h1 : before l m = true) (h2 : before m n = true) : before l n = true := by
  unfold before at *
  by_cases e1 : l.length = m.length
  · rw [if_pos e1] at h1
    by_cases e2 : m.length = n.length
    · rw [if_pos e2] at h2
      rw [if_pos (e1.trans e2)]
      exact lexI_trans (by simpa using e1) (by simpa using e2) h1 h2
    · rw [if_neg e2] at h2
      have := of_decide_eq_true h2
      rw [if_neg (by omega)]
      exact decide_eq_true (by omega)
  · rw [if_neg e1] at h1
    have h1' := of_decide_eq_true h1
    by_cases e2 : m.length = n.length
    · rw [if_neg (by omega)]
      exact decide_eq_true (by omega)
    · rw [if_neg e2] at h2
      have := of_decide_eq_true h2
      rw [if_neg (by omega)]
      exact decide_eq_true (by omega)
end RowM

namespace NumM
open RowM
/-! ### rows by numbers -/
def val (B : Nat) (l : List Nat) : Nat := l.foldl (fun a c => a * B + ix c) 0
def ones (B : Nat) : Nat → Nat
  | 0 => 0
  | n + 1 => ones B n * B + 1
def numR (B : Nat) (l : List Nat) : Nat := ones B l.length + val B l
abbrev Low (B : Nat) (l : List Nat) : Prop := ∀ c ∈ l, ix c < B
theorem Low.head {B a : Nat} {l : List Nat} (h : Low B (a :: l)) : ix a < B := h a List.mem_cons_self
theorem Low.tail {B a : Nat} {l : List Nat} (h : Low B (a :: l)) : Low B l := fun c hc => h c (List.mem_cons_of_mem _ hc)
theorem fold_from (B : Nat) : ∀ (l : List Nat) (a : Nat), l.foldl (fun a c => a * B + ix c) a = a * B ^ l.length + val B l
  | [], a => by simp [val]
  | c :: l, a => by
    have h1 := fold_from B l (a * B + ix c)
    have h2 := fold_from B l (0 * B + ix c)
    have e : val B (c :: l) = l.foldl (fun a c => a * B + ix c) (0 * B + ix c) := rfl
    rw [List.foldl_cons, h1, e, h2, List.length_cons, Nat.pow_succ]
    rw [Nat.zero_mul, Nat.zero_add, Nat.add_mul, Nat.mul_assoc, Nat.mul_comm B, Nat.add_assoc]
theorem val_cons (B c : Nat) (l : List Nat) : val B (c :: l) = ix c * B ^ l.length + val B l := by
  have h := fold_from B l (0 * B + ix c)
  have e : val B (c :: l) = l.foldl (fun a c => a * B + ix c) (0 * B + ix c) := rfl
  rw [e, h, Nat.zero_mul, Nat.zero_add]
theorem val_snoc (B c : Nat) (l : List Nat) : val B (l ++ [c]) = val B l * B + ix c := by
  unfold val
  rw [List.foldl_append]
  rfl
theorem val_lt {B : Nat} : ∀ {l : List Nat}, Low B l → val B l < B ^ l.length
  | [], _ => by simp [val]
  | c :: l, h => by
    have ih := val_lt h.tail
    have hc := h.head
    rw [val_cons, List.length_cons, Nat.pow_succ]
    have : (ix c + 1) * B ^ l.length ≤ B * B ^ l.length := Nat.mul_le_mul_right _ hc
    rw [Nat.add_mul, Nat.one_mul] at this
    rw [Nat.mul_comm (B ^ l.length) B]
    omega
theorem ones_pow (B : Nat) : ∀ n, ones B (n + 1) = ones B n + B ^ n
  | 0 => by simp [ones]
  | n + 1 => by
    have ih := ones_pow B n
    show ones B (n + 1) * B + 1 = ones B (n + 1) + B ^ (n + 1)
    have e : ones B (n + 1) = ones B n * B + 1 := rfl
    rw [ih, Nat.add_mul, Nat.pow_succ]
    omega
theorem ones_mono (B : Nat) : ∀ {m n : Nat}, m ≤ n → ones B m ≤ ones B n
  | m, 0, h => by
    have : m = 0 := by omega
    subst this
    exact Nat.le_refl _
  | m, n + 1, h => by
    by_cases e : m = n + 1
    · rw [e]; exact Nat.le_refl _
    · have := ones_mono B (m := m) (n := n) (by omega)
      rw [ones_pow]
      omega
theorem num_lt_ones {B : Nat} {l : List Nat} (h : Low B l) : numR B l < ones B (l.length + 1) := by
  rw [ones_pow]
  unfold numR
  have := val_lt h
  omega
theorem lex_val {B : Nat} : ∀ {l m : List Nat}, Low B l → Low B m → l.length = m.length → lexI (l.map ix) (m.map ix) = decide (val B l < val B m)
  | [], [], _, _, _ => by simp [lexI, val]
  | [], _ :: _, _, _, h => by simp at h
  | _ :: _, [], _, _, h => by simp at h
  | a :: l, b :: m, hl, hm, h => by
    have e : l.length = m.length := by simpa using h
    have ih := lex_val hl.tail hm.tail e
    have v1 := val_lt hl.tail
    have v2 := val_lt hm.tail
    rw [e] at v1
    simp only [List.map_cons, lexI, val_cons, e]
    by_cases q : ix a = ix b
    · rw [if_pos q, ih, q]
      exact decide_eq_decide.mpr (by omega)
    · rw [if_neg q]
      apply decide_eq_decide.mpr
      have p0 : ∀ x y : Nat, x < y → x * B ^ m.length + B ^ m.length ≤ y * B ^ m.length := fun x y hxy => by
        have := Nat.mul_le_mul_right (B ^ m.length) hxy
        rw [Nat.succ_mul] at this
        exact this
      constructor
      · intro hab
        have := p0 _ _ hab
        omega
      · intro hv
        by_cases hab : ix a < ix b
        · exact hab
        · have := p0 (ix b) (ix a) (by omega)
          omega
theorem before_num {B : Nat} {l m : List Nat} (hl : Low B l) (hm : Low B m) : before l m = decide (numR B l < numR B m) := by
  unfold before
  by_cases e : l.length = m.length
  · rw [if_pos e, lex_val hl hm e]
    unfold numR
    rw [e]
    exact decide_eq_decide.mpr (by omega)
  · rw [if_neg e]
    apply decide_eq_decide.mpr
    constructor
    · intro h
      have h1 := num_lt_ones hl
      have h2 := ones_mono B (show l.length + 1 ≤ m.length by omega)
      unfold numR at *
      omega
    · intro h
      by_cases q : l.length < m.length
      · exact q
      · have h1 := num_lt_ones hm
        have h2 := ones_mono B (show m.length + 1 ≤ l.length by omega)
        unfold numR at *
        omega
theorem val_inj {B : Nat} : ∀ {l m : List Nat}, Row l → Row m → Low B l → Low B m → l.length = m.length → val B l = val B m → l = m
  | [], [], _, _, _, _, _, _ => rfl
  | [], _ :: _, _, _, _, _, h, _ => by simp at h
  | _ :: _, [], _, _, _, _, h, _ => by simp at h
  | a :: l, b :: m, rl, rm, hl, hm, h, hv => by
    have e : l.length = m.length := by simpa using h
    have v1 := val_lt hl.tail
    have v2 := val_lt hm.tail
    rw [e] at v1
    rw [val_cons, val_cons, e] at hv
    have q : ix a = ix b := by
      have p0 : ∀ x y : Nat, x < y → x * B ^ m.length + B ^ m.length ≤ y * B ^ m.length := fun x y hxy => by
        have := Nat.mul_le_mul_right (B ^ m.length) hxy
        rw [Nat.succ_mul] at this
        exact this
      by_cases h1 : ix a < ix b
      · have := p0 _ _ h1; omega
      · by_cases h2 : ix b < ix a
        · have := p0 _ _ h2; omega
        · omega
    rw [q] at hv
    have := val_inj (Row.tail rl) (Row.tail rm) hl.tail hm.tail e (by omega)
    rw [this, (ix_inj (Row.head rl) (Row.head rm)).mp q]
theorem num_inj {B : Nat} {l m : List Nat} (rl : Row l) (rm : Row m) (hl : Low B l) (hm : Low B m) (h : numR B l = numR B m) : l = m := by
  have e : l.length = m.length := by
    have h1 := num_lt_ones hl
    have h2 := num_lt_ones hm
    by_cases a : l.length < m.length
    · have := ones_mono B (show l.length + 1 ≤ m.length by omega)
      unfold numR at *; omega
    · by_cases b : m.length < l.length
      · have := ones_mono B (show m.length + 1 ≤ l.length by omega)
        unfold numR at *; omega
      · omega
  refine val_inj rl rm hl hm e ?_
  unfold numR at h
  rw [e] at h
  omega
theorem num_nil (B : Nat) : numR B [] = 0 := by simp [numR, ones, val]
end NumM
namespace NumM
theorem ones_ge {B : Nat} (h : 2 ≤ B) : ∀ n, ones 2 n ≤ ones B n
  | 0 => Nat.le_refl _
  | n + 1 => by
    have ih := ones_ge h n
    show ones 2 n * 2 + 1 ≤ ones B n * B + 1
    have := Nat.mul_le_mul ih h
    omega
theorem ones_61 {B : Nat} (h : 2 ≤ B) : 2305843009213693951 ≤ ones B 61 := by
  have := ones_ge h 61
  have e : ones 2 61 = 2305843009213693951 := by decide
  omega
end NumM

namespace L2
open PySem PySem.Spec PyProof.Rows
/-! ### rules beside the layer's own -/
section
variable {X : Cx}
/-- a constant of the module -/
theorem pe_globC {x : Str} {v : V} {pos : Pos} (h : ∃ u, X.mg x = some u ∧ RelV v u) (hg : Gl X x := by rfl) (hd : (x == ("__debug__" : Str)) = false := by decide) : PE X (.Name x pos) (tC v) := by
  obtain ⟨u, hm, r⟩ := h
  exact pe_glob hg hm r hd
/-- data that are alike: < -/
def rLtD (K : PySem.W.Frag) : R2 := fun x y H Q => ∃ d e, Dp K H x d ∧ Dp K H y e ∧ PySem.W.alike d e = true ∧ d ≠ .none ∧ min d.depth e.depth ≤ 60 ∧ Q (.bl (PySem.W.dataLt d e)) H
theorem op_ltD (hu : X.A.units + 64 < cLine) : OpR X (compareOp .Lt) (rLtD X.K) := by
  intro pins s σ H x y v u Q I rx ry h
  obtain ⟨d, e, hd, he, al, hn, hz, q⟩ := h
  obtain ⟨as, r1⟩ := Dp.reads I d x v hd rx
  obtain ⟨bs, r2⟩ := Dp.reads I e y u he ry
  exact PySem.W.lt_data r1 r2 al hn (by omega) ⟨.bl _, H, I, rfl, q⟩
/-- text[::-1] -/
def tRevS (te : TE) : TE := fun σ H Q => te σ H fun x H1 => ∃ z : Str, x = .str z ∧ z.length ≤ sizeLine ∧ Q (.str ⟨z.cps.toList.reverse.toArray⟩) H1
theorem pick_rev (z : Str) : ((Builtin.Str.strSliceIndices none none (-1) z.length).filterMap (z.cps[·]?)).toArray = z.cps.toList.reverse.toArray := by
  rw [PyProof.Rows.picked_rev]
  congr 1
  rw [PyProof.Rows.filterMap_get _ _ (fun i hi => by
    simp only [List.mem_map, List.mem_range] at hi
    obtain ⟨k, hk, rfl⟩ := hi
    have : z.length = z.cps.size := rfl
    omega)]
  apply List.ext_getElem
  · simp [Str.length]
  · intro i h1 h2
    simp only [List.length_map, List.length_range, Str.length] at h1
    simp only [List.map_map, List.getElem_map, List.getElem_range, List.getElem_reverse, Function.comp, Str.length, Array.length_toList]
    rw [Array.getD_eq_getD_getElem?]
    rw [Array.getElem?_eq_getElem (by omega)]
    simp
theorem pe_revS {e : Expr} {te : TE} {k : Nat} {p1 p2 p3 pos : Pos} (he : PE X e te) : PE X (.Subscript e (.Slice none none (some (.UnaryOp .USub (.Constant (.int 1) k p1) p2)) p3) pos) (tRevS te) := by
  refine ⟨fun pins s σ H Q I h => ?_⟩
  refine Subscript_ (thn (he.run pins s σ H _ I h) fun v s1 ⟨x, H1, I1, r1, q1⟩ => ?_)
  obtain ⟨z, ex, hz, q⟩ := q1
  subst ex
  obtain ⟨t, rfl⟩ := r1
  have hst : PO X (some (.UnaryOp .USub (.Constant (.int 1) k p1) p2)) (tPart (tUn (rU fun i => .int (-i)) (tC (.int 1)))) := po_some (pe_un un_neg pe_int)
  refine wpAny_Slice (thn (po_none.run pins s1 σ H1 (fun o H2 => o = none ∧ H2 = H1) I1 ⟨rfl, rfl⟩) fun vl s2 ⟨l, H2, I2, pl, el, e2⟩ => ?_)
  subst el e2
  refine thn (po_none.run pins s2 σ H2 (fun o H3 => o = none ∧ H3 = H2) I2 ⟨rfl, rfl⟩) fun vu s3 ⟨u, H3, I3, pu, eu, e3⟩ => ?_
  subst eu e3
  refine thn (hst.run pins s3 σ H3 (fun o H4 => o = some (-1) ∧ H4 = H3) I3 ⟨1, rfl, -1, rfl, rfl, rfl⟩) fun vs s4 ⟨o, H4, I4, ps, eo, e4⟩ => ?_
  subst eo e4
  obtain ⟨l1, rfl, hl1⟩ := IsPart.raw pl
  obtain ⟨u1, rfl, hu1⟩ := IsPart.raw pu
  obtain ⟨w1, rfl, hw1⟩ := IsPart.raw ps
  have I5 : Inv X pins σ H4 { s4 with heap := s4.heap.push { cls := .type "slice", data := .fields #[partValue l1, partValue u1, partValue w1] } } := I4.kept (t' := s4.toks) fun b ob q => Heap.get?_push_of_some _ q
  show wpAny (model X.prog X.w) X.A (subscriptTail e (.Slice none none (some (.UnaryOp .USub (.Constant (.int 1) k p1) p2)) p3) (.str z t) (.ref s4.heap.objs.size)) (EP X pins σ Q) X.xe { s4 with heap := s4.heap.push { cls := .type "slice", data := .fields #[partValue l1, partValue u1, partValue w1] } }
  refine tail_any (ops := [.str z t, .ref s4.heap.objs.size]) (typeIs_str _ _ _) F.slot_str_getitem.lookup ?_ (by with_unfolding_all rfl)
  refine wpAny_getItem_str_slice (l := l1) (u := u1) (st := w1) ⟨_, Heap.get?_push_size _ rfl, rfl, rfl⟩ (by rw [hw1]; rfl) ?_
  have hl : (⟨z.cps.toList.reverse.toArray⟩ : Str).length ≤ sizeLine := by
    show z.cps.toList.reverse.toArray.size ≤ sizeLine
    simpa [Str.length] using hz
  show Made.post (if ((w1.map (·.1)).getD 1 == 1 && (Builtin.Str.strSliceIndices (l1.map (·.1)) (u1.map (·.1)) ((w1.map (·.1)).getD 1) z.length).length == z.length) = true then Made.val (.str z t)
    else Made.str ⟨((Builtin.Str.strSliceIndices (l1.map (·.1)) (u1.map (·.1)) ((w1.map (·.1)).getD 1) z.length).filterMap (z.cps[·]?)).toArray⟩) (EP X pins σ Q) _
  rw [hl1, hu1, hw1]
  show Made.post (if ((-1 : Int) == 1 && (Builtin.Str.strSliceIndices none none (-1) z.length).length == z.length) = true then Made.val (.str z t)
    else Made.str ⟨((Builtin.Str.strSliceIndices none none (-1) z.length).filterMap (z.cps[·]?)).toArray⟩) (EP X pins σ Q) _
  rw [if_neg (by simp), pick_rev]
  exact ⟨hl, .str _, H4, I5.tok _, ⟨_, rfl⟩, q⟩
end
end L2

namespace L2
open PySem PySem.Spec PyProof.Rows
/-! ### zip of two texts -/
def Itzs (x y : Str) : It :=
  ⟨fun i _ => i < x.cps.size ∧ i < y.cps.size,
    fun i H v H' => ∃ T c d, v = .ref T ∧ H T = none ∧ H' = upd H T (.tup [.str ⟨#[c]⟩, .str ⟨#[d]⟩]) ∧ x.cps[i]? = some c ∧ y.cps[i]? = some d,
    fun i _ => (i ≤ x.cps.size ∧ i ≤ y.cps.size) ∧ (i = x.cps.size ∨ i = y.cps.size)⟩
theorem turn_zipS {P : Program} {w : World} {K : PySem.W.Frag} {elts : List Expr} {kk : Nat} {tpos : Pos} {z TI TO i1 i2 : Addr} (S : ZipSep2 z TI TO i1 i2 [i1] [i2]) (x y : Str) (t u : Tok) :
    Turn P w K (.Tuple elts kk tpos) (Itzs x y) [z, TI, TO, i1, i2] z
      (fun i h => IsZip h z TI TO .none ∧ IsTupOf2 h TI (.ref i1) (.ref i2) ∧ (∃ a b, IsTupOf2 h TO a b) ∧ h.IsStrIter i1 (strIterType x) x t i ∧ h.IsStrIter i2 (strIterType y) y u i) where
  mem := by simp
  obj := fun i h st c hc => by
    obtain ⟨hz, hTI, ⟨a, b, hTO⟩, ⟨o1, e1, _, d1⟩, ⟨o2, e2, _, d2⟩⟩ := st
    have e' : c = z ∨ c = TI ∨ c = TO ∨ c = i1 ∨ c = i2 := by simpa using hc
    rcases e' with q | q | q | q | q
    · rw [q]; exact ⟨_, hz, fun v q => nomatch q⟩
    · rw [q]; exact ⟨_, hTI, fun v q => nomatch q⟩
    · rw [q]; exact ⟨_, hTO, fun v q => nomatch q⟩
    · rw [q]; exact ⟨o1, e1, fun v q => by rw [d1] at q; cases q⟩
    · rw [q]; exact ⟨o2, e2, fun v q => by rw [d2] at q; cases q⟩
  keep := fun i h h' st k => by
    obtain ⟨hz, hTI, ⟨a, b, hTO⟩, ⟨o1, e1, r1⟩, ⟨o2, e2, r2⟩⟩ := st
    exact ⟨k z (by simp) _ hz, k TI (by simp) _ hTI, ⟨a, b, k TO (by simp) _ hTO⟩, ⟨o1, k i1 (by simp) _ e1, r1⟩, ⟨o2, k i2 (by simp) _ e2, r2⟩⟩
  item := by
    intro X hP hw hK hc i pins s σ H E I hf st hg
    subst hP hw hK
    obtain ⟨hz, hTI, ⟨a0, b0, hTO⟩, h1, h2⟩ := st
    obtain ⟨g1, g2⟩ := hg
    have hh : X.A.in1.handled = none := I.ok.hd hc
    have hzl : z < s.heap.objs.size := Heap.lt_size hz
    refine wpAny_pyNext_zipD2_item S (Draws.text hh i1 x t) (Draws.text hh i2 y u) hz hTI hTO h1 h2 g1 g2 fun x1 x2 h' tk p1 p2 h1' TO' s1 s2 hT hsz hk => ?_
    obtain ⟨c, tc, hc1, rfl⟩ := p1
    obtain ⟨d, td, hd1, rfl⟩ := p2
    refine ⟨_, rfl, wpAny_letOwnedTupleGo_zip (s := { s with heap := h', toks := tk }) h1' fun h'' z'' sb => ?_⟩
    have hT2 : h''.get? s.heap.objs.size = some { cls := .type "tuple", data := .seq #[Value.str ⟨#[c]⟩ tc, Value.str ⟨#[d]⟩ td] } := (sb.2 _ (Nat.ne_of_gt hzl)).trans hT
    have new : ObjOk X.prog X.w (upd H s.heap.objs.size (.tup [.str ⟨#[c]⟩, .str ⟨#[d]⟩])) h'' s.heap.objs.size (.tup [.str ⟨#[c]⟩, .str ⟨#[d]⟩]) :=
      ⟨by show 2 ≤ sizeLine; decide, [Value.str ⟨#[c]⟩ tc, Value.str ⟨#[d]⟩ td], .cons ⟨tc, rfl⟩ (.cons ⟨td, rfl⟩ .nil), ⟨_, hT2, rfl, _, rfl⟩⟩
    have I1 : Inv X pins σ (upd H s.heap.objs.size (.tup [.str ⟨#[c]⟩, .str ⟨#[d]⟩])) { s with heap := h'', toks := tk } :=
      I.turnedNew (t' := tk) (ch := [z, TI, TO, i1, i2]) (fun c o hb q => (sb.2 c (fun q' => hb (by simp [q']))).trans (hk c o (fun q' => hb (by simp [q'])) (fun q' => hb (by simp [q'])) (fun q' => hb (by simp [q'])) (fun q' => hb (by simp [q'])) q)) hf (Nat.le_refl _) new
    have st1 : h''.IsStrIter i1 (strIterType x) x t (i + 1) := by
      obtain ⟨o, e, r⟩ := s1
      exact ⟨o, (sb.2 _ (fun q => S.zf1 (by rw [← q]; simp))).trans e, r⟩
    have st2 : h''.IsStrIter i2 (strIterType y) y u (i + 1) := by
      obtain ⟨o, e, r⟩ := s2
      exact ⟨o, (sb.2 _ (fun q => S.zf2 (by rw [← q]; simp))).trans e, r⟩
    refine ⟨.ref s.heap.objs.size, _, I1, rfl, ⟨_, c, d, rfl, I.hok.fresh (Nat.le_refl _), rfl, hc1, hd1⟩, ⟨z'', ?_, ⟨.str ⟨#[c]⟩ tc, .str ⟨#[d]⟩ td, ?_⟩, st1, st2⟩, fun b hbm => ?_⟩
    · exact (sb.2 _ S.TIz).trans (hk _ _ S.TIz S.TITO S.TIi1 S.TIi2 hTI)
    · exact (sb.2 _ S.TOz).trans TO'
    · have hlt : b < s.heap.objs.size := by
        have e' : b = z ∨ b = TI ∨ b = TO ∨ b = i1 ∨ b = i2 := by simpa using hbm
        rcases e' with q | q | q | q | q
        · rw [q]; exact hzl
        · rw [q]; exact Heap.lt_size hTI
        · rw [q]; exact Heap.lt_size hTO
        · rw [q]; obtain ⟨_, e1, _⟩ := h1; exact Heap.lt_size e1
        · rw [q]; obtain ⟨_, e2, _⟩ := h2; exact Heap.lt_size e2
      rw [upd_ne (Nat.ne_of_lt hlt)]
      exact (hf b hbm).1
  done := by
    intro X hP hw hK hc i pins s σ H E I hf st hg
    subst hP hw hK
    obtain ⟨hz, hTI, ⟨a0, b0, hTO⟩, h1, h2⟩ := st
    obtain ⟨⟨g1, g2⟩, g3⟩ := hg
    have hh : X.A.in1.handled = none := I.ok.hd hc
    exact wpAny_pyNext_zipD2_end S (Draws.text hh i1 x t) (Draws.text hh i2 y u) hz hTI hTO h1 h2 g1 g2 g3 fun h' tk hk => ⟨rfl, I.turnedL (t' := tk) (ch := [z, TI, TO, i1, i2]) (fun c o hb q =>
      hk c o (fun q' => hb (by simp [q'])) (fun q' => hb (by simp [q'])) (fun q' => hb (by simp [q'])) (fun q' => hb (by simp [q'])) q) hf⟩
  self := fun A i s Q E st h => wpAny_pyIter_zip st.1 h
def iZipS (ta : TA) : TI := fun σ H R => ta σ H fun vs H1 => ∃ x y, vs = [.str x, .str y] ∧ R (Itzs x y) H1
theorem pi_zipS {X : Cx} {e e2 : Expr} {ta : TA} {p pos tpos : Pos} {elts : List Expr} {kk : Nat} (hg : Gl X "zip") (hm : X.mg "zip" = none) (ha : PA X [e, e2] ta)
    (hs : starEach [e, e2] X.env = (false, eval e X.env) :: starEach [e2] X.env := by rfl) (hpl : (backTo pos (starEach [e2] X.env)).any (·.1) = false := by rfl) :
    PI X (.Tuple elts kk tpos) (.Call (.Name "zip" p) [e, e2] [] pos) (iZipS ta) := by
  refine ⟨fun pins s σ H R I h => ?_⟩
  refine Call_ (ld_blt I hg hm PyProof.Rows.boot_zip (PyProof.Rows.callWith_type1 (thn (ha.run pos pins s σ H _ I h) fun us s1 ⟨vs, H1, I1, r1, q1⟩ => ?_) hs hpl))
  obtain ⟨x, y, ex, q⟩ := q1
  subst ex
  cases r1 with
  | cons r rr =>
    cases rr with
    | cons r' rr =>
      cases rr
      obtain ⟨t, rfl⟩ := r
      obtain ⟨u, rfl⟩ := r'
      refine zip_begins2 (begins_text x t) (begins_text y u) trivial trivial fun h' hz hTI hTO h1 h2 hsz hk => wpAny_pyIter_zip hz ?_
      have I2 : Inv X pins σ H1 { s1 with heap := h' } := I1.kept (t' := s1.toks) hk
      have S : ZipSep2 (s1.heap.objs.size + 4) (s1.heap.objs.size + 2) (s1.heap.objs.size + 3) s1.heap.objs.size (s1.heap.objs.size + 1) [s1.heap.objs.size] [s1.heap.objs.size + 1] :=
        zip_sep2 (fp1 := []) (fp2 := []) (fun b hb => by cases hb) (fun b hb => by cases hb)
      refine ⟨s1.heap.objs.size + 4, [s1.heap.objs.size + 4, s1.heap.objs.size + 2, s1.heap.objs.size + 3, s1.heap.objs.size, s1.heap.objs.size + 1], _, _, H1, rfl, I2, turn_zipS S x y t u, ⟨hz, hTI, ⟨_, _, hTO⟩, ⟨_, h1, rfl, rfl⟩, ⟨_, h2, rfl, rfl⟩⟩, fun c hcm => ?_, q⟩
      have e' : c = s1.heap.objs.size + 4 ∨ c = s1.heap.objs.size + 2 ∨ c = s1.heap.objs.size + 3 ∨ c = s1.heap.objs.size ∨ c = s1.heap.objs.size + 1 := by simpa using hcm
      have hle : s1.heap.objs.size ≤ c := by
        rcases e' with z | z | z | z | z
        · rw [z]; exact Nat.le_add_right _ _
        · rw [z]; exact Nat.le_add_right _ _
        · rw [z]; exact Nat.le_add_right _ _
        · rw [z]; exact Nat.le_refl _
        · rw [z]; exact Nat.le_add_right _ _
      exact I1.fpOk hle (I1.hok.fresh hle)
theorem walk_zipS {x y : Str} {n : Nat} (hn : n = min x.cps.size y.cps.size) : Walk (Itzs x y) n (fun _ => True) (fun i H v H' => ∃ T c d, v = .ref T ∧ H T = none ∧ H' = upd H T (.tup [.str ⟨#[c]⟩, .str ⟨#[d]⟩]) ∧ x.cps[i]? = some c ∧ y.cps[i]? = some d) := by
  subst hn
  exact ⟨fun _ _ hi _ => ⟨by omega, by omega⟩, fun _ _ => ⟨⟨by omega, by omega⟩, by omega⟩, fun _ _ _ _ _ _ y => y⟩
end L2

namespace L2
open PySem PySem.Spec PyProof.Rows
/-! ### rules whose readings name the written part, over any context that has it (a comprehension's block too) -/
section
variable {X : Cx} {K : PySem.W.Frag}
theorem ix_listK (h : X.K = K := by rfl) : IxR X (rIxL K) := h ▸ ix_list
theorem ix_tupK (h : X.K = K := by rfl) : IxR X (rIxT K) := h ▸ ix_tup
theorem sl_listK (h : X.K = K := by rfl) : SlR X (rSlL K) := h ▸ sl_list
theorem sl_tupK (h : X.K = K := by rfl) : SlR X (rSlT K) := h ▸ sl_tup
theorem op_inK (h : X.K = K := by rfl) : OpR X (compareOp .In) (rIn K false) := h ▸ op_in_seq
theorem op_notInK (h : X.K = K := by rfl) : OpR X (compareOp .NotIn) (rIn K true) := h ▸ op_notIn_seq
theorem op_eqDK (hu : X.A.units + 64 < cLine) (h : X.K = K := by rfl) : OpR X (compareOp .Eq) (rEqD K) := h ▸ op_eqD hu
theorem op_neDK (hu : X.A.units + 64 < cLine) (h : X.K = K := by rfl) : OpR X (compareOp .NotEq) (rNeD K) := h ▸ op_neD hu
theorem op_ltDK (hu : X.A.units + 64 < cLine) (h : X.K = K := by rfl) : OpR X (compareOp .Lt) (rLtD K) := h ▸ op_ltD hu
/-- len of a list or tuple -/
def rLenK (K : PySem.W.Frag) : List V → Hp → VK → Prop := fun xs H Q => ∃ p ys, xs = [.ref p] ∧ (SqL K H p ys ∨ SqT K H p ys) ∧ Q (.int ys.length) H
theorem call_lenK (h : X.K = K := by rfl) : CallR X (.builtin "len") (rLenK K) := h ▸ call_len_seq
def rListK (K : PySem.W.Frag) : List V → Hp → VK → Prop := fun xs H Q => ∃ p ys, xs = [.ref p] ∧ (SqL K H p ys ∨ SqT K H p ys) ∧ ∀ l, H l = none → Q (.ref l) (upd H l (.lst ys))
theorem call_listK (h : X.K = K := by rfl) : CallR X (.type "list") (rListK K) := h ▸ call_list_of
theorem cr_allK (hc : X.calm = true) (h : X.K = K := by rfl) : CallR X (.builtin "all") (rAll K) := h ▸ cr_all hc
theorem cr_anyK (hc : X.calm = true) (h : X.K = K := by rfl) : CallR X (.builtin "any") (rAny K) := h ▸ cr_any hc
theorem cr_sumK (hc : X.calm = true) (h : X.K = K := by rfl) : CallR X (.builtin "sum") (rSum K) := h ▸ cr_sum hc
theorem call_isiK1 (h : X.K = K := by rfl) : CallR X (.builtin "isinstance") (rIsi K) := h ▸ call_isi
theorem call_isiTK (h : X.K = K := by rfl) : CallR X (.builtin "isinstance") (rIsiT K) := h ▸ call_isiT
/-- sep.join(texts) -/
def rJoinK (K : PySem.W.Frag) : V → List V → Hp → VK → Prop := fun x xs H Q => ∃ a p, ∃ ys : List Str, x = .str a ∧ xs = [.ref p] ∧ (SqL K H p (ys.map V.str) ∨ SqT K H p (ys.map V.str)) ∧ (ys.map (·.length)).sum + ys.length * a.length ≤ 16777216 ∧ Q (.str (Txt.join a ys)) H
theorem mt_joinK (h : X.K = K := by rfl) : MtR X "str.join" (rJoinK K) := h ▸ mt_join
end
end L2

namespace L2
open PySem PySem.Spec PyProof.Rows
/-! ### enumerate of a text -/
def Ites (x : Str) : It :=
  ⟨fun i _ => i < x.cps.size,
    fun i H v H' => ∃ T c, v = .ref T ∧ H T = none ∧ H' = upd H T (.tup [.int (i : Nat), .str ⟨#[c]⟩]) ∧ x.cps[i]? = some c,
    fun i _ => i = x.cps.size⟩
theorem turn_enumS {P : Program} {w : World} {K : PySem.W.Frag} {elts : List Expr} {kk : Nat} {tpos : Pos} {e it : Addr} (x : Str) (t : Tok) :
    Turn P w K (.Tuple elts kk tpos) (Ites x) [e, it] e (fun i h => (∃ old, IsEnum h e it (i : Int) old) ∧ h.IsStrIter it (strIterType x) x t i ∧ e ≠ it) where
  mem := by simp
  obj := fun i h st c hc => by
    obtain ⟨⟨old, he⟩, ⟨o2, e2, _, d2⟩, _⟩ := st
    have e' : c = e ∨ c = it := by simpa using hc
    rcases e' with q | q
    · rw [q]; exact ⟨_, he, fun v q => nomatch q⟩
    · rw [q]; exact ⟨o2, e2, fun v q => by rw [d2] at q; cases q⟩
  keep := fun i h h' st k => by
    obtain ⟨⟨old, he⟩, ⟨o2, e2, r2⟩, ne⟩ := st
    exact ⟨⟨old, k e (by simp) _ he⟩, ⟨o2, k it (by simp) _ e2, r2⟩, ne⟩
  item := by
    intro X hP hw hK hc i pins s σ H E I hf st hg
    subst hP hw hK
    obtain ⟨⟨old, he⟩, hit, ne⟩ := st
    have hh : X.A.in1.handled = none := I.ok.hd hc
    have hel : e < s.heap.objs.size := Heap.lt_size he
    have hil : it < s.heap.objs.size := by obtain ⟨_, y, _⟩ := hit; exact Heap.lt_size y
    refine wpAny_pyNext_enum_itemC (Draws.text hh it x t) he hit hg ne (by simpa using ne) fun v h' tk hv ho hs' hT hsz hk => ?_
    obtain ⟨c, u, hcx, rfl⟩ := hv
    refine ⟨_, rfl, wpAny_letOwnedTupleGo_enum (s := { s with heap := h', toks := tk + 1 }) ho fun h'' he' sb => ?_⟩
    have hT2 : h''.get? s.heap.objs.size = some { cls := .type "tuple", data := .seq #[Value.int (i : Int) tk, Value.str ⟨#[c]⟩ u] } := (sb.2 _ (Nat.ne_of_gt hel)).trans hT
    have new : ObjOk X.prog X.w (upd H s.heap.objs.size (.tup [.int (i : Nat), .str ⟨#[c]⟩])) h'' s.heap.objs.size (.tup [.int (i : Nat), .str ⟨#[c]⟩]) :=
      ⟨by show 2 ≤ sizeLine; decide, [Value.int (i : Int) tk, Value.str ⟨#[c]⟩ u], .cons ⟨tk, rfl⟩ (.cons ⟨u, rfl⟩ .nil), ⟨_, hT2, rfl, _, rfl⟩⟩
    have I1 : Inv X pins σ (upd H s.heap.objs.size (.tup [.int (i : Nat), .str ⟨#[c]⟩])) { s with heap := h'', toks := tk + 1 } :=
      I.turnedNew (t' := tk + 1) (ch := [e, it]) (fun b o hb q => (sb.2 b (fun q' => hb (by simp [q']))).trans (hk b o (fun q' => hb (by simp [q'])) (fun q' => hb (by simp [q'])) q)) hf (Nat.le_refl _) new
    have st2 : h''.IsStrIter it (strIterType x) x t (i + 1) := by
      obtain ⟨o, q, r⟩ := hs'
      exact ⟨o, (sb.2 _ (fun z => ne z.symm)).trans q, r⟩
    have he2 : ∃ old, IsEnum h'' e it (((i + 1 : Nat)) : Int) old := by
      have e1 : ((i + 1 : Nat) : Int) = (i : Int) + 1 := by omega
      rw [e1]
      exact ⟨_, he'⟩
    refine ⟨.ref s.heap.objs.size, _, I1, rfl, ⟨_, c, rfl, I.hok.fresh (Nat.le_refl _), rfl, hcx⟩, ⟨he2, st2, ne⟩, fun b hbm => ?_⟩
    have hlt : b < s.heap.objs.size := by
      have e' : b = e ∨ b = it := by simpa using hbm
      rcases e' with q | q
      · rw [q]; exact hel
      · rw [q]; exact hil
    rw [upd_ne (Nat.ne_of_lt hlt)]
    exact (hf b hbm).1
  done := by
    intro X hP hw hK hc i pins s σ H E I hf st hg
    subst hP hw hK
    obtain ⟨⟨old, he⟩, hit, ne⟩ := st
    have hh : X.A.in1.handled = none := I.ok.hd hc
    have hi : i = x.cps.size := hg
    subst hi
    exact wpAny_pyNext_enum_endD (Draws.text hh it x t) he hit fun h' hk => ⟨rfl, I.turnedL (t' := s.toks) (ch := [e, it]) (fun c o hb q => hk c o (fun q' => hb (by simp [q'])) q) hf⟩
  self := fun A i s Q E st h => by
    obtain ⟨⟨old, he⟩, _⟩ := st
    exact wpAny_pyIter_enum he h
def iEnumS (ta : TA) : TI := fun σ H R => ta σ H fun vs H1 => ∃ x, vs = [.str x] ∧ R (Ites x) H1
theorem pi_enumS {X : Cx} {e : Expr} {ta : TA} {p pos tpos : Pos} {elts : List Expr} {kk : Nat} (hg : Gl X "enumerate") (hm : X.mg "enumerate" = none) (ha : PA X [e] ta) (hs : starEach [e] X.env = [(false, eval e X.env)] := by rfl) :
    PI X (.Tuple elts kk tpos) (.Call (.Name "enumerate" p) [e] [] pos) (iEnumS ta) := by
  refine ⟨fun pins s σ H R I h => ?_⟩
  refine Call_ (ld_blt I hg hm boot_enumerate (PyProof.Rows.callWith_type1 (thn (ha.run pos pins s σ H _ I h) fun us s1 ⟨vs, H1, I1, r1, q1⟩ => ?_) hs rfl))
  obtain ⟨x, ex, q⟩ := q1
  subst ex
  cases r1 with
  | cons r rr =>
    cases rr
    obtain ⟨t, rfl⟩ := r
    refine call_enumerate_str fun h' he hit hsz hk => wpAny_pyIter_enum he ?_
    have I2 : Inv X pins σ H1 { s1 with heap := h' } := I1.kept (t' := s1.toks) hk
    refine ⟨s1.heap.objs.size + 1, [s1.heap.objs.size + 1, s1.heap.objs.size], _, _, H1, rfl, I2, turn_enumS x t, ⟨⟨.none, he⟩, hit, Nat.succ_ne_self _⟩, fun b hb => ?_, q⟩
    have hle : s1.heap.objs.size ≤ b := by
      have e' : b = s1.heap.objs.size + 1 ∨ b = s1.heap.objs.size := by simpa using hb
      rcases e' with z | z <;> rw [z] <;> omega
    exact I1.fpOk hle (I1.hok.fresh hle)
theorem walk_enumS {x : Str} : Walk (Ites x) x.cps.size (fun _ => True) (fun i H v H' => ∃ T c, v = .ref T ∧ H T = none ∧ H' = upd H T (.tup [.int (i : Nat), .str ⟨#[c]⟩]) ∧ x.cps[i]? = some c) :=
  ⟨fun _ _ hi _ => hi, fun _ _ => rfl, fun _ _ _ _ _ _ y => y⟩
end L2

namespace L2
open PySem PySem.Spec PyProof.Rows
/-! ### int(text, base), a base of 2, 4, .. 12, digits 0 to 9, a, b -/
namespace Db
open PySem.NumText PySem.Calls
def dv (c : Nat) : Nat := if c ≤ 57 then c - 48 else c - 87
def Dig (B c : Nat) : Prop := ((48 ≤ c ∧ c ≤ 57) ∨ (97 ≤ c ∧ c ≤ 98)) ∧ dv c < B
def Base (B : Nat) : Prop := B = 2 ∨ B = 4 ∨ B = 6 ∨ B = 8 ∨ B = 10 ∨ B = 12
def num (B : Nat) (l : List Nat) : Nat := l.foldl (fun a c => a * B + dv c) 0
variable {B c : Nat} {cs : List Nat}
theorem two (p q : Prop) [Decidable p] [Decidable q] : ((decide p && decide q) = true) = (p ∧ q) := by simp
theorem digit_is (h : Dig B c) : digit? c = some (dv c) := by
  obtain ⟨h, _⟩ := h
  unfold digit? dv
  simp only [two]
  rcases h with h | h
  · rw [if_pos h, if_pos h.2]
  · rw [if_neg (by omega), if_pos (by omega), if_neg (by omega)]
theorem rng (h : Dig B c) : 48 ≤ c ∧ c ≤ 98 ∧ c ≠ 95 := by
  obtain ⟨h, _⟩ := h
  omega
theorem step_is {ds : Array Nat} {b : Bool} (h : Dig B c) : PySem.NumText.step B (ds, b) c = some (ds.push (dv c), true) := by
  unfold PySem.NumText.step
  rw [if_neg (by simp [(rng h).2.2]), digit_is h]
  exact if_pos h.2
theorem fold_is : ∀ (cs : List Nat) (ds : Array Nat), (∀ c ∈ cs, Dig B c) → cs.foldlM (PySem.NumText.step B) (ds, true) = some (cs.foldl (fun acc c => acc.push (dv c)) ds, true)
  | [], _, _ => rfl
  | c :: cs, ds, h => by
    rw [List.foldlM_cons, step_is (h c List.mem_cons_self)]
    exact fold_is cs (ds.push (dv c)) fun d hd => h d (List.mem_cons_of_mem _ hd)
theorem digits_is (h : ∀ c ∈ cs, Dig B c) (hne : cs ≠ []) : digits? B cs = some (cs.foldl (fun acc c => acc.push (dv c)) #[]) := by
  cases cs with
  | nil => exact absurd rfl hne
  | cons c cs =>
    unfold digits?
    rw [List.foldlM_cons, step_is (h c List.mem_cons_self)]
    show (cs.foldlM (PySem.NumText.step B) ((#[] : Array Nat).push (dv c), true)).bind _ = _
    rw [fold_is cs _ fun d hd => h d (List.mem_cons_of_mem _ hd)]
    rfl
theorem push_is : ∀ (cs : List Nat) (ds : Array Nat), (cs.foldl (fun acc c => acc.push (dv c)) ds).foldl (fun acc d => acc * B + d) 0 = cs.foldl (fun a c => a * B + dv c) (ds.foldl (fun acc d => acc * B + d) 0)
  | [], _ => rfl
  | c :: cs, ds => by
    rw [List.foldl_cons, push_is cs (ds.push (dv c)), List.foldl_cons]
    congr 1
    simp
theorem drop_is (h : ∀ c ∈ cs, Dig B c) : cs.dropWhile blank = cs := by
  cases cs with
  | nil => rfl
  | cons c cs => exact dropWhile_of (by have q := rng (h c List.mem_cons_self); omega)
theorem sign_is (h : ∀ c ∈ cs, Dig B c) : sign cs = (false, cs) := by
  cases cs with
  | nil => rfl
  | cons c cs =>
    have q := rng (h c List.mem_cons_self)
    exact sign_of (by omega) (by omega)
theorem pref_is (hB : Base B) (h : ∀ c ∈ cs, Dig B c) : ∀ p, PySem.NumText.prefix? cs = some p → p ≠ B ∧ B ≠ 0 := by
  intro p hp
  have b0 : B ≠ 0 := by unfold Base at hB; omega
  refine ⟨?_, b0⟩
  match cs, h, hp with
  | [], _, hp => cases (show (none : Option Nat) = some p from hp)
  | [a], _, hp =>
    unfold PySem.NumText.prefix? at hp
    split at hp
    · rename_i e; cases e
    · cases hp
  | a :: c :: r, h, hp =>
    obtain ⟨hc, hv⟩ := h c (List.mem_cons_of_mem _ List.mem_cons_self)
    by_cases ha : a = 48
    · subst ha
      have e : PySem.NumText.prefix? (48 :: c :: r) = if (c == 120 || c == 88) = true then some 16 else if (c == 111 || c == 79) = true then some 8 else if (c == 98 || c == 66) = true then some 2 else none := rfl
      have n1 : ¬ ((c == 120 || c == 88) = true) := by simp; omega
      have n2 : ¬ ((c == 111 || c == 79) = true) := by simp; omega
      rw [e, if_neg n1, if_neg n2] at hp
      by_cases n3 : (c == 98 || c == 66) = true
      · rw [if_pos n3] at hp
        cases hp
        intro e2
        have : c = 98 := by simp at n3; omega
        subst this
        unfold dv at hv
        rw [← e2] at hv
        simp at hv
      · rw [if_neg n3] at hp
        cases hp
    · unfold PySem.NumText.prefix? at hp
      split at hp
      · rename_i e; exact absurd (List.cons.inj e).1 ha
      · cases hp
theorem based_is (hB : Base B) (h : ∀ c ∈ cs, Dig B c) : based B cs = (B, false, cs) := by
  have b0 : B ≠ 0 := by unfold Base at hB; omega
  have z : (B == 0) = false := by simp [b0]
  unfold based
  cases e : PySem.NumText.prefix? cs with
  | none =>
    show (if (B == 0) = true then _ else (B, false, cs)) = _
    rw [z]
    rfl
  | some p =>
    have q := (pref_is hB h p e).1
    show (if (B == 0 || B == p) = true then _ else (B, false, cs)) = _
    rw [if_neg (by simp [b0]; exact fun z => q z.symm)]
theorem size_is : ∀ (cs : List Nat) (ds : Array Nat), (cs.foldl (fun acc c => acc.push (dv c)) ds).size = ds.size + cs.length
  | [], _ => rfl
  | c :: cs, ds => by
    rw [List.foldl_cons, size_is cs (ds.push (dv c)), Array.size_push, List.length_cons]
    omega
theorem read_is (hB : Base B) (h : ∀ c ∈ cs, Dig B c) (hne : cs ≠ []) (hl : cs.length ≤ 640) : (int_private% "readNumeral") 0 B cs = (int_private% "Numeral.value") ((num B cs : Nat) : Int) := by
  have hr : ∀ c ∈ cs.reverse, Dig B c := fun c hc => h c (List.mem_reverse.mp hc)
  refine (readNumeral_eq 0 B cs).trans ?_
  rw [drop_is h, sign_is h]
  show judge 0 false (based B cs).1 (based B cs).2.1 (digits? (based B cs).1 (((based B cs).2.2.reverse.dropWhile blank).reverse)) = _
  rw [based_is hB h]
  show judge 0 false B false (digits? B ((cs.reverse.dropWhile blank).reverse)) = _
  rw [drop_is hr, List.reverse_reverse, digits_is h hne]
  have z : ∀ ds : Array Nat, ds.size ≤ 6000 → judge 0 false B false (some ds) = (int_private% "Numeral.value") ((ds.foldl (fun acc d => acc * B + d) 0 : Nat) : Int) := by
    intro ds hd
    have n10 : ¬ ((B == 10 && decide (ds.size > 6000)) = true) := by
      have : ¬ ds.size > 6000 := by omega
      simp [this]
    unfold judge
    simp only [n10]
    simp
  rw [z _ (by rw [size_is]; simp; omega), push_is]
  rfl
theorem seen_is {x : Str} (h : ∀ c ∈ x.cps.toList, Dig B c) : numTextOf x = x.cps.toList ∧ numSeenOf x = x.cps.toList := by
  have e1 : numTextOf x = x.cps.toList := if_pos (by
    rw [← Array.all_toList, List.all_eq_true]
    intro c hc
    have q := rng (h c hc)
    exact decide_eq_true (by omega))
  refine ⟨e1, ?_⟩
  show (numTextOf x).takeWhile _ = _
  rw [e1]
  exact takeWhile_all fun c hc => bne_iff_ne.mpr (by have q := rng (h c hc); omega)
structure Kept (p : Prop) : Prop where
  out : p
set_option maxHeartbeats 8000000 in
theorem gives_is {x : PySem.Str} {u t : Tok} (hB : Base B) (hl : x.length ≤ 640) (h : ∀ c ∈ x.cps.toList, Dig B c) (hne : x.cps.toList ≠ []) :
    Gives (Builtin.«int.__new__» ⟨[.type "int", .str x u, .int (B : Int) t], []⟩) (.int ((num B x.cps.toList : Nat) : Int)) :=
  .of_wp fun M A E s Q hQ => by
    obtain ⟨hp, g, d, tk, os⟩ := s
    have f1 := F.conv_sub_int
    have f2 := F.madeHere_int
    have f6 : typeOf (.str x u) = pure (.type "str") := rfl
    obtain ⟨e1, e2⟩ := seen_is h
    have hs : (numSeenOf x).length ≤ 640 := by rw [e2, Array.length_toList]; exact hl
    have hr : (int_private% "readNumeral") 0 B (numSeenOf x) = (int_private% "Numeral.value") ((num B x.cps.toList : Nat) : Int) := by rw [e2]; exact read_is hB h hne (by rw [Array.length_toList]; exact hl)
    have ha : ((numSeenOf x).length == (numTextOf x).length) = true := by rw [e1, e2]; exact beq_self_eq_true _
    have hk := Kept.mk (And.intro hs (And.intro hr ha))
    clear hs hr ha e1 e2 hl hne h
    rcases hB with rfl | rfl | rfl | rfl | rfl | rfl
    all_goals
      repeat (any_goals (first
        | assumption
        | ((with_reducible show wpAny _ _ ((int_private% "intFromText") _ _ _) _ _ _); refine Hx.wp_textB hk.out.1 hk.out.2.1 hk.out.2.2 ?_)
        | wp_step))
    all_goals first | exact ⟨_, rfl, hQ⟩ | skip
theorem call_is {prog : Program} {w : World} {A : Around} {E : Value → Shared → Prop} {s : Shared} {Q : Value → Shared → Prop} {x : PySem.Str} {u t : Tok} (hB : Base B) (hl : x.length ≤ 640) (h : ∀ c ∈ x.cps.toList, Dig B c) (hne : x.cps.toList ≠ [])
    (hQ : Q (.int ((num B x.cps.toList : Nat) : Int) s.toks) { s with toks := s.toks + 1 }) : wpAny (model prog w) A (call (.type "int") [.str x u, .int (B : Int) t]) Q E s :=
  callType_new F.called_int F.newNe_int (Hx.typeCall_int_2 _ _) (Hx.newCall_int_2 _ _) (fun obj => F.initArgs_range_2 obj _ _) F.entry_int_new (gives_is hB hl h hne).meets (show (Made.int ((num B x.cps.toList : Nat) : Int)).post _ s from ⟨rfl, hQ⟩)
end Db
/-- int(text, base) -/
def rIntBase : List V → Hp → VK → Prop := fun xs H Q => ∃ (z : Str) (B : Nat), xs = [.str z, .int (B : Int)] ∧ Db.Base B ∧ z.cps.toList ≠ [] ∧ z.length ≤ 640 ∧ (∀ c ∈ z.cps.toList, Db.Dig B c) ∧ Q (.int ((Db.num B z.cps.toList : Nat) : Int)) H
theorem call_int_base {X : Cx} : CallR X (.type "int") rIntBase := by
  intro pins s σ H xs us Q I r h
  obtain ⟨z, B, rfl, hB, hne, hl, hx, q⟩ := h
  obtain ⟨u, w', rfl, r1, r2⟩ := vals2 r
  obtain ⟨t1, rfl⟩ := r1
  obtain ⟨t2, rfl⟩ := r2
  exact Db.call_is hB hl hx hne ⟨.int ((Db.num B z.cps.toList : Nat) : Int), H, I.tok _, ⟨_, rfl⟩, q⟩
end L2

namespace L2
open PySem PySem.Spec PyProof.Rows
/-! ### exceptions that a suite holds, and list(text) -/
section
variable {X : Cx}
/-- the exception at a, of the class cls, its own dict d: an instance of D -/
structure ExAt (K : PySem.W.Frag) (H : Hp) (cls : Value) (d : Option Addr) (D : Addr) : Prop where
  cls : cls = .ref D
  dict : d = none ∨ ∃ dd fs, d = some dd ∧ H dd = some (.xd fs)
  ok : ExcC K D
theorem ExAt.inst {pins : List (Addr × Obj)} {σ : St} {H : Hp} {s : Shared} {cls : Value} {d : Option Addr} {D a : Addr} {oe : Obj} (I : Inv X pins σ H s) (E : ExAt X.K H cls d D) (hz : Zc cls d oe) (hf : ∃ vs, oe.data = .fields vs) (ha : s.heap.get? a = some oe) : ∃ od, PySem.W.InstAt s.heap a oe D od := by
  obtain ⟨vs, hv⟩ := hf
  obtain ⟨oc, odd, oda, osl⟩ := oe
  obtain ⟨h1, h2⟩ := hz
  dsimp only at h1 h2 hv
  have e := E.cls
  subst e h1 h2 hv
  rcases E.dict with rfl | ⟨dd, fs, rfl, hd⟩
  · exact ⟨none, ha, rfl, rfl, trivial⟩
  · obtain ⟨mA, ⟨od, es, ep, e2, _⟩, _⟩ := (show ObjOk X.prog X.w H s.heap dd (.xd fs) from I.hok dd _ hd)
    exact ⟨some od, ha, rfl, rfl, e2⟩
theorem ExcC.kit {K : PySem.W.Frag} {D a : Addr} {oe : Obj} {od : Option Obj} (C : ExcC K D) : PySem.W.KitX K (.ref a) (.ref D) (fun h => PySem.W.InstAt h a oe D od) :=
  PySem.W.kitx_exc (by obtain ⟨cd, hc, _⟩ := PySem.W.any_some C.hd; rw [hc]; rfl) C.hg C.hk C.hs C.ha C.hn C.ht C.hm
/-- isinstance(e, c) -/
def rIsX (K : PySem.W.Frag) (a : Addr) (cls : Value) (d : Option Addr) : List V → Hp → VK → Prop := fun xs H Q => ∃ (D : Addr) (c : V) (cv : Value) (b : Bool), ExAt K H cls d D ∧ xs = [.ref a, c] ∧ ClsV c cv ∧ PySem.W.kitOne K (.ref D) cv = some b ∧ Q (.bl b) H
theorem call_isX {K : PySem.W.Frag} {a : Addr} {cls : Value} {d : Option Addr} {oe : Obj} {pn : List (Addr × Obj)} (hz : Zc cls d oe) (hf : ∃ vs, oe.data = .fields vs) (hK : X.K = K := by rfl) : CallR (X.suite a ((a, oe) :: pn)) (.builtin "isinstance") (rIsX K a cls d) := by
  subst hK
  intro pins s σ H xs us Q I r h
  obtain ⟨D, c, cv, b, E, rfl, hcv, e, q⟩ := h
  obtain ⟨u1, u2, rfl, rx, rt⟩ := vals2 r
  cases rx
  have ec := hcv.eq rt
  subst ec
  obtain ⟨hget, _⟩ := I.pin (a, oe) (List.mem_append.mpr (.inl List.mem_cons_self))
  obtain ⟨od, J⟩ := ExAt.inst (X := X.suite a ((a, oe) :: pn)) I E hz hf hget
  exact PySem.W.kia_one (E.ok.kit) I.kIn J e (fun z => nomatch z) fun tk => ⟨.bl b, H, I.kept (t' := tk) fun _ _ z => z, rfl, q⟩
/-- isinstance(e, (c, ..)) -/
def rIsXT (K : PySem.W.Frag) (a : Addr) (cls : Value) (d : Option Addr) : List V → Hp → VK → Prop := fun xs H Q => ∃ (D tp : Addr) (cs : List V) (us : List Value) (b : Bool), ExAt K H cls d D ∧ xs = [.ref a, .ref tp] ∧ H tp = some (.tup cs) ∧ Paired ClsV cs us ∧ PySem.W.kitAny K (.ref D) us = some b ∧ Q (.bl b) H
theorem call_isXT {K : PySem.W.Frag} {a : Addr} {cls : Value} {d : Option Addr} {oe : Obj} {pn : List (Addr × Obj)} (hz : Zc cls d oe) (hf : ∃ vs, oe.data = .fields vs) (hK : X.K = K := by rfl) : CallR (X.suite a ((a, oe) :: pn)) (.builtin "isinstance") (rIsXT K a cls d) := by
  subst hK
  intro pins s σ H xs us Q I r h
  obtain ⟨D, tp, cs, ws, b, E, rfl, hT, k, e, q⟩ := h
  obtain ⟨u1, u2, rfl, rx, rt⟩ := vals2 r
  cases rx
  cases (show u2 = Value.ref tp from rt)
  obtain ⟨hget, _⟩ := I.pin (a, oe) (List.mem_append.mpr (.inl List.mem_cons_self))
  obtain ⟨od, J⟩ := ExAt.inst (X := X.suite a ((a, oe) :: pn)) I E hz hf hget
  obtain ⟨_, its, rv, o, h1, h2, n, h3⟩ := (show ObjOk X.prog X.w H s.heap tp (.tup cs) from I.hok tp _ hT)
  have e3 := ClsV.all k rv
  subst e3
  obtain ⟨oc, od', dt, sl⟩ := o
  simp only at h2 h3
  subst h2 h3
  exact PySem.W.kia_tup (E.ok.kit) I.kIn J h1 e (fun z => nomatch z) fun tk => ⟨.bl b, H, I.kept (t' := tk) fun _ _ z => z, rfl, q⟩
/-- list(text) -/
def rListS (H : Hp) (z : Str) (Q : VK) : Prop := ∀ l, H l = none → Q (.ref l) (upd H l (.lst (z.cps.toList.map fun c => V.str ⟨#[c]⟩)))
theorem vals_signs : ∀ (l : List Nat) (us : List Value), us.length = l.length → (∀ (i : Nat) (v : Value), us[i]? = some v → ∃ c t, l[i]? = some c ∧ v = .str ⟨#[c]⟩ t) → Vals (l.map fun c => V.str ⟨#[c]⟩) us
  | [], [], _, _ => .nil
  | [], _ :: _, h, _ => by simp at h
  | _ :: _, [], h, _ => by simp at h
  | c :: l, u :: us, h, hv => by
    obtain ⟨c', t, e1, e2⟩ := hv 0 u rfl
    have : c = c' := by simpa using e1
    subst this
    exact .cons ⟨t, e2⟩ (vals_signs l us (by simpa using h) fun i v e => by simpa using hv (i + 1) v (by simpa using e))
theorem call_listS (hc : X.calm = true) : CallR X (.type "list") (fun xs H Q => ∃ z, xs = [.str z] ∧ z.length ≤ sizeLine ∧ rListS H z Q) := by
  intro pins s σ H xs us Q I r h
  obtain ⟨z, rfl, hz, q⟩ := h
  obtain ⟨u, rfl, t, rfl⟩ := vals1 r
  have hh : X.A.handled = none := I.ok.hd hc
  refine call_list_str hh z t (hn := hz) fun h' tk acc' c' hk hS hacc => ?_
  have rv : Vals (z.cps.toList.map fun c => V.str ⟨#[c]⟩) acc'.toList := vals_signs _ _ (by simpa using hacc.1) fun i v e => by
    obtain ⟨c, u, h1, h2⟩ := hacc.2 i v (by simpa using e)
    exact ⟨c, u, by simpa using h1, h2⟩
  refine ⟨.ref s.heap.objs.size, _, I.laid (t' := tk) hk (Nat.le_refl _) (show ObjOk X.prog X.w _ h' _ (.lst _) from ⟨by rw [List.length_map, Array.length_toList]; exact hz, acc'.toList, c', rv, by simpa using hS⟩), rfl, q _ (I.hok.fresh (Nat.le_refl _))⟩
end
end L2
namespace L2
open PySem PySem.Spec PyProof.Rows
/-! ### what the written part says of an own exception class -/
structure ExK (K : PySem.W.Frag) (mg : Str → Option Value) (x : Str) (C : Addr) (bm : List Value) (newId : String) : Prop where
  gC : mg x = some (.ref C)
  xC : PySem.W.excIn K C bm newId = true
  kC : PySem.W.keepIn K (.ref C) = true
  bC : PySem.W.subIn K (.ref C) (.type "BaseException") = some true
  tC : PySem.W.typeIn K (.ref C) = some (.type "type")
  iC : PySem.W.isClsIn K C = true
  sC : PySem.W.subIn K (.ref C) (.ref C) = some true
  ok : ExcC K C
theorem ExK.te {K : PySem.W.Frag} {mg : Str → Option Value} {x : Str} {C : Addr} {bm : List Value} {newId : String} (T : ExK K mg x C bm newId) : PySem.W.exmOne K (.ref C) (.ref C) = some true := by
  have e1 : (PySem.W.subIn K (.ref C) (.type "BaseException") == some true) = true := by rw [T.bC]; rfl
  have e2 : ((PySem.W.clsIn K C).isSome && PySem.W.typeIn K (.ref C) == some (.type "type")) = true := by
    have q : (PySem.W.clsIn K C).isSome = true := T.iC
    rw [q, T.tC]
    rfl
  show (if (PySem.W.subIn K (.ref C) (.type "BaseException") == some true) = true then (if ((PySem.W.clsIn K C).isSome && PySem.W.typeIn K (.ref C) == some (.type "type")) = true then PySem.W.subIn K (.ref C) (.ref C) else none) else none) = some true
  rw [if_pos e1, if_pos e2]
  exact T.sC
section
variable {X : Cx} {CX : CXT} {x : Str} {k : Nat} {f : Addr} {fd : FuncData} {ps : List Str} {sp : Sp} {dvs : List V} {ds : List Value} {E : St → XK} {e : Expr} {es : List Expr} {t : TA} {p pos : Pos}
/-- f(e, ..) in a try's body, defaults behind -/
def tCallSD (sp : Sp) (dvs : List V) (E : St → XK) (t : TA) : TE := fun σ H Q => t σ H fun vs H1 => sp (vs ++ dvs) H1 Q (E σ)
theorem pe_callSD (F : FnOk X.prog X.w X.K X.mg X.base CX k f fd ps sp) (hr : Room k X.A) (hg : Gl X x) (hm : X.mg x = some (.ref f)) (hk : PySem.W.keepIn X.K (.ref f) = true) (hb : Binds X.K fd ps ds) (hd : Vals dvs ds) (hx : ∀ σ, PassesAt CX X σ (E σ))
    (ha : PA X (e :: es) t) (hdb : (x == ("__debug__" : Str)) = false := by decide) (he : starEach (e :: es) X.env = (false, eval e X.env) :: starEach es X.env := by rfl) (hpl : (backTo pos (starEach es X.env)).any (·.1) = false := by rfl) :
    PE X (.Call (.Name x p) (e :: es) [] pos) (tCallSD sp dvs E t) := by
  refine ⟨fun pins s σ H Q I h => ?_⟩
  refine wpAny_Call_Name_kw (ld_glob I hg hm ?_ hdb)
  refine PySem.W.callWith_K (h₀ := X.base) I.ok.mod.kin hk (thn (ha.run pos pins s σ H _ I h) fun us s1 ⟨vs, H1, I1, r, q⟩ => ⟨I1.kIn, ?_⟩) he hpl
  have r2 : Vals (vs ++ dvs) (us ++ ds) := r.append hd
  have hl : (us ++ ds).length = ps.length := by rw [← r2.length]; exact F.len _ _ _ _ q
  refine wpAny_call (codeAny_mono (F.run X.A X.stack s1 H1 ⟨us, []⟩ (us ++ ds) (vs ++ dvs) Q (E σ) hr I1.env0 (hb s1 us I1.kIn hl) r2 q) fun r s' hq => ?_)
  cases r with
  | error er => exact hx σ pins H1 s1 er s' I1 hq
  | ok fl =>
    cases fl with
    | ret u => exact I1.after hq
    | next => exact False.elim hq
    | brk => exact False.elim hq
    | cont => exact False.elim hq
end
end L2

namespace L2
open PySem PySem.Spec PyProof.Rows
/-! ### own exceptions with fields over any built-in base -/
/-- what is asked of such a class C over the built-in class B -/
structure XiC (K : PySem.W.Frag) (C : Addr) (B newId initId : String) (bmB : List Value) : Prop where
  fb : ExcBaseFacts B newId initId bmB
  sf : StoreFacts B bmB "object.__setattr__" "object"
  made : PySem.W.excInitIn K C bmB newId = true
  ov : PySem.W.excOver K C bmB = true
  hd : PySem.W.hasDictIn K C = true
  sa : PySem.W.findIn K (.ref C) "__setattr__" = some (some (.builtin "object.__setattr__"))
  bC : PySem.W.subIn K (.ref C) (.type "BaseException") = some true
  tC : PySem.W.typeIn K (.ref C) = some (.type "type")
  kC : PySem.W.keepIn K (.ref C) = true
section
variable {X : Cx} {pins : List (Addr × Obj)} {σ : St} {H : Hp} {s : Shared} {a C dx : Addr} {f : Str} {y : V} {u : Value} {fs : List (Str × V)} {Q : Unit → Shared → Prop} {E : Value → Shared → Prop} {A : Around} {B ni ii : String} {bm : List Value}
/-- e.f = y, the first field: the exception's dict is made -/
theorem xi_first (T : XiC X.K C B ni ii bm) (I : Inv X pins σ H s) (he : H a = some (exo a C none)) (ht : PySem.W.takerIn X.K C f = some none) (ry : RelV y u)
    (k : ∀ dx s', H dx = none → dx ≠ a → Inv X pins σ (upd (upd (upd H dx (exd dx [])) a (exo a C (some dx))) dx (exd dx [(f, y)])) s' → Q () s') : wpAny (model X.prog X.w) A (setAttr (.ref a) f u) Q E s := by
  obtain ⟨t1, ho⟩ := exo_at I.hok he
  obtain ⟨hp, g, dr, t, os⟩ := s
  obtain ⟨cd, hc, hdct⟩ := PySem.W.any_some T.hd
  have lt : a < hp.objs.size := Heap.lt_size ho
  refine PySem.W.set_plain I.kIn (od := none) ⟨ho, rfl, rfl, trivial⟩ T.sa ?_
  refine PySem.W.osa_openX (od := none) T.sf I.kIn ⟨ho, rfl, rfl, trivial⟩ T.ov ht fun b => ?_
  refine wpAny_bind (wpAny_pure (wpAny_bind (PySem.W.instanceDict_exc ho (PySem.W.looks_clsIn I.kIn hc) hdct ?_)))
  show wpAny _ _ (Builtin.ObjectAttr.storeInDict hp.objs.size _ f u) _ _ _
  have gd : (hp.push (PySem.W.dictOf [] 0)).get? hp.objs.size = some (PySem.W.dictOf [] 0) := Heap.get?_push_size _ rfl
  have ns0 : (hp.push (PySem.W.dictOf [] 0)).Ns1 hp.objs.size (fun _ => none) := Heap.Ns1.of_empty ⟨_, #[], _, gd, rfl, fun e he => absurd he (by simp), fun _ => rfl⟩
  have J1 := I.laid (a := hp.objs.size) (o := exd hp.objs.size []) (h' := hp.push (PySem.W.dictOf [] 0)) (t' := t) (fun _ _ q => Heap.get?_push_of_some _ q) (Nat.le_refl _) (exd_ok ns0 fun _ => True.intro)
  have fr : H hp.objs.size = none := I.hok.fresh (Nat.le_refl _)
  have na : hp.objs.size ≠ a := Nat.ne_of_gt lt
  have gx := Heap.get?_update_self (fun o : Obj => { o with dict := some hp.objs.size }) (Heap.get?_push_of_some (PySem.W.dictOf [] 0) ho) rfl
  have J2 := J1.write (x := a) (e := a) (o := exo a C (some hp.objs.size)) (h' := (hp.push (PySem.W.dictOf [] 0)).update a fun o => { o with dict := some hp.objs.size }) (t' := t)
    (by rw [upd_ne na.symm, he]; exact True.intro) (.inl rfl) (fun b o hb q => (Heap.get?_update_ne _ _ _ _ hb).trans q) ⟨_, gx⟩ (exo_ok gx)
  have ns1 : ((hp.push (PySem.W.dictOf [] 0)).update a fun o => { o with dict := some hp.objs.size }).Ns1 hp.objs.size (fun _ => none) :=
    Heap.Ns1.of_empty ⟨_, #[], _, (Heap.get?_update_ne _ _ _ _ na).trans gd, rfl, fun e he => absurd he (by simp), fun _ => rfl⟩
  refine PySem.OEX.store_in_old (ns := []) ns1 Within.nil (by decide) fun h' tk' hn' sb => ?_
  have ex : ∃ o, h'.get? hp.objs.size = some o := by
    obtain ⟨o, _, _, q, _⟩ := hn'
    exact ⟨o, q⟩
  exact k hp.objs.size _ fr na (J2.write (x := hp.objs.size) (e := hp.objs.size) (o := exd hp.objs.size [(f, y)]) (h' := h') (t' := tk')
    (by rw [upd_ne na, upd_same]; exact True.intro) (.inl rfl) (fun b o hb q => (sb.2 b hb).trans q) ex (exd_ok hn' (relO_put (fs := []) ry fun _ => True.intro)))
/-- e.f = y, a later field -/
theorem xi_later (T : XiC X.K C B ni ii bm) (I : Inv X pins σ H s) (he : H a = some (exo a C (some dx))) (hd : H dx = some (exd dx fs)) (hl : fs.length ≤ 900) (ht : PySem.W.takerIn X.K C f = some none) (ry : RelV y u)
    (k : ∀ s', Inv X pins σ (upd H dx (exd dx ((f, y) :: fs))) s' → Q () s') : wpAny (model X.prog X.w) A (setAttr (.ref a) f u) Q E s := by
  obtain ⟨t1, ho⟩ := exo_at I.hok he
  obtain ⟨mA, ns1, rel⟩ := exd_at I.hok hd
  have wi := within_of rel
  obtain ⟨hp, g, dr, t, os⟩ := s
  obtain ⟨cd, hc, hdct⟩ := PySem.W.any_some T.hd
  obtain ⟨oD, _, _, gD, _, _⟩ := ns1.count wi
  refine PySem.W.set_plain I.kIn (od := some oD) ⟨ho, rfl, rfl, gD⟩ T.sa ?_
  refine PySem.W.osa_openX (od := some oD) T.sf I.kIn ⟨ho, rfl, rfl, gD⟩ T.ov ht fun b => ?_
  refine wpAny_bind (wpAny_pure (wpAny_bind (wpAny_bind (wpAny_loadPart ho (wpAny_bind ((PySem.W.looks_clsIn I.kIn hc).at ?_))))))
  rw [hdct]
  refine wpAny_pure (a := some dx) ?_
  refine PySem.OEX.store_in_old ns1 wi (by rw [List.length_map]; omega) fun h' tk' hn' sb => ?_
  have ex : ∃ o, h'.get? dx = some o := by
    obtain ⟨o, _, _, q, _⟩ := hn'
    exact ⟨o, q⟩
  exact k _ (I.write (x := dx) (e := dx) (o := exd dx ((f, y) :: fs)) (h' := h') (t' := tk') (by rw [hd]; exact True.intro) (.inl rfl) (fun b o hb q => (sb.2 b hb).trans q) ex (exd_ok hn' (relO_put ry rel)))
/-- B.__init__(e, ..): nothing of it is told -/
theorem xi_base {us : List Value} {P : Value → Shared → Prop} (T : XiC X.K C B ni ii bm) (I : Inv X pins σ H s) (he : H a = some (exo a C none)) (hl : us.length ≤ sizeLine) (k : ∀ s', Inv X pins σ H s' → P .none s') :
    wpAny (model X.prog X.w) A (call (.builtin ii) (.ref a :: us)) P E s := by
  obtain ⟨nm, N, q, bs, bm', hdct, sn, sub, ab, col, dd, k0, k1, k2, k3, k5, hC, hT⟩ := PySem.W.excInit_of I.kIn T.made
  obtain ⟨t1, ho⟩ := exo_at I.hok he
  obtain ⟨hp, g, d, t, os⟩ := s
  refine wpAny_call (PySem.HandSPX.init_base T.fb hT hC ho hl fun h' t2 kp hx => ?_)
  have J := I.write (t' := t) (x := a) (e := a) (o := exo a C none) (by rw [he]; exact True.intro) (.inl rfl) kp ⟨_, hx⟩ (exo_ok hx)
  have same : upd H a (exo a C none) = H := funext fun b => by
    by_cases hb : b = a
    · subst hb; rw [upd_same, he]
    · exact upd_ne hb
  rw [same] at J
  exact k _ J
end
/-- B.__init__(self, ..) -/
def tXi (K : PySem.W.Frag) (B ni ii : String) (bm : List Value) (ta : TA) : TE := fun σ H Q => ta σ H fun vs H1 => ∃ (a C : Addr) (ws : List V), vs = .ref a :: ws ∧ ws.length ≤ 1000 ∧ XiC K C B ni ii bm ∧ H1 a = some (exo a C none) ∧ Q .non H1
/-- self.f = e -/
def tXs (K : PySem.W.Frag) (B ni ii : String) (bm : List Value) (f : Str) (to te : TE) : TS := fun D σ H => te σ H fun y H1 => to σ H1 fun x H2 => ∃ a C : Addr, x = .ref a ∧ XiC K C B ni ii bm ∧ PySem.W.takerIn K C f = some none ∧
  ((H2 a = some (exo a C none) ∧ ∀ dx, H2 dx = none → dx ≠ a → D.nx σ (upd (upd (upd H2 dx (exd dx [])) a (exo a C (some dx))) dx (exd dx [(f, y)]))) ∨
    ∃ (dx : Addr) (fs : List (Str × V)), H2 a = some (exo a C (some dx)) ∧ H2 dx = some (exd dx fs) ∧ fs.length ≤ 900 ∧ D.nx σ (upd H2 dx (exd dx ((f, y) :: fs))))
section
variable {X : Cx} {o e : Expr} {es : List Expr} {to te : TE} {ta : TA} {f : Str} {p p' p1 p2 pos : Pos} {B ni ii : String} {bm : List Value}
theorem pe_xi {x : Str} {pl : Sem Bool} (hg : Gl X x) (hm : X.mg x = none) (hv : bootBuiltins x = some (.type B)) (hn : x ≠ "__name__") (hdb : (x == ("__debug__" : Str)) = false) (ty : typeOf (.type B) = pure (.type "type")) (vV : PySem.W.findCls X.K (.type B) (.type "type") "__init__" = some (.val (.builtin ii))) (ha : PA X (e :: es) ta)
    (stub : Manifest.isStub B = false := by decide +kernel) (hnd : PySem.W.handedIn (.builtin ii) = true := by decide +kernel)
    (hc : eval (.Call (.Attribute (.Name x p1) "__init__" p2) (e :: es) [] pos) X.env = (do
      let ov ← eval (.Name x p1) X.env
      standAt p2.atName
      let (f, first) ← holding [ov] (getMethod ov "__init__" pl)
      callWith pos f first (backTo pos (starEach (e :: es) X.env)) (backToKw pos (keywordEach [] X.env))) := by rfl)
    (he : starEach (e :: es) X.env = (false, eval e X.env) :: starEach es X.env := by rfl) (hpl : (backTo pos (starEach es X.env)).any (·.1) = false := by rfl) :
    PE X (.Call (.Attribute (.Name x p1) "__init__" p2) (e :: es) [] pos) (tXi X.K B ni ii bm ta) := by
  refine ⟨fun pins s σ H Q I h => ?_⟩
  refine PySem.W.methodCall_KW (ld_blt I hg hm hv ?_ hn hdb) hc
  obtain ⟨m, fr⟩ := I.fr
  refine PySem.W.method_type fr I.ok.mod.kin ty stub vV hnd ?_
  show wpAny _ _ (callWith pos (Value.builtin ii) [] (backTo pos (starEach (e :: es) X.env)) []) _ _ _
  refine PyProof.Rows.callWith_method1 (thn (ha.run pos pins _ σ H _ (I.tok _) h) fun us s1 z => ?_) he hpl
  obtain ⟨vs, H1, J, r, a, C, ws, rfl, hl, T, ea, q⟩ := z
  cases r with
  | @cons _ u0 _ ur ra rw' =>
    cases (show u0 = Value.ref a from ra)
    exact xi_base T J ea (by rw [← Paired.length rw', sizeLine_eq]; omega) fun s' J' => ⟨.non, H1, J', rfl, q⟩
theorem ps_xs (ho : PE X o to) (he : PE X e te) (hs : swapsWith e (some (.Attribute o f p')) pos.line X.env = pure false := by rfl) : PS X (.Assign [.Attribute o f p'] e pos) (tXs X.K B ni ii bm f to te) := by
  refine ⟨fun pins s σ H D I h => plainObj_wpAny_Assign_Attribute (thn (he.run pins s σ H _ I h) fun v s1 z1 => ?_) hs⟩
  obtain ⟨y, H1, J1, ry, q1⟩ := z1
  refine thn (ho.run pins s1 σ H1 _ J1 q1) fun u s2 z2 => ?_
  obtain ⟨x, H2, J2, rx, a, C, rfl, T, ht, q⟩ := z2
  cases (show u = Value.ref a from rx)
  rcases q with ⟨ea, q⟩ | ⟨dx, fs, ea, ed, hl, q⟩
  · exact xi_first T J2 ea ht ry fun dx s' n ne J => ⟨σ, _, J, q dx n ne⟩
  · exact xi_later T J2 ea ed hl ht ry fun s' J => ⟨σ, _, J, q⟩
/-- C(e, ..), C's own __init__ keeping sp -/
theorem pmk_xi {CX : CXT} {x : Str} {C fI : Addr} {k : Nat} {fd : FuncData} {ps : List Str} {sp : Sp} {ds : List Value} {dvs : List V} (T : XiC X.K C B ni ii bm) (iC : PySem.W.findIn X.K (.ref C) "__init__" = some (some (.ref fI))) (tI : PySem.W.typeIn X.K (.ref fI) = some (.type "function"))
    (F1 : FnOk X.prog X.w X.K X.mg X.base CX k fI fd ps sp) (hr : Room (k + 1) X.A) (hb : Binds X.K fd ps ds) (hd : Vals dvs ds) (hx : Passes CX X (fun _ _ _ => False)) (hg : Gl X x) (hm : X.mg x = some (.ref C)) (ha : PA X (e :: es) ta)
    (hdb : (x == ("__debug__" : Str)) = false := by decide) (he : starEach (e :: es) X.env = (false, eval e X.env) :: starEach es X.env := by rfl) (hpl : (backTo pos (starEach es X.env)).any (·.1) = false := by rfl) :
    PMk X (.Call (.Name x p) (e :: es) [] pos) (tMkO C sp dvs ta) := by
  intro pins s σ H Q I h
  refine wpAny_Call_Name_kw (ld_glob I hg hm ?_ hdb)
  refine PySem.W.callWith_K (h₀ := X.base) I.ok.mod.kin T.kC (thn (ha.run pos pins s σ H _ I h) fun us s1 z => ?_) he hpl
  obtain ⟨vs, H1, J, r, hz, q⟩ := z
  refine ⟨J.kIn, ?_⟩
  show wpAny _ _ (call (.ref C) us) _ _ _
  obtain ⟨nm, N, qn, bs, bm', hdct, sn, sub, ab, col, dd, k0, k1, k2, k3, k5, hC, hT⟩ := PySem.W.excInit_of J.kIn T.made
  obtain ⟨hp, g, dr, tk, os⟩ := s1
  have n1 : hp.objs.size ≤ hp.objs.size + 1 := Nat.le_succ _
  have Z := q (hp.objs.size + 1) (J.hok.fresh n1)
  have kp : ∀ b o, hp.get? b = some o → ((hp.push (PySem.W.kdv_tup us)).push (PySem.HandSPX.excO C hp.objs.size)).get? b = some o := fun _ _ z => Heap.get?_push_of_some _ (Heap.get?_push_of_some _ z)
  have gt : ((hp.push (PySem.W.kdv_tup us)).push (PySem.HandSPX.excO C hp.objs.size)).get? (hp.objs.size + 1) = some (PySem.HandSPX.excO C hp.objs.size) := by heap_get
  have J2 := J.laid (t' := tk) (a := hp.objs.size + 1) (o := exo (hp.objs.size + 1) C none) (h' := (hp.push (PySem.W.kdv_tup us)).push (PySem.HandSPX.excO C hp.objs.size)) kp n1 (exo_ok gt)
  have r2 : Vals (V.ref (hp.objs.size + 1) :: (vs ++ dvs)) (Value.ref (hp.objs.size + 1) :: (us ++ ds)) := .cons rfl (r.append hd)
  have zl : (Value.ref (hp.objs.size + 1) :: us ++ ds).length = ps.length := (r2.length.symm.trans (F1.len _ _ _ _ Z)).symm ▸ rfl
  refine wpAny_call (PySem.HandSPX.call_own T.fb hT hC (PySem.W.looks_findIn J.kIn iC) (fun self => PySem.W.bind_fn J.kIn self tI) (by rw [← Paired.length r, sizeLine_eq]; omega)
    (codeAny_mono (F1.run _ X.stack _ _ ⟨Value.ref (hp.objs.size + 1) :: us, []⟩ (Value.ref (hp.objs.size + 1) :: (us ++ ds)) _ _ (fun _ _ _ => False) (hr.make C us []) (J2.env0.make C us []) (hb _ (Value.ref (hp.objs.size + 1) :: us) J2.kIn zl) r2 Z) fun rs s' z => ?_))
  cases rs with
  | error er => exact hx pins σ _ _ er s' J2 z
  | ok fl =>
    cases fl with
    | ret u =>
      obtain ⟨v, H2, os2, bare2, un2, hok2, rv, ev, d, fs, ea, ed, hd1, q2⟩ := z
      subst ev
      obtain ⟨h2, g2, d2, t2, os'⟩ := s'
      exact ⟨rv, mk_end (raises_own T.bC T.tC) J n1 kp un2 hok2 os2 bare2 ea ed hd1 q2⟩
    | _ => exact False.elim z
end
end L2
namespace L2
open PySem PySem.Spec PyProof.Rows
/-! ### what the written part says of such a class -/
structure ExF (K : PySem.W.Frag) (mg : Str → Option Value) (x : Str) (C : Addr) (B ni ii : String) (bm : List Value) : Prop where
  gC : mg x = some (.ref C)
  xi : XiC K C B ni ii bm
  iC : PySem.W.isClsIn K C = true
  sC : PySem.W.subIn K (.ref C) (.ref C) = some true
  ok : ExcC K C
  xf : XfC K C
section
variable {K : PySem.W.Frag} {mg : Str → Option Value} {x : Str} {C D : Addr} {B ni ii : String} {bm : List Value} {b : Bool} {T : String} {f : Str}
theorem ExF.tC (E : ExF K mg x C B ni ii bm) : PySem.W.typeIn K (.ref C) = some (.type "type") := E.xi.tC
theorem ExF.bC (E : ExF K mg x C B ni ii bm) : PySem.W.subIn K (.ref C) (.type "BaseException") = some true := E.xi.bC
/-- which clause takes an exception -/
theorem exm_of (s : PySem.W.subIn K (.ref C) (.ref D) = some b) (bD : PySem.W.subIn K (.ref D) (.type "BaseException") = some true) (iD : PySem.W.isClsIn K D = true) (tD : PySem.W.typeIn K (.ref D) = some (.type "type")) : PySem.W.exmOne K (.ref C) (.ref D) = some b := by
  have q : (PySem.W.clsIn K D).isSome = true := iD
  show (if (PySem.W.subIn K (.ref D) (.type "BaseException") == some true) = true then (if ((PySem.W.clsIn K D).isSome && PySem.W.typeIn K (.ref D) == some (.type "type")) = true then PySem.W.subIn K (.ref C) (.ref D) else none) else none) = some b
  rw [if_pos (by rw [bD]; rfl), if_pos (by rw [q, tD]; rfl), s]
theorem ExF.te (E : ExF K mg x C B ni ii bm) : PySem.W.exmOne K (.ref C) (.ref C) = some true := exm_of E.sC E.bC E.iC E.tC
theorem kit_exT (s : PySem.W.subIn K (.ref C) (.type T) = some b) (m : PySem.W.kitMeta T = true := by decide +kernel) : PySem.W.kitOne K (.ref C) (.type T) = some b := by
  have n : (Value.ref C == Value.type T) = false := by
    apply beq_eq_false_iff_ne.mpr
    intro z
    cases z
  show (if (Value.ref C == Value.type T) = true then some true else if PySem.W.kitMeta T = true then PySem.W.subIn K (.ref C) (.type T) else none) = some b
  rw [n, if_neg (by decide), if_pos m, s]
theorem kit_exC (s : PySem.W.subIn K (.ref C) (.ref D) = some b) (iD : PySem.W.isClsIn K D = true) (tD : PySem.W.typeIn K (.ref D) = some (.type "type")) (sD : PySem.W.subIn K (.ref D) (.ref D) = some true) : PySem.W.kitOne K (.ref C) (.ref D) = some b := by
  have q : (PySem.W.clsIn K D).isSome = true := iD
  show (if (Value.ref C == Value.ref D) = true then some true else if ((PySem.W.clsIn K D).isSome && PySem.W.typeIn K (.ref D) == some (.type "type")) = true then PySem.W.subIn K (.ref C) (.ref D) else none) = some b
  by_cases e : C = D
  · subst e
    rw [if_pos (by simp)]
    exact sD.symm.trans s
  · rw [if_neg (by simpa using e), if_pos (by rw [q, tD]; rfl), s]
theorem taker_none (h : PySem.W.findIn K (.ref C) f = some none) : PySem.W.takerIn K C f = some none := by
  unfold PySem.W.takerIn
  rw [h]
  rfl
end
/-- what such a class's heap is behind its __init__, once the exception is let go -/
theorem fresh_xd {H : Hp} {a d : Addr} {C : Addr} {fs gs : List (Str × V)} (ha : H a = none) (n : d ≠ a) :
    upd (del (upd (upd (upd (upd H a (exo a C none)) d (exd d gs)) a (exo a C (some d))) d (exd d fs)) a) d (.xd fs) = upd H d (.xd fs) := funext fun b => by
  by_cases h : b = d
  · subst h; rw [upd_same, upd_same]
  · rw [upd_ne h, upd_ne h]
    by_cases h2 : b = a
    · subst h2; rw [del_same, ha]
    · rw [del_ne h2, upd_ne h, upd_ne h2, upd_ne h, upd_ne h2]
end L2

namespace L2
open PySem PySem.Spec PyProof.Rows
/-! ### several except clauses, each with a name or none -/
abbrev Hd := Value × Option Nat × (Addr → Value → Option Addr → TS)
/-- the ends of a suite whose name, slot i, is taken away behind it -/
def outOf (i : Nat) (D : Ends) : Ends := { nx := fun τ G => D.nx (τ.set i none) G, rt := D.rt, bk := fun τ G => D.bk (τ.set i none) G, ct := fun τ G => D.ct (τ.set i none) G }
/-- what the clauses wish of an exception of the body -/
def wLs (K : PySem.W.Frag) (Wout : WX) (D : Ends) : List Hd → WX
  | [] => Wout
  | (c, none, ts) :: r => fun cls d σ H => ∃ b, PySem.W.exmOne K cls c = some b ∧ (b = true → ∀ e, H e = none → ts e cls d D σ H) ∧ (b = false → wLs K Wout D r cls d σ H)
  | (c, some i, ts) :: r => fun cls d σ H => ∃ b, PySem.W.exmOne K cls c = some b ∧ (b = true → ∀ e, H e = none → ts e cls d (outOf i D) (σ.set i (some (.ref e))) H) ∧ (b = false → wLs K Wout D r cls d σ H)
/-- the readings of the clauses -/
inductive HdLs (X : Cx) : List ExceptHandler → List Hd → Prop
  | nil : HdLs X [] []
  | bare {x : Str} {c : Value} {ts : Addr → Value → Option Addr → TS} {st : Stmt} {suite : List Stmt} {np q : Pos} {hds : List ExceptHandler} {l : List Hd} (hc : Names X x c)
      (hs : ∀ (e : Addr) (oe : Obj) (cls : Value) (d : Option Addr) (pn : List (Addr × Obj)), Zc cls d oe → (∃ vs, oe.data = .fields vs) → PSs (X.suite e ((e, oe) :: pn)) (st :: suite) (ts e cls d)) (r : HdLs X hds l) :
      HdLs X (.ExceptHandler (some (.Name x np)) none (st :: suite) q :: hds) ((c, none, ts) :: l)
  | named {x n : Str} {i : Nat} {c : Value} {ts : Addr → Value → Option Addr → TS} {st : Stmt} {suite : List Stmt} {np q : Pos} {hds : List ExceptHandler} {l : List Hd} (hi : X.N[i]? = some n) (hn : X.env.kindOf n = some .local) (hc : Names X x c)
      (hs : ∀ (e : Addr) (oe : Obj) (cls : Value) (d : Option Addr) (pn : List (Addr × Obj)), Zc cls d oe → (∃ vs, oe.data = .fields vs) → PSs (X.suite e ((e, oe) :: pn)) (st :: suite) (ts e cls d)) (r : HdLs X hds l) :
      HdLs X (.ExceptHandler (some (.Name x np)) (some n) (st :: suite) q :: hds) ((c, some i, ts) :: l)
section
variable {X : Cx} {body : List Stmt} {h1 : ExceptHandler} {hds : List ExceptHandler} {l : List Hd} {pos : Pos} {tb : WX → TS} {Wout : WX}
theorem ps_try_ls (nd : X.N.Nodup) (hst : X.stack = X.env :: X.outer) (hfr : X.env.frame = some X.env.locals) (tk : Takes X Wout)
    (hb : ∀ (W : WX) (pn : List (Addr × Obj)) (xe : Value → Shared → Prop), Takes (X.tr pn xe) W → PassesOwn (model X.prog X.w) X.A X.env xe → PSs (X.tr pn xe) body (tb W))
    (hh : HdLs X (h1 :: hds) l) : PS X (.Try body (h1 :: hds) [] [] pos) (fun D σ H => tb (wLs X.K Wout D l) D σ H) := by
  refine ⟨fun pins s σ H D I h => wpAny_Try_except ?_⟩
  have ok := I.ok
  have fA : X.A.frames = some (X.env :: X.outer) := ok.frames.trans (congrArg some hst)
  refine wpAny_mono ((hb (wLs X.K Wout D l) (X.pn ++ pins) (fun e s₁ => wpAny (model X.prog X.w) X.A (noteFrame e X.env) (fun _ s₂ => wpAny (model X.prog X.w) X.A (setFlight e none) (fun _ s₃ =>
    wpAny (model X.prog X.w) X.A (handleBy e X.env (h1 :: hds)) (SP X pins D) X.xe s₃) X.xe s₂) X.xe s₁) (fun u s' z => ?_) PassesOwn.looking).run [] s σ H D (I.toTry _) h) (fun fl s1 z => ?_) (fun _ _ z => z)
  · obtain ⟨x, M, s0, p0, τ, G, cls, d, rfl, J0, nb, up, sky0, nx, os, ag, w⟩ := z
    have J : Inv X pins τ G s0 := J0.ofTry ok
    have sky : Sky M (X.env :: X.outer) x (Zc cls d) X.env.locals s'.heap := hst ▸ sky0
    show wpAny (model X.prog X.w) X.A (noteFrame (.ref x) X.env) _ _ _
    refine Sky.land Zc.steady fA hfr sky fun h3 fl3 up3 => ?_
    have J3 : Inv X pins τ G { s' with heap := h3 } := J.landed nb fl3.1 (up.trans up3) os ag
    obtain ⟨oe3, vs3, ge3, hz3, dd3⟩ := fl3.there
    have nfr : x ∉ frs (X.env :: X.outer) := fun hm => by
      obtain ⟨_, o', e', ne⟩ := fl3.2.2.1.mem hm
      rw [ge3] at e'; cases e'
      exact ne _ dd3
    have nL : x ≠ X.env.locals := fun z => nfr (List.mem_filterMap.mpr ⟨X.env, .head _, by rw [hfr, z]⟩)
    have nF : x ∉ X.fs := fun hm => by
      obtain ⟨v, hv, q⟩ := List.mem_filterMap.mp hm
      exact nfr (List.mem_filterMap.mpr ⟨v, .tail _ hv, q⟩)
    have S3 := J3.suite ge3 dd3 nx nL nF
    have LT : PySem.W.Looks (model X.prog X.w) h3 (typeOf (.ref x)) cls := fun A Q E s k q => wpAny_typeOf_ref (k _ _ ge3) (by rw [hz3.1]; exact q)
    have go : ∀ {us : List ExceptHandler} {m : List Hd}, HdLs X us m → wLs X.K Wout D m cls d τ G → wpAny (model X.prog X.w) X.A (handleBy (.ref x) X.env us) (SP X pins D) X.xe { s' with heap := h3 } := by
      intro us m hk
      have look : ∀ {y : Str} {c : Value} {np : Pos} {Q : Value → Shared → Prop} {E : Value → Shared → Prop}, Names X y c → Q c { s' with heap := h3 } → wpAny (model X.prog X.w) (X.A.mark (some (.ref x))) (eval (.Name y np) X.env) Q E { s' with heap := h3 } := fun {y c np Q E} hc q => by
        obtain ⟨g1, g2, g3 | ⟨g3, g4, g5⟩⟩ := hc
        · exact ld_glob (X := X.suite x ((x, oe3) :: (X.pn ++ pins))) S3 g1 g3 q g2
        · exact ld_blt (X := X.suite x ((x, oe3) :: (X.pn ++ pins))) S3 g1 g3 g4 q g5 g2
      induction hk with
      | nil =>
        intro w
        refine wpAny_handleBy_nil ?_
        obtain ⟨k1, k2, k3, oe, vs, T, oT, ts', he, hz, hd, h1, hr⟩ := id fl3
        unfold PySem.passOn
        refine wpAny_bind (wpAny_field he hd h1 ?_)
        rw [if_neg (show ¬ ((Value.ref T == Value.none) = true) from by simp)]
        have off : wpAny (model X.prog X.w) X.A (setFlight (.ref x) X.env.frame) (fun _ s4 => wpAny (model X.prog X.w) X.A (throw (.ref x) : Sem Flow) (SP X pins D) X.xe s4) X.xe { s' with heap := h3 } := by
          rw [hfr]
          exact HandSPX.setFlight_upZ fl3 fun h4 hh4 up4 => wpAny_throw (tk _ _ ⟨x, M, s0, pins, τ, G, cls, d, rfl, J, nb, (up.trans up3).trans up4, .inr (.inr (by rw [hst]; exact hh4)), nx, os, ag, w⟩)
        first | exact wpAny_bind (wpAny_pure (wpAny_bind off)) | exact wpAny_bind off
      | @bare y c ts st suite np q us2 m2 hc hs r ih =>
        intro w
        obtain ⟨b, hm, hyes, hno⟩ := w
        refine wpAny_handleBy_cons (codeAny_handlers_test (look hc ((PySem.W.exm_one (M := model X.prog X.w) J3.kIn LT hm).here ?_))) (fun z => nomatch z)
        cases b with
        | false => exact ih (hno rfl)
        | true =>
          refine codeAny_handlers_suite (HandSPX.lands_againZ fl3 fun h4 fl4 up4 => ?_)
          obtain ⟨oe4, vs4, ge4, hz4, dd4⟩ := fl4.there
          have S4 := (J.landed nb fl4.1 ((up.trans up3).trans up4) os ag : Inv X pins τ G { s' with heap := h4 }).suite ge4 dd4 nx nL nF
          refine wpAny_mono ((hs x oe4 cls d (X.pn ++ pins) hz4 ⟨_, dd4⟩).run [] _ _ G _ S4 (hyes rfl x nx)) (fun f s6 z => ?_) (fun _ _ z => z.elim)
          cases f with
          | ret u => exact let ⟨v6, τ6, G6, S6, r6, q6⟩ := z; ⟨v6, τ6, G6, S6.unsuite ok, r6, q6⟩
          | _ => exact let ⟨τ6, G6, S6, q6⟩ := z; ⟨τ6, G6, S6.unsuite ok, q6⟩
      | @named y n i c ts st suite np q us2 m2 hi hn hc hs r ih =>
        intro w
        obtain ⟨b, hm, hyes, hno⟩ := w
        refine wpAny_handleBy_cons (codeAny_handlers_test (look hc ((PySem.W.exm_one (M := model X.prog X.w) J3.kIn LT hm).here ?_))) (fun z => nomatch z)
        cases b with
        | false => exact ih (hno rfl)
        | true =>
          refine codeAny_handlers_suite_as (HandSPX.lands_againZ fl3 fun h4 fl4 up4 => ?_)
          obtain ⟨oe4, vs4, ge4, hz4, dd4⟩ := fl4.there
          have S4 := (J.landed nb fl4.1 ((up.trans up3).trans up4) os ag : Inv X pins τ G { s' with heap := h4 }).suite ge4 dd4 nx nL nF
          refine store_ok (X := X.suite x ((x, oe4) :: (X.pn ++ pins))) (v := .ref x) S4 nd hi (.inl hn) rfl (fun s5 S5 => ?_) (.inr hn)
          refine wpAny_mono ((hs x oe4 cls d (X.pn ++ pins) hz4 ⟨_, dd4⟩).run [] s5 _ G _ S5 (hyes rfl x nx)) (fun f s6 z => ?_) (fun _ _ z => z.elim)
          have away : ∀ {τ6 : St} {G6 : Hp} {Q : Shared → Prop}, Inv (X.suite x ((x, oe4) :: (X.pn ++ pins))) [] τ6 G6 s6 → (∀ s7, Inv X pins (τ6.set i none) G6 s7 → Q s7) →
              wpAny (model X.prog X.w) X.A (do bindName X.env n .none; unbindBehindTheSuite X.env n q) (fun _ s7 => Q s7) X.xe s6 := fun {τ6 G6 Q} S6 hq => gone_ok (S6.unsuite ok) nd hi hn hq
          cases f with
          | ret u => exact let ⟨v6, τ6, G6, S6, r6, q6⟩ := z; away S6 fun s7 J7 => ⟨v6, _, _, J7, r6, q6⟩
          | _ => exact let ⟨τ6, G6, S6, q6⟩ := z; away S6 fun s7 J7 => ⟨_, _, J7, q6⟩
    exact go hh w
  · cases fl with
    | next => exact let ⟨τ, G, J, q⟩ := z; wpAny_execs_nil ⟨τ, G, J.ofTry ok, q⟩
    | ret u => exact let ⟨v, τ, G, J, r, q⟩ := z; ⟨v, τ, G, J.ofTry ok, r, q⟩
    | _ => exact let ⟨τ, G, J, q⟩ := z; ⟨τ, G, J.ofTry ok, q⟩
end
end L2

namespace L2
open PySem PySem.Spec PyProof.Rows
/-! ### defs that ask what is being shown: called where no repr is under way -/
/-- no repr is under way -/
def NoRp (A : Around) : Prop := A.guards = some []
/-- a def's promise where no repr is under way -/
structure FnG (P : Program) (w : World) (K : PySem.W.Frag) (mg : Str → Option Value) (base : Heap) (CX : CXT) (k : Nat) (f : Addr) (fd : FuncData) (ps : List Str) (sp : Sp) : Prop where
  len : ∀ vs H Q E, sp vs H Q E → vs.length = ps.length
  run : ∀ (A : Around) (outer : List Env) (s : Shared) (H : Hp) (as : Args) (us : List Value) (vs : List V) (Q : VK) (E : XK), NoRp A → Room k A → Env0 P w K mg base A outer s H → BindsTo s fd as (ps.zip us) → Vals vs us → sp vs H Q E →
    codeAny (model P w) A (.call (.ref f) as) (CR CX outer P w H s Q E) s
theorem fn_ofG {CX : CXT} {P : Program} {w : World} {K : PySem.W.Frag} {mg : Str → Option Value} {base : Heap} {k : Nat} {f : Addr} {nm ql : Str} {params : Arguments} {body : List Stmt} {scope : Scope} {dV kV doc pm cdv ct oc : Value} {an od : Option Addr}
    {osl : Array (Option Value)} {N ps : List Str} {sp : Sp} (lk : K.lookup f = some ⟨oc, od, .func (PySem.W.fnOf nm ql params body scope dV kV doc pm an cdv ct), osl⟩) (hcd : PySem.W.codeIn K cdv ql = true) (S : FnScope N ps scope)
    (len : ∀ vs H Q E, sp vs H Q E → vs.length = ps.length)
    (go : ∀ (A : Around) (outer : List Env) (s : Shared) (H : Hp) (vs : List V) (Q : VK) (E : XK), NoRp A → Room k (A.deeper (envOfC ql scope s.heap.objs.size f cdv)) → sp vs H Q E →
      ∃ t, PSs (cxOf CX P w K mg base N ql scope f cdv A outer s H E) body t ∧ t { nx := fun _ H' => Q .non H', rt := Q } (start N vs) H) :
    FnG P w K mg base CX (k + 1) f (PySem.W.fnOf nm ql params body scope dV kV doc pm an cdv ct) ps sp := by
  refine ⟨len, fun A outer s H as us vs Q E g room e0 hb r z => ?_⟩
  have inK : K.In s.heap := e0.mod.kin.keeps fun b o e => (e0.bs b o e).1
  have noLim : s.heap.NoLimit := e0.mod.nolimit.keeps fun b o e => (e0.bs b o e).1
  have kinds : ∀ y ∈ ps.zip us, scope.names.lookup y.1 = some .local ∨ (scope.names.lookup y.1 = some .cell ∧ ((cellsFrom (s.heap.objs.size + 1) scope.names []).lookup y.1).isSome = true) := fun y hy => by
    obtain ⟨n, v⟩ := y
    exact (S.par n (List.of_mem_zip hy).1).imp id fun q => ⟨q, PySem.W.cellsFrom_some _ _ _ (.inl q)⟩
  refine codeAny_call_function room.depth (inK _ _ lk) rfl S.co S.gen rfl (PySem.W.codeRec_of inK hcd) (hb _ _ _ _ ?_)
  refine wpAny_newFunctionEnv_cells S.kind kinds fun env he s1 x => ?_
  subst he
  refine ⟨noLim.keeps x.toInCall.keep, codeAny_func ?_⟩
  obtain ⟨t, ht, q⟩ := go A outer s H vs Q E g (room.deeper _) z
  have I := inv_start (CX := CX) (E := E) S room.hd e0 (len _ _ _ _ z) r x
  refine wpAny_mono (ht.run [] s1 (start N vs) H _ I q) (fun fl s' hs => ?_) fun _ _ hs => hs
  cases fl with
  | ret u => exact let ⟨v, σ', H', J, rv, q⟩ := hs; ⟨v, H', J.os, J.bare, J.base, J.hok, rv, q⟩
  | next => exact let ⟨σ', H', J, q⟩ := hs; ⟨V.non, H', J.os, J.bare, J.base, J.hok, rfl, q⟩
  | brk => exact let ⟨_, _, _, q⟩ := hs; False.elim q
  | cont => exact let ⟨_, _, _, q⟩ := hs; False.elim q
section
variable {P : Program} {w : World} {K : PySem.W.Frag} {mg : Str → Option Value} {base : Heap}
theorem Fun.okG {x ql : Str} {st : Stmt} {f : Addr} {fd : FuncData} {N ps : List Str} {k : Nat} {sp : Sp} (F : Fun K x ql st f fd) (S : FnScope N ps (defScope st)) (len : ∀ vs H Q E, sp vs H Q E → vs.length = ps.length)
    (go : ∀ (cdv : Value) (A : Around) (outer : List Env) (s : Shared) (H : Hp) (vs : List V) (Q : VK) (E : XK), NoRp A → Room k (A.deeper (envOfC ql (defScope st) s.heap.objs.size f cdv)) → sp vs H Q E →
      ∃ t, PSs (cxOf CX0 P w K mg base N ql (defScope st) f cdv A outer s H E).nox (defBody st) t ∧ t { nx := fun _ H' => Q .non H', rt := Q } (start N vs) H) : FnG P w K mg base CX0 (k + 1) f fd ps sp := by
  obtain ⟨oc, od, kV, doc, pm, an, cdv, ct, osl, rfl, lk, hcd⟩ := F.ex
  refine fn_ofG lk hcd S len fun A outer s H vs Q E g room z => ?_
  obtain ⟨t, h, q⟩ := go cdv A outer s H vs Q E g room z
  exact ⟨t, h.nox, q⟩
end
section
variable {X : Cx} {CX : CXT} {x : Str} {k : Nat} {f : Addr} {fd : FuncData} {ps : List Str} {sp : Sp} {dvs : List V} {ds : List Value} {E : XK} {e : Expr} {es : List Expr} {t : TA} {p pos : Pos}
/-- f(e, ..) where f is such a def -/
theorem pe_callG (F : FnG X.prog X.w X.K X.mg X.base CX k f fd ps sp) (g : NoRp X.A) (hr : Room k X.A) (hg : Gl X x) (hm : X.mg x = some (.ref f)) (hk : PySem.W.keepIn X.K (.ref f) = true) (hb : Binds X.K fd ps ds) (hd : Vals dvs ds) (hx : Passes CX X E)
    (ha : PA X (e :: es) t) (hdb : (x == ("__debug__" : Str)) = false := by decide) (he : starEach (e :: es) X.env = (false, eval e X.env) :: starEach es X.env := by rfl) (hpl : (backTo pos (starEach es X.env)).any (·.1) = false := by rfl) :
    PE X (.Call (.Name x p) (e :: es) [] pos) (tCall sp dvs E t) := by
  refine ⟨fun pins s σ H Q I h => wpAny_Call_Name_kw (ld_glob I hg hm ?_ hdb)⟩
  refine PySem.W.callWith_K (h₀ := X.base) I.ok.mod.kin hk (thn (ha.run pos pins s σ H _ I h) fun us s1 z => ?_) he hpl
  obtain ⟨vs, H1, J, r, q⟩ := z
  have rr : Vals (vs ++ dvs) (us ++ ds) := r.append hd
  refine ⟨J.kIn, wpAny_call (codeAny_mono (F.run X.A X.stack s1 H1 ⟨us, []⟩ (us ++ ds) (vs ++ dvs) Q E g hr J.env0 (hb s1 us J.kIn (rr.length.symm.trans (F.len _ _ _ _ q))) rr q) fun r s' z => ?_)⟩
  cases r with
  | error er => exact hx pins σ H1 s1 er s' J z
  | ok fl =>
    cases fl with
    | ret u => exact J.after z
    | _ => exact False.elim z
/-- repr(e) of data -/
def rRepr (K : PySem.W.Frag) : List V → Hp → VK → Prop := fun vs H Q => ∃ (a : Addr) (d : PyData), vs = [.ref a] ∧ Dp K H (.ref a) d ∧ d.showable = true ∧ d.hasDict = false ∧ d.shown.length ≤ sizeLine ∧ d.depth ≤ 60 ∧ Q (.str d.shown) H
theorem call_reprD {K : PySem.W.Frag} (g : NoRp X.A) (hu : X.A.units + 64 < cLine) (hK : X.K = K := by rfl) : CallR X (.builtin "repr") (rRepr K) := by
  subst hK
  intro pins s σ H xs us Q I r h
  obtain ⟨a, d, rfl, hd, h1, h2, h3, h4, q⟩ := h
  obtain ⟨u, rfl, ru⟩ := vals1 r
  obtain ⟨as, rd⟩ := Dp.reads I d _ u hd ru
  cases (show u = Value.ref a from ru)
  exact repr_of_reads' rd h1 (PyData.noDict_hsm h2) g (by omega) (fun _ _ e => e) (fun h' u tk kp => ⟨.str d.shown, H, I.kept (t' := tk) kp, ⟨_, rfl⟩, q⟩) h3
end
/-! ### the head of a law that is such a def -/
theorem law_callG {P : Program} {w : World} {K : PySem.W.Frag} {mg mb : Str → Option Value} {k : Nat} {fa a : Addr} {fd : FuncData} {x : Str} {sp : Sp} {s : Shared} {vs : List Value} {ns : List Int}
    (inK : K.In s.heap) (hns : s.heap.Ns mainGlobals mg) (hb : s.heap.Ns builtinsNs mb) (hbb : ∀ x : Str, x ≠ "__name__" → mb x = bootBuiltins x) (hlim : s.heap.NoLimit) (hg : s.gens = #[])
    (ha : s.heap.get? a = some { cls := .type "list", data := .seq vs.toArray }) (hi : IntsAre vs ns) (hl : ns.length ≤ sizeLine) (hr : Room k callerA)
    (F : ∀ base : Heap, K.In base → base.Ns mainGlobals mg → FnG P w K mg base CX0 k fa fd [x] sp) (bind : ∀ (s : Shared) (u : Value), BindsTo s fd ⟨[u], []⟩ [(x, u)])
    (hsp : ∀ H : Hp, Only H → SqL K H a (ns.map V.int) → sp [.ref a] H (fun v _ => v = .bl true) fun _ _ _ => False) :
    codeAny (model P w) callerA (.call (.ref fa) ⟨[.ref a], []⟩) (fun r s' => r = .ok (.ret (.bool true)) ∧ OldK s.heap s'.heap ∧ s'.os = s.os ∧ AllBare s'.gens) s := by
  have main : ∀ H : Hp, Only H → SqL K H a (ns.map V.int) → HOk P w H s.heap → (∀ b, H b ≠ none → b = a) → (H a ≠ none → K.lookup a = none) →
      codeAny (model P w) callerA (.call (.ref fa) ⟨[.ref a], []⟩) (fun r s' => r = .ok (.ret (.bool true)) ∧ OldK s.heap s'.heap ∧ s'.os = s.os ∧ AllBare s'.gens) s := by
    intro H only sq ok hA hK
    have free : ∀ {b : Addr} {o : Obj} {es : Array DictEntry} {ep : Nat}, s.heap.get? b = some o → o.data = .dict es ep → H b = none := fun {b o es ep} e d => Classical.byContradiction fun nn => by
      rw [hA b nn, ha] at e
      injection e with e
      rw [← e] at d
      exact nomatch d
    have ns' : ∀ {b : Addr} {m : Str → Option Value}, s.heap.Ns b m → (hidT s.heap H).Ns b m := fun {b m} z => let ⟨o, es, ep, e, d, r⟩ := z; ⟨o, es, ep, hidT_get e (free e d), d, r⟩
    have inB : K.In (hidT s.heap H) := fun b o e => hidT_get (inK b o e) (Classical.byContradiction fun nn => by
      have eb := hA b nn
      subst eb
      rw [hK nn] at e
      cases e)
    have mod : Mod K mg (hidT s.heap H) := ⟨inB, ns' hns, ⟨mb, ns' hb, hbb⟩, let ⟨mc, z1, z2⟩ := hlim; ⟨mc, ns' z1, z2⟩⟩
    have e0 : Env0 P w K mg (hidT s.heap H) callerA [] s H := ⟨rfl, mod, fun b o e => of_hidT e, Nat.le_of_eq (hidT_size _ _), trivial, fun b z => (List.not_mem_nil (show b ∈ ([] : List Addr) from z)).elim, ok, .of_eq hg⟩
    refine codeAny_mono ((F _ inB (ns' hns)).run callerA [] s H ⟨[.ref a], []⟩ [.ref a] [.ref a] _ _ rfl hr e0 (bind s (.ref a)) (.cons rfl .nil) (hsp H only sq)) fun r s' z => ?_
    rcases r with e | (_ | _ | _ | u)
    · exact z.elim
    all_goals first | exact False.elim z | skip
    obtain ⟨v, H', os, bare, un, ok', rv, q⟩ := z
    cases (show v = .bl true from q)
    cases (show u = Value.bool true from rv)
    refine ⟨rfl, OldK.of_keep fun b o e => ?_, os, bare⟩
    rcases only b with n | ⟨ob, xs, y⟩
    · exact un.keep b o e n (fun z => (List.not_mem_nil (show b ∈ ([] : List Addr) from z)).elim) (by simp)
    · obtain ⟨g1, _⟩ := ok b _ y
      obtain ⟨g2, _⟩ := ok' b _ (un.frzs b ob _ y)
      rw [e] at g1
      cases g1
      exact g2
  have rv := vals_ints hi
  by_cases hk : K.lookup a = none
  · let H0 : Hp := fun b => if b = a then some (.frz { cls := .type "list", data := .seq vs.toArray } (.lst (ns.map V.int))) else none
    have at_a : H0 a = some (.frz { cls := .type "list", data := .seq vs.toArray } (.lst (ns.map V.int))) := if_pos rfl
    have off : ∀ {b}, b ≠ a → H0 b = none := fun h => if_neg h
    refine main H0 (fun b => ?_) (.inl (.inr ⟨_, at_a⟩)) (fun b u z => ?_) (fun b z => Classical.byContradiction fun h => z (off h)) fun _ => hk
    · by_cases h : b = a
      · subst h; exact .inr ⟨_, _, at_a⟩
      · exact .inl (off h)
    · by_cases h : b = a
      · subst h
        rw [at_a] at z
        cases z
        exact ⟨ha, by rw [List.length_map]; exact hl, vs, _, rv, ha⟩
      · rw [off h] at z
        cases z
  · obtain ⟨o, ho⟩ := Option.ne_none_iff_exists'.mp hk
    have e := inK a o ho
    rw [ha] at e
    cases e
    exact main (fun _ => none) (fun _ => .inl rfl) (.inr ⟨_, vs.toArray, _, ho, rfl, rfl, rfl, by rw [List.size_toArray, hi.length]; exact hl, by simpa using rv⟩) (fun b u z => nomatch (show (none : Option HO) = some u from z)) (fun b z => absurd rfl z) fun z => absurd rfl z
theorem walk_ofG {l : PySem.W.OpenLaw} {n k : Nat} {q : Program} {loose : List Str} {XP : (Str → Option Value) → Heap → Prop} {YP : World → Heap → Prop} {d : DefRec} {K : Params → PySem.W.Frag} {sp : World → Sp} {x : Str}
    (hn : l.most = some n) (hn2 : n ≤ sizeLine) (hdf : d.params.defaults = []) (hr : Room k callerA) (hY : ∀ (w : World) (h : Heap), YP w h → (K w.params).In h)
    (F : ∀ (w : World) (mg : Str → Option Value) (fa : Addr) (h : Heap), (K w.params).In h → h.Ns mainGlobals mg → mg d.name = some (.ref fa) →
      ∃ fd : FuncData, (∀ (s : Shared) (u : Value), BindsTo s fd ⟨[u], []⟩ [(x, u)]) ∧ ∀ base : Heap, (K w.params).In base → base.Ns mainGlobals mg → FnG l.prog w (K w.params) mg base CX0 k fa fd [x] (sp w))
    (hsp : ∀ (w : World) (H : Hp) (a : Addr) (ns : List Int), ns.length ≤ n → Only H → SqL (K w.params) H a (ns.map V.int) → sp w [.ref a] H (fun v _ => v = .bl true) fun _ _ _ => False) :
    PySem.W.WalkO q loose XP YP l.row.toRowW d [] (fun f vs => PySem.call f vs) := by
  refine Att.attach_call hn hdf fun w s₀ s₁ mg mb fa o pm cd doc a vs ns G Y ho hd hcd hmg hobj hints hlen hg => ?_
  obtain ⟨fd, hb, hF⟩ := F w mg fa _ (hY w _ Y) G.T.g hmg
  exact law_callG (hY w _ Y) G.T.g G.T.b G.T.builtins G.T.nolimit hg hobj hints (Nat.le_trans hlen hn2) hr hF hb fun H hO hS => hsp w H a ns hlen hO hS
end L2

namespace L2
open PySem PySem.Spec PyProof.Rows
/-! ### text * number -/
section
variable {X : Cx}
theorem op_repS : OpR X (binaryOp .Mult) (fun x y H Q => ∃ (z : Str) (n : Int), x = .str z ∧ y = .int n ∧ MulOk z n ∧ Q (.str (Txt.mul z n)) H) := by
  intro pins s σ H x y v u Q I rx ry h
  obtain ⟨z, n, rfl, rfl, ok, q⟩ := h
  obtain ⟨t, rfl⟩ := rx
  obtain ⟨t', rfl⟩ := ry
  exact SB.mul ok fun t' tk => ⟨.str (Txt.mul z n), H, I.tok _, ⟨_, rfl⟩, q⟩
end
theorem rep_one (c : Nat) : ∀ (n : Nat) (a : Array Nat), ((List.replicate n (#[c] : Array Nat)).foldl (· ++ ·) a) = a ++ (List.replicate n c).toArray
  | 0, a => by simp
  | n + 1, a => by
    rw [List.replicate_succ, List.foldl_cons, rep_one c n, List.replicate_succ]
    apply Array.ext'
    simp
theorem mul_one {c n : Nat} (h : 2 ≤ n) : Txt.mul (⟨#[c]⟩ : Str) (n : Int) = ⟨(List.replicate n c).toArray⟩ := by
  unfold Txt.mul
  have e2 : ((n : Int) == 1 || (⟨#[c]⟩ : Str).length == 0) = false := by
    have : ((n : Int) == 1) = false := beq_eq_false_iff_ne.mpr (by omega)
    rw [this]
    rfl
  rw [if_neg (by omega), e2, if_neg (by decide), Int.toNat_natCast, rep_one]
  simp
end L2

namespace L2
open PySem PySem.Spec PyProof.Rows
/-- a def with defaults that lets nothing out -/
theorem FunD.ok0 {P : Program} {w : World} {K : PySem.W.Frag} {mg : Str → Option Value} {base : Heap} {x qual : Str} {st : Stmt} {dvs : List V} {f : Addr} {fd : FuncData} {N ps : List Str} {k : Nat} {sp : Sp}
    (F : FunD K x qual (defArgs st) (defBody st) (defScope st) dvs [] f fd) (S : FnScope N ps (defScope st)) (len : ∀ vs H Q E, sp vs H Q E → vs.length = ps.length)
    (hbody : ∀ (cdv : Value) (A : Around) (outer : List Env) (s : Shared) (H : Hp) (vs : List V) (Q : VK) (E : XK), Room k (A.deeper (envOfC qual (defScope st) s.heap.objs.size f cdv)) → sp vs H Q E →
      ∃ t, PSs (cxOf CX0 P w K mg base N qual (defScope st) f cdv A outer s H E).nox (defBody st) t ∧ t { nx := fun _ H' => Q .non H', rt := Q } (start N vs) H) : FnOk P w K mg base CX0 (k + 1) f fd ps sp :=
  F.ok S len fun cdv A outer s H vs Q E hr hsp => by
    obtain ⟨t, h, q⟩ := hbody cdv A outer s H vs Q E hr hsp
    exact ⟨t, h.nox, q⟩
theorem funD_mk {K : PySem.W.Frag} {x qual : Str} {st : Stmt} {f T : Addr} {oc : Value} {od an : Option Addr} {osl : Array (Option Value)} {kV doc pm cdv ct : Value} {o : Obj} {its : List Value} {n : Nat} {dvs : List V}
    (l : K.lookup f = some ⟨oc, od, .func (PySem.W.fnOf x qual (defArgs st) (defBody st) (defScope st) (.ref T) kV doc pm an cdv ct), osl⟩)
    (c : PySem.W.codeIn K cdv qual = true) (k : PySem.W.keepIn K (.ref f) = true) (lT : K.lookup T = some o) (oT : o.data = .seq its.toArray n) (hv : Vals dvs its) (hd : dvs ≠ []) :
    FunD K x qual (defArgs st) (defBody st) (defScope st) dvs [] f (PySem.W.fnOf x qual (defArgs st) (defBody st) (defScope st) (.ref T) kV doc pm an cdv ct) :=
  ⟨⟨oc, od, .ref T, kV, doc, pm, an, cdv, ct, osl, rfl, l, c, .inr ⟨hd, T, o, its, n, rfl, lT, oT, hv⟩, .inl rfl⟩, k⟩
end L2

namespace Evl
open PySem L2
/-! ### what evaluates to what: texts -/
section
variable {K : PySem.W.Frag} {σ : L2.St} {H H' : Hp} {ta tb te tl : TE} {t : TT} {x y z v : V}
theorem ev_m0 {C : Str → Prop} {g : Str → V} {a : Str} (h : Ev te σ H (.str a)) (c : C a) : Ev (tM0 (fun x xs H Q => ∃ a, x = .str a ∧ xs = [] ∧ C a ∧ Q (g a) H) te) σ H (g a) := fun H1 e Q q =>
  h H1 e _ fun H2 e2 => ⟨⟨a, rfl⟩, a, rfl, rfl, c, q H2 e2⟩
theorem ev_m1 {g : Str → Str → V} {a b : Str} (h : Ev te σ H (.str a)) (h2 : Ev ta σ H (.str b)) : Ev (tM1 (fun x xs H Q => ∃ a b, x = .str a ∧ xs = [.str b] ∧ Q (g a b) H) te ta) σ H (g a b) := fun H1 e Q q =>
  h H1 e _ fun H2 e2 => ⟨⟨a, rfl⟩, h2 H2 (e.trans e2) _ fun H3 e3 => ⟨a, b, rfl, rfl, q H3 (e2.trans e3)⟩⟩
theorem ev_join {a : Str} {ys : List Str} (h : Ev te σ H (.str a)) (h2 : EvL tl σ H (ys.map V.str)) (hz : (ys.map (·.length)).sum + ys.length * a.length ≤ 16777216) :
    Ev (tM1 (rJoinK K) te tl) σ H (.str (Txt.join a ys)) := fun H1 e Q q =>
  h H1 e _ fun H2 e2 => ⟨⟨a, rfl⟩, h2 H2 (e.trans e2) _ fun p H3 _ e3 h3 => ⟨a, p, ys, rfl, rfl, .inl (sq_of h3), hz, q H3 (e2.trans e3)⟩⟩
theorem rv_addS {a b : Str} (h : a.length + b.length ≤ 100000) : RV (fun x y H Q => ∃ i j, x = .str i ∧ y = .str j ∧ i.length + j.length ≤ sizeLine ∧ Q (.str (i ++ j)) H) (.str a) (.str b) H (.str (a ++ b)) := fun H1 _ _ q => ⟨a, b, rfl, rfl, sz_of h, q H1 (Ex.refl H1)⟩
theorem rv_inS {c : Nat} {z : Str} : RV (fun x y H Q => ∃ (c : Nat) (z : Str), x = .str ⟨#[c]⟩ ∧ y = .str z ∧ Q (.bl (decide (c ∈ z.cps.toList))) H) (.str ⟨#[c]⟩) (.str z) H (.bl (decide (c ∈ z.cps.toList))) := fun H1 _ _ q => ⟨c, z, rfl, rfl, q H1 (Ex.refl H1)⟩
theorem rv_niS {c : Nat} {z : Str} : RV (fun x y H Q => ∃ (c : Nat) (z : Str), x = .str ⟨#[c]⟩ ∧ y = .str z ∧ Q (.bl (!decide (c ∈ z.cps.toList))) H) (.str ⟨#[c]⟩) (.str z) H (.bl (!decide (c ∈ z.cps.toList))) := fun H1 _ _ q => ⟨c, z, rfl, rfl, q H1 (Ex.refl H1)⟩
theorem rv_ltS {a b : Str} : RV (fun x y H Q => ∃ i j, x = .str i ∧ y = .str j ∧ Q (.bl (decide (i.cps.toList < j.cps.toList))) H) (.str a) (.str b) H (.bl (decide (a.cps.toList < b.cps.toList))) := fun H1 _ _ q => ⟨a, b, rfl, rfl, q H1 (Ex.refl H1)⟩
theorem ev_revS {a : Str} (h : Ev te σ H (.str a)) (hz : a.length ≤ 100000) : Ev (tRevS te) σ H (.str ⟨a.cps.toList.reverse.toArray⟩) := fun H1 e Q q => h H1 e _ fun H2 e2 => ⟨a, rfl, sz_of hz, q H2 e2⟩
theorem ev_slS {a : Str} {t1 t2 : TO} {lo hi : Option Int} (h : Ev te σ H (.str a)) (h1 : EvO t1 σ H lo) (h2 : EvO t2 σ H hi) (hz : a.length ≤ 100000) : Ev (tSl rSlS te t1 t2) σ H (.str (cutS a lo hi)) := fun H1 e Q q =>
  h H1 e _ fun H2 e2 => h1 H2 (e.trans e2) _ fun H3 e3 => h2 H3 ((e.trans e2).trans e3) _ fun H4 e4 => ⟨a, rfl, sz_of hz, q H4 ((e2.trans e3).trans e4)⟩
theorem ev_lenS {a : Str} (h : Ev te σ H (.str a)) (hz : a.length ≤ 100000) : Ev (tCB (fun xs H Q => ∃ z, xs = [.str z] ∧ z.length ≤ sizeLine ∧ Q (.int z.length) H) (tCons te tNil)) σ H (.int a.length) := fun H1 e Q q =>
  h H1 e _ fun H2 e2 => ⟨a, rfl, sz_of hz, q H2 e2⟩
theorem ev_intB {b : Bool} (h : Ev te σ H (.bl b)) : Ev (tCB (fun xs H Q => (∃ i, xs = [.int i] ∧ Q (.int i) H) ∨ ∃ k, xs = [.bl k] ∧ Q (.int (if k then 1 else 0)) H) (tCons te tNil)) σ H (.int (if b then 1 else 0)) := fun H1 e Q q =>
  h H1 e _ fun H2 e2 => .inr ⟨b, rfl, q H2 e2⟩
theorem ev_ixNew {xs : List V} {i : Int} (ha : EvL ta σ H xs) (hb : ∀ H1, Ex H H1 → Ev tb σ H1 (.int i)) (hi : atI xs i = some v) : Ev (tOp (rIxL K) ta tb) σ H v := ev_opL1 ha hb fun p H1 hp e => rv_ixL (sq_of hp) hi
theorem ev_isi {tc : TE} {c : V} {ty u : Value} {b : Bool} (h : Ev te σ H x) (h2 : Ev tc σ H c) (hc : ClsV c u) (hx : ∀ H1, Ex H H1 → TyX K H1 x ty) (hb : PySem.W.kitOne K ty u = some b) : Ev (tCB (rIsi K) (tCons te (tCons tc tNil))) σ H (.bl b) := fun H1 e Q q =>
  h H1 e _ fun H2 e2 => h2 H2 (e.trans e2) _ fun H3 e3 => ⟨x, c, ty, u, b, rfl, hc, hx H3 ((e.trans e2).trans e3), hb, q H3 (e2.trans e3)⟩
theorem ev_isiN {tc : TE} {c : V} {xs : List V} {ty u : Value} {b : Bool} (h : EvL te σ H xs) (h2 : ∀ H1, Ex H H1 → Ev tc σ H1 c) (hc : ClsV c u) (hx : ∀ p H1, H1 p = some (.lst xs) → TyX K H1 (.ref p) ty) (hb : PySem.W.kitOne K ty u = some b) : Ev (tCB (rIsi K) (tCons te (tCons tc tNil))) σ H (.bl b) := fun H1 e Q q =>
  h H1 e _ fun p H2 _ e2 hp => h2 H2 (e.trans e2) H2 (Ex.refl H2) _ fun H3 e3 => ⟨.ref p, c, ty, u, b, rfl, hc, hx p H3 (e3 _ _ hp), hb, q H3 (e2.trans e3)⟩
theorem ev_allN {bs : List Bool} (h : EvL te σ H (bs.map V.bl)) : Ev (tCB (rAll K) (tCons te tNil)) σ H (.bl (bs.all id)) := fun H1 e Q q =>
  h H1 e _ fun p H2 _ e2 hp => ⟨p, bs, rfl, sq_of hp, q H2 e2⟩
theorem ev_ifv {b : Bool} {v w : V} (h : EvT t σ H b) (h1 : b = true → Ev ta σ H v) (h2 : b = false → Ev tb σ H w) : Ev (tIf t ta tb) σ H (if b = true then v else w) := by
  refine ev_if h (fun e => ?_) (fun e => ?_)
  · rw [if_pos e]; exact h1 e
  · rw [if_neg (by rw [e]; decide)]; exact h2 e
theorem et_yes : EvT tYes σ H true := fun H1 _ _ q => q H1 (Ex.refl H1)
theorem given_all (n : Nat) (v : Nat → V) : given n (fun _ => true) v = (List.range n).map v := by
  unfold given
  congr 1
  exact List.filter_eq_self.mpr fun _ _ => rfl
theorem range_map {α : Type} (l : List α) (g : α → V) (d : α) : (List.range l.length).map (fun i => g (l.getD i d)) = l.map g := by
  apply List.ext_getElem
  · simp
  · intro i h1 h2
    simp at h1
    simp [List.getD, h1]
/-- [e for sign in text] -/
theorem el_lcS {s : Str} {j : Nat} {vs : List Nat} (f : Nat → Bool) (v : Nat → V) (h : Ev tl σ H (.str s)) (hz : s.length ≤ 40000) (hw : ∀ x, wipe ((wipe σ vs).set j (some x)) vs = wipe σ vs)
    (ht : ∀ (i c : Nat) H1, Ex H H1 → s.cps.toList[i]? = some c → EvT t ((wipe σ vs).set j (some (.str ⟨#[c]⟩))) H1 (f i))
    (he : ∀ (i c : Nat) H1, Ex H H1 → s.cps.toList[i]? = some c → f i = true → Ev te ((wipe σ vs).set j (some (.str ⟨#[c]⟩))) H1 (v i)) :
    EvL (tLc (iStr tl) (gName j) t te vs) σ H (given s.length f v) := fun H0 e Q q => h H0 e _ fun H1 e1 => ⟨s, rfl, fun Dl hD =>
  lc_it walk_str (Cw H1 f v Dl) ⟨hD, Ex.new hD, upd_same⟩ (fun _ _ _ _ => trivial) (fun i x H2 H' hi p hy => by
    obtain ⟨rfl, c, hc, rfl⟩ := hy
    have hc' : s.cps.toList[i]? = some c := by rw [Array.getElem?_toList]; exact hc
    exact ⟨hw _, cw_turn p (by have : s.length = s.cps.size := rfl; omega) (ht i c H1 (e.trans e1) hc') (fun hf => he i c H1 (e.trans e1) hc' hf)⟩)
    (fun H' p => q Dl H' (fresh_back e1 p.1) (e1.trans p.2.1) p.2.2)⟩
theorem el_mapS {s : Str} {j : Nat} {vs : List Nat} (g : Nat → V) (h : Ev tl σ H (.str s)) (hz : s.length ≤ 40000) (hw : ∀ x, wipe ((wipe σ vs).set j (some x)) vs = wipe σ vs)
    (he : ∀ (c : Nat) H1, Ex H H1 → c ∈ s.cps.toList → Ev te ((wipe σ vs).set j (some (.str ⟨#[c]⟩))) H1 (g c)) :
    EvL (tLc (iStr tl) (gName j) tYes te vs) σ H (s.cps.toList.map g) := by
  have := el_lcS (te := te) (t := tYes) (fun _ => true) (fun i => g (s.cps.toList.getD i 0)) h hz hw (fun _ _ _ _ _ => et_yes) (fun i c H1 e hc _ => by
    have : s.cps.toList.getD i 0 = c := by rw [List.getD_eq_getElem?_getD, hc]; rfl
    rw [this]
    exact he c H1 e (List.mem_of_getElem? hc))
  rw [given_all] at this
  have e2 : s.length = s.cps.toList.length := rfl
  rw [e2, range_map] at this
  exact this
end
end Evl

namespace Toy
open PySem L2

def top (i : Nat) : Stmt := PySem.Challenge.pw_undotrees_k04_rows_by_numbers.main.body.getD i (.Pass ⟨0, 0, 0, 0⟩)
abbrev s_law_pool : Stmt := top 17
abbrev s_law_take : Stmt := top 18
abbrev s_law_turned : Stmt := top 19
abbrev s_law_row : Stmt := top 20
abbrev s_law_sum : Stmt := top 21
abbrev s_is_row_within : Stmt := top 10
abbrev s_is_row : Stmt := top 11
abbrev s_look_at_row : Stmt := top 12
abbrev s_is_whole : Stmt := top 9
abbrev s_NoNumber___init__ : Stmt := inClass (top 3) 0
abbrev s_look_at_deeds : Stmt := top 13
abbrev s_NoSign___init__ : Stmt := inClass (top 2) 0
abbrev s_number_of : Stmt := top 14
abbrev s_row_at : Stmt := top 15
abbrev s_law_told : Stmt := top 22
abbrev s_law : Stmt := top 23
open RowM (sgns con ix Row)
open TL
/-- the reading, as far as it goes by itself -/
local macro_rules | `(tactic| walk_at "rd") => `(tactic| repeat (first
  | refine ⟨_, rfl, ?_⟩
  | refine ⟨_, _, rfl, rfl, ?_⟩
  | refine ⟨rfl, ?_⟩
  | refine ⟨(by show (0 : Int) < _; omega), ?_⟩
  | refine ⟨⟨by omega, by omega⟩, ?_⟩
  | refine ⟨(by decide), ?_⟩
  | refine ⟨(by omega), ?_⟩))
/-- the text of a list of signs' numbers -/
abbrev S (l : List Nat) : Str := ⟨l.toArray⟩
/-- all but the object at p is as it was -/
def Off (p : Addr) (H H' : Hp) : Prop := ∀ b o, b ≠ p → H b = some o → H' b = some o
theorem Off.refl (p : Addr) (H : Hp) : Off p H H := fun _ _ _ h => h
theorem Off.trans {p : Addr} {H H1 H2 : Hp} (a : Off p H H1) (b : Off p H1 H2) : Off p H H2 := fun c o n h => b c o n (a c o n h)
theorem off_of {p : Addr} {H H' : Hp} (a : Same H H') : Off p H H' := fun c o _ h => a c o h
theorem Off.upd {p : Addr} {H H' : Hp} {o : HO} (a : Off p H H') : Off p H (upd H' p o) := fun c u n h => by
  rw [upd_ne n]
  exact a c u n h
/-- the law's own pool of draws -/
def Pool (H : Hp) (p : Addr) : Prop := ∃ c n : Int, H p = some (.lst [.int c, .int n]) ∧ 0 ≤ n ∧ n < 2147483647
theorem Pool.same {H H' : Hp} {p : Addr} (h : Pool H p) (s : Same H H') : Pool H' p := by
  obtain ⟨c, n, e, r⟩ := h
  exact ⟨c, n, s _ _ e, r⟩
theorem Same.new {H : Hp} {p : Addr} {o : HO} (h : H p = none) : Same H (upd H p o) := fun b u e => by
  rw [upd_ne (ne_of_none e h)]
  exact e
theorem atI0 {α : Type} {a : α} {l : List α} : atI (a :: l) 0 = some a := atI_nat (xs := a :: l) (j := 0) rfl
theorem atI1 {α : Type} {a b : α} {l : List α} : atI (a :: b :: l) 1 = some b := atI_nat (xs := a :: b :: l) (j := 1) rfl
theorem one_le {c : Nat} : (⟨#[c]⟩ : Str).length ≤ 5592405 := by show 1 ≤ _; decide
/-! ### signs -/
open RowM (lo up)
theorem low1 : ∀ c ∈ sgns, Txt.lower (S [c]) = S [lo c] := by decide +kernel
theorem up1 : ∀ c ∈ sgns, Txt.upper (S [c]) = S [up c] := by decide +kernel
theorem isup1 : ∀ c ∈ sgns, Txt.isupper (S [c]) = decide (c < 97) := by decide +kernel
theorem islo1 : ∀ c ∈ sgns, Txt.islower (S [c]) = decide (97 ≤ c) := by decide +kernel
theorem six1 : ∀ c ∈ sgns, ∃ r, Builtin.Str.occurrences "aAbBcCdDeEfF" (S [c]) 0 12 1 = ix c :: r := by
  intro c hc
  have h : ∀ c ∈ sgns, (Builtin.Str.occurrences "aAbBcCdDeEfF" (S [c]) 0 12 1).head? = some (ix c) := by decide +kernel
  have := h c hc
  cases e : Builtin.Str.occurrences "aAbBcCdDeEfF" (S [c]) 0 12 1 with
  | nil => rw [e] at this; cases this
  | cons a r => rw [e] at this; cases this; exact ⟨r, rfl⟩
theorem sgns_at : ∀ i : Nat, i < 12 → ∃ c, (Str.ofString "aAbBcCdDeEfF").cps.toList[i]? = some c ∧ c ∈ sgns ∧ ix c = i := by
  have h : ∀ i ∈ List.range 12, (Str.ofString "aAbBcCdDeEfF").cps.toList[i]? = sgns[i]? ∧ (sgns[i]?).isSome = true ∧ ix (sgns.getD i 0) = i := by decide +kernel
  intro i hi
  obtain ⟨h1, h2, h3⟩ := h i (List.mem_range.mpr hi)
  have h4 : i < sgns.length := hi
  refine ⟨sgns[i], by rw [h1, List.getElem?_eq_getElem h4], List.getElem_mem _, ?_⟩
  rw [List.getD_eq_getElem?_getD, List.getElem?_eq_getElem h4] at h3
  exact h3
theorem sgns_mem : ∀ c : Nat, (c ∈ (Str.ofString "aAbBcCdDeEfF").cps.toList) = (c ∈ sgns) := by
  have h : (Str.ofString "aAbBcCdDeEfF").cps.toList = sgns := by decide +kernel
  intro c
  rw [h]
theorem sign_of_at {i : Int} {z : Str} (h0 : 0 ≤ i) (h1 : i < 12) (hz : z = Str.ofString "aAbBcCdDeEfF") : ∃ c, atI z.cps.toList i = some c ∧ c ∈ sgns ∧ (ix c : Int) = i := by
  subst hz
  obtain ⟨c, e, hc, hi⟩ := sgns_at i.toNat (by omega)
  refine ⟨c, ?_, hc, by omega⟩
  have : i = (i.toNat : Int) := by omega
  rw [this]
  exact atI_nat e
theorem el_is {te : TE} {σ : L2.St} {H : Hp} {xs ys : List V} (h : Evl.EvL te σ H xs) (e : xs = ys) : Evl.EvL te σ H ys := e ▸ h
theorem len_S (l : List Nat) : (S l).length = l.length := by simp [S, Str.length]
theorem add_S (l m : List Nat) : S l ++ S m = S (l ++ m) := ext_tl (by rw [tl_append])
theorem joinL_nil : ∀ ps : List (List Nat), joinL [] ps = ps.flatten
  | [] => rfl
  | [p] => by simp [joinL]
  | p :: q :: r => by rw [joinL, joinL_nil (q :: r)]; simp
theorem join_S (a : Str) (ha : tl a = []) (l : List Nat) : Txt.join a (l.map fun c => S [c]) = S l := by
  refine ext_tl ?_
  rw [join_eq, tl_join, ha, joinL_nil]
  show _ = l
  induction l with
  | nil => rfl
  | cons c l ih => simp [tl] at ih ⊢; exact ih
theorem sum_ones (l : List Nat) : ((l.map fun c => S [c]).map (·.length)).sum = l.length := by
  induction l with
  | nil => rfl
  | cons c l ih => simp only [List.map_cons, List.sum_cons, List.length_cons, ih, len_S]; simp; omega
section
open Evl
variable {K : PySem.W.Frag} {σ : L2.St} {H : Hp} {te tl' to : TE} {j : Nat} {vs : List Nat}
/-- "".join([e for sign in text]), each e a sign -/
theorem ev_joinMap {a s : Str} (g : Nat → Nat) (ho : Ev to σ H (.str a)) (ha : tl a = []) (h : Ev tl' σ H (.str s)) (hz : s.length ≤ 40000) (hw : ∀ x, wipe ((wipe σ vs).set j (some x)) vs = wipe σ vs)
    (he : ∀ (c : Nat) H1, Ex H H1 → c ∈ s.cps.toList → Ev te ((wipe σ vs).set j (some (.str ⟨#[c]⟩))) H1 (.str (S [g c]))) :
    Ev (tM1 (rJoinK K) to (tLc (iStr tl') (gName j) tYes te vs)) σ H
      (.str (S (s.cps.toList.map g))) := by
  have e1 : s.cps.toList.map (fun c => V.str (S [g c])) = ((s.cps.toList.map g).map fun c => S [c]).map V.str := by simp [List.map_map, Function.comp]
  have e2 : a.length = 0 := by rw [len_tl, ha]; rfl
  have z : s.cps.toList.length = s.length := rfl
  refine ev_is (ev_join ho (el_is (el_mapS (fun c => .str (S [g c])) h hz hw he) e1) ?_) (by rw [join_S a ha])
  rw [sum_ones, e2, List.length_map, z]
  omega
end
/-- [sign.upper(), sign.lower()][int(sign.isupper())] -/
theorem at_turn {c : Nat} (hc : c ∈ sgns) : atI [V.str (Txt.upper (S [c])), V.str (Txt.lower (S [c]))] (if Txt.isupper (S [c]) then 1 else 0) = some (.str (S [con c])) := by
  rw [up1 c hc, low1 c hc, isup1 c hc]
  unfold con up lo
  by_cases h : c < 97
  · have h2 : ¬ 97 ≤ c := by omega
    rw [if_neg h2, if_neg h2, if_neg h2, decide_eq_true h]
    exact atI1
  · have h2 : 97 ≤ c := by omega
    rw [if_pos h2, if_pos h2, if_pos h2, decide_eq_false h]
    exact atI0
theorem sz_str {l m : List Nat} (h1 : l.length < 40000) (h2 : m.length < 40000) : (S l).length + (S m).length ≤ sizeLine := by
  rw [len_S, len_S]
  exact Nat.le_trans (by omega : _ ≤ 100000) (by decide)
theorem row_snoc {l : List Nat} {c : Nat} (h : Row l) (hc : c ∈ sgns) : Row (l ++ [c]) := fun d hd => by
  rcases List.mem_append.mp hd with q | q
  · exact h d q
  · rw [List.mem_singleton.mp q]; exact hc
theorem all_snoc {P : Nat → Prop} {l : List Nat} {c : Nat} (h : ∀ d ∈ l, P d) (hc : P c) : ∀ d ∈ l ++ [c], P d := fun d hd => by
  rcases List.mem_append.mp hd with q | q
  · exact h d q
  · rw [List.mem_singleton.mp q]; exact hc
theorem at_last {m : List Nat} {d : Nat} : atI (S (m ++ [d])).cps.toList (-(1 : Int)) = some d := by
  show atI (m ++ [d]) (-1) = some d
  unfold atI ixN
  have h : -(((m ++ [d]).length : Nat) : Int) ≤ -1 := by simp; omega
  rw [if_neg (by decide), if_pos h]
  have e : ((-1 : Int) + ((m ++ [d]).length : Nat)).toNat = m.length := by simp; omega
  rw [e]
  simp
theorem cut_S (l : List Nat) (lo hi : Option Int) : cutS (S l) lo hi = S ((l.drop (HT.sIx l.length 0 lo)).take (HT.sIx l.length l.length hi - HT.sIx l.length 0 lo)) := by
  unfold cutS
  rw [len_S]
theorem cut_last {m : List Nat} {d : Nat} : cutS (S (m ++ [d])) none (some (-1)) = S m := by
  rw [cut_S, HT.sIx_none]
  have e : HT.sIx (m ++ [d]).length (m ++ [d]).length (some (-1)) = m.length := by
    show (if (-1 : Int) < 0 then ((-1 : Int) + ((m ++ [d]).length : Nat)).toNat else min (-1 : Int).toNat (m ++ [d]).length) = _
    rw [if_pos (by decide)]
    simp
    omega
  rw [e, List.drop_zero, Nat.sub_zero]
  simp
theorem sz_of' {n : Nat} (h : n ≤ 100000) : n ≤ sizeLine := Nat.le_trans h (by decide)
theorem exists_snoc {α : Type} {m : List α} (h : m ≠ []) : ∃ l d, m = l ++ [d] := ⟨m.dropLast, m.getLast h, (List.dropLast_concat_getLast h).symm⟩
theorem ix_con {c : Nat} (h : c ∈ sgns) : ix (con c) / 2 = ix c / 2 := by
  have : ∀ c ∈ sgns, ix (con c) / 2 = ix c / 2 := by decide
  exact this c h
/-! ### the rank of a row, as data -/
def intsD (xs : List Nat) : List PyData := xs.map fun (c : Nat) => .int (c : Int)
def rankD (l : List Nat) : PyData := .tuple [.int l.length, .list (intsD (l.map ix))]
theorem alike_ints : ∀ xs ys : List Nat, PySem.W.alikeAll (intsD xs) (intsD ys) = true
  | [], _ => by simp [intsD, PySem.W.alikeAll]
  | _ :: _, [] => by simp [intsD, PySem.W.alikeAll]
  | x :: xs, y :: ys => by
    have ih := alike_ints xs ys
    simp only [intsD] at ih ⊢
    simp [PySem.W.alikeAll, PySem.W.alike, ih]
theorem alike_rank (l m : List Nat) : PySem.W.alike (rankD l) (rankD m) = true := by
  simp [rankD, PySem.W.alike, PySem.W.alikeAll, alike_ints]
theorem eqv_int (a b : Int) : PyData.eqv (.int a) (.int b) = decide (a = b) := by
  simp [PyData.eqv]
  by_cases h : a = b <;> simp [h]
theorem lex_ints : ∀ xs ys : List Nat, xs.length = ys.length → PyProof.Rows.lexLt PyProof.Rows.itemOrd (PySem.W.keyToksAll (intsD xs)) (PySem.W.keyToksAll (intsD ys)) = RowM.lexI xs ys
  | [], [], _ => by decide
  | [], _ :: _, h => by simp at h
  | _ :: _, [], h => by simp at h
  | x :: xs, y :: ys, h => by
    have ih := lex_ints xs ys (by simpa using h)
    show PyProof.Rows.lexLt PyProof.Rows.itemOrd (PySem.W.keyToksAll (.int (x : Int) :: intsD xs)) (PySem.W.keyToksAll (.int (y : Int) :: intsD ys)) = _
    by_cases e : x = y
    · rw [PySem.W.dataLt_all_yes rfl (by rw [eqv_int]; simp [e]), ih, RowM.lexI, if_pos e]
    · rw [PySem.W.dataLt_all_no rfl (by rw [eqv_int]; simp; omega), PySem.W.dataLt_int, RowM.lexI, if_neg e]
      congr 1
      simp
theorem eqv_list_len : ∀ xs ys : List Nat, PyData.eqvAll (intsD xs) (intsD ys) = true → xs = ys
  | [], [], _ => rfl
  | [], _ :: _, h => by simp [intsD, PyData.eqvAll] at h
  | _ :: _, [], h => by simp [intsD, PyData.eqvAll] at h
  | x :: xs, y :: ys, h => by
    have h2 : PyData.eqvAll (.int (x : Int) :: intsD xs) (.int (y : Int) :: intsD ys) = true := h
    rw [PySem.W.eqv_all_cons, Bool.and_eq_true, eqv_int] at h2
    have := eqv_list_len xs ys h2.2
    have e := of_decide_eq_true h2.1
    rw [this]
    congr 1
    omega
theorem lt_rank {l m : List Nat} : PySem.W.dataLt (rankD l) (rankD m) = RowM.before l m := by
  unfold rankD
  rw [PySem.W.dataLt_tuple]
  unfold RowM.before
  by_cases e : l.length = m.length
  · rw [if_pos e, PySem.W.dataLt_all_yes rfl (by rw [eqv_int]; simp [e])]
    by_cases q : PyData.eqv (.list (intsD (l.map ix))) (.list (intsD (m.map ix))) = true
    · rw [PySem.W.dataLt_all_yes (by rw [PySem.W.alike]; exact alike_ints _ _) q]
      have : l.map ix = m.map ix := eqv_list_len _ _ (by simpa [PyData.eqv] using q)
      rw [this]
      have z : ∀ n : List Nat, RowM.lexI n n = false := by
        intro n
        induction n with
        | nil => rfl
        | cons a n ih => simp [RowM.lexI, ih]
      rw [z]
      decide
    · rw [PySem.W.dataLt_all_no (by rw [PySem.W.alike]; exact alike_ints _ _) (by simpa using q), PySem.W.dataLt_list, lex_ints _ _ (by simpa using e)]
  · rw [if_neg e, PySem.W.dataLt_all_no rfl (by rw [eqv_int]; simp; omega), PySem.W.dataLt_int]
    congr 1
    simp
section
variable {K : PySem.W.Frag} {H : Hp}
theorem dp_ints : ∀ xs : List Nat, DpAll K H (xs.map fun (c : Nat) => V.int (c : Int)) (intsD xs)
  | [] => .nil
  | x :: xs => .cons (.int _) (dp_ints xs)
theorem dp_rank {t q : Addr} {l : List Nat} (ht : H t = some (.tup [.int l.length, .ref q])) (hq : H q = some (.lst (l.map fun c => V.int (ix c : Nat)))) : Dp K H (.ref t) (rankD l) :=
  .tup (SqT.of ht) (.cons (.int _) (.cons (.lst (SqL.of hq) (by
    have := dp_ints (K := K) (H := H) (l.map ix)
    rw [List.map_map] at this
    exact this)) .nil))
end
theorem depth_ints : ∀ xs : List Nat, PyData.depthAll (intsD xs) = 0
  | [] => rfl
  | x :: xs => by
    have := depth_ints xs
    simp only [intsD, List.map_cons, PyData.depthAll, PyData.depth] at this ⊢
    omega
theorem depth_rank (l : List Nat) : (rankD l).depth ≤ 60 := by
  simp [rankD, PyData.depth, PyData.depthAll, depth_ints]
def isRow (l : List Nat) : Bool := decide (l.length ≤ 60) && l.all fun c => decide (c ∈ sgns)
theorem isRow_iff {l : List Nat} : isRow l = true ↔ l.length ≤ 60 ∧ Row l := by
  simp [isRow, RowM.Row]
theorem turns_ok (x t : Int) (h : 1 ≤ t) : 1 ≤ (if (if t < x then t else x) > 1 then (if t < x then t else x) else 1) ∧ (if (if t < x then t else x) > 1 then (if t < x then t else x) else 1) ≤ t := by
  by_cases a : t < x
  · rw [if_pos a]
    by_cases b : t > 1
    · rw [if_pos b]; omega
    · rw [if_neg b]; omega
  · rw [if_neg a]
    by_cases b : x > 1
    · rw [if_pos b]; omega
    · rw [if_neg b]; omega
theorem at2 {α : Type} {a b : α} {v : Int} (h0 : 0 ≤ v) (h1 : v < 2) : ∃ x, atI [a, b] v = some x ∧ (x = a ∨ x = b) := by
  have : v = 0 ∨ v = 1 := by omega
  rcases this with rfl | rfl
  · exact ⟨a, atI0, .inl rfl⟩
  · exact ⟨b, atI1, .inr rfl⟩
theorem cut_to {l : List Nat} {k : Nat} (h : k ≤ l.length) : cutS (S l) none (some (k : Int)) = S (l.take k) := by
  rw [cut_S, HT.sIx_none, HT.sIx_nat, Nat.min_eq_left h, List.drop_zero, Nat.sub_zero]
theorem cut_from {l : List Nat} {k : Nat} : cutS (S l) (some (k : Int)) none = S (l.drop k) := by
  rw [cut_S, HT.sIx_none, HT.sIx_nat]
  congr 1
  by_cases h : k ≤ l.length
  · rw [Nat.min_eq_left h]
    have : (l.drop k).length = l.length - k := List.length_drop ..
    rw [← this, List.take_length]
  · have h2 : l.length ≤ k := by omega
    rw [Nat.min_eq_right h2, List.drop_eq_nil_of_le h2, Nat.sub_self, List.take_zero]
theorem str_dec {c d : Nat} : decide (V.str (S [c]) = V.str (S [d])) = decide (c = d) := by
  apply decide_eq_decide.mpr
  constructor
  · intro h
    have h1 := congrArg (fun v => match v with | V.str z => z.cps.toList | _ => []) h
    simpa using h1
  · intro h; rw [h]
theorem row_sub {l m : List Nat} (h : Row l) (s : ∀ c ∈ m, c ∈ l) : Row m := fun c hc => h c (s c hc)
theorem row_app {l m : List Nat} (h : Row l) (h2 : Row m) : Row (l ++ m) := fun c hc => by
  rcases List.mem_append.mp hc with q | q
  · exact h c q
  · exact h2 c q
theorem at2of3 {α : Type} {a b c : α} {l : List α} : atI (a :: b :: c :: l) 2 = some c := atI_nat (xs := a :: b :: c :: l) (j := 2) rfl
theorem at3 {α : Type} {a b c : α} {v : Int} (h0 : 0 ≤ v) (h1 : v < 3) : ∃ x, atI [a, b, c] v = some x ∧ (x = a ∨ x = b ∨ x = c) := by
  have : v = 0 ∨ v = 1 ∨ v = 2 := by omega
  rcases this with rfl | rfl | rfl
  · exact ⟨a, atI0, .inl rfl⟩
  · exact ⟨b, atI1, .inr (.inl rfl)⟩
  · exact ⟨c, at2of3, .inr (.inr rfl)⟩
theorem at4 {α : Type} {a b c d : α} {v : Int} (h0 : 0 ≤ v) (h1 : v < 4) : ∃ x, atI [a, b, c, d] v = some x ∧ (x = a ∨ x = b ∨ x = c ∨ x = d) := by
  have : v = 0 ∨ v = 1 ∨ v = 2 ∨ v = 3 := by omega
  rcases this with rfl | rfl | rfl | rfl
  · exact ⟨a, atI0, .inl rfl⟩
  · exact ⟨b, atI1, .inr (.inl rfl)⟩
  · exact ⟨c, at2of3, .inr (.inr (.inl rfl))⟩
  · exact ⟨d, atI_nat (xs := [a, b, c, d]) (j := 3) rfl, .inr (.inr (.inr rfl))⟩
theorem Pool.ne {H : Hp} {p d : Addr} (h : Pool H p) (hd : H d = none) : p ≠ d := fun e => by
  obtain ⟨_, _, q, _⟩ := h
  rw [e, hd] at q
  cases q
theorem Pool.new {H : Hp} {p d : Addr} {o : HO} (h : Pool H p) (hd : H d = none) : Pool (upd H d o) p := h.same (Same.new hd)
/-- what stood ahead of the pool stands -/
theorem Off.same {H0 H H' : Hp} {p : Addr} (hp : H0 p = none) (s : Same H0 H) (o : Off p H H') : Same H0 H' := fun b u e => o b u (fun q => by rw [q, hp] at e; cases e) (s b u e)
/-! ### digits -/
open NumM (numR Low)
def dg (c : Nat) : Nat := if ix c < 10 then 48 + ix c else 87 + ix c
theorem dg_at : ∀ c ∈ sgns, (Str.ofString "0123456789ab").cps.toList[ix c]? = some (dg c) := by decide +kernel
theorem dg_dv : ∀ c ∈ sgns, Db.dv (dg c) = ix c := by decide
theorem dg_rng : ∀ c ∈ sgns, (48 ≤ dg c ∧ dg c ≤ 57) ∨ (97 ≤ dg c ∧ dg c ≤ 98) := by decide
theorem num_dg {B : Nat} {l : List Nat} (h : Row l) : Db.num B (l.map dg) = NumM.val B l := by
  unfold Db.num NumM.val
  rw [List.foldl_map]
  have : ∀ (l : List Nat) (a : Nat), Row l → l.foldl (fun a c => a * B + Db.dv (dg c)) a = l.foldl (fun a c => a * B + ix c) a := by
    intro l
    induction l with
    | nil => intros; rfl
    | cons c l ih =>
      intro a hl
      rw [List.foldl_cons, List.foldl_cons, dg_dv c (RowM.Row.head hl)]
      exact ih _ (RowM.Row.tail hl)
  exact this l 0 h
theorem base_is {d : Nat} (h1 : 1 ≤ d) (h2 : d ≤ 6) : Db.Base (2 * d) := by unfold Db.Base; omega
theorem sgns_S : Str.ofString "aAbBcCdDeEfF" = S sgns := by
  refine ext_tl ?_
  have h : (Str.ofString "aAbBcCdDeEfF").cps.toList = sgns := by decide +kernel
  exact h
theorem mem_take {c k : Nat} (hc : c ∈ sgns) : (c ∈ sgns.take k) ↔ ix c < k := by
  have h : ∀ c ∈ sgns, ∀ k < 13, (c ∈ sgns.take k ↔ ix c < k) := by decide
  have h2 : ∀ c ∈ sgns, ix c < 12 := by decide
  by_cases q : k < 13
  · exact h c hc k q
  · have e : sgns.take k = sgns := List.take_of_length_le (by show 12 ≤ k; omega)
    rw [e]
    have := h2 c hc
    exact ⟨fun _ => by omega, fun _ => hc⟩
/-! ### what is refused -/
/-- an exception with one field, made -/
theorem made1 {H : Hp} {a C : Addr} {f : Str} {v : V} {E : XK} (ha : H a = none) (k : ∀ (d : Addr) (H' : Hp), Same H H' → H' d = some (.xd [(f, v)]) → E (.ref C) (some d) H') (d : Addr) (hd : (upd H a (exo a C none)) d = none) (ne : d ≠ a) :
    V.non = .non ∧ ∃ (d' : Addr) (fs : List (Str × V)), (upd (upd (upd (upd H a (exo a C none)) d (exd d [])) a (exo a C (some d))) d (exd d [(f, v)])) a = some (exo a C (some d')) ∧ (upd (upd (upd (upd H a (exo a C none)) d (exd d [])) a (exo a C (some d))) d (exd d [(f, v)])) d' = some (exd d' fs) ∧
      H d' = none ∧ E (.ref C) (some d') (upd (del (upd (upd (upd (upd H a (exo a C none)) d (exd d [])) a (exo a C (some d))) d (exd d [(f, v)])) a) d' (.xd fs)) := by
  have h0 : H d = none := by rw [upd_ne ne] at hd; exact hd
  refine ⟨rfl, d, [(f, v)], by rw [upd_ne ne.symm, upd_same], upd_same, h0, ?_⟩
  rw [fresh_xd ha ne]
  exact k d _ (Same.new h0) upd_same
/-- what is no whole number -/
def NotInt (H : Hp) (x : V) : Prop := x = .non ∨ (∃ b, x = .bl b) ∨ (∃ s, x = .str s) ∨ ∃ a, x = .ref a ∧ ((∃ ns : List Int, H a = some (.lst (ns.map V.int))) ∨ ∃ ns : List Int, H a = some (.tup (ns.map V.int)))
theorem NotInt.same {H H' : Hp} {x : V} (h : NotInt H x) (s : Same H H') : NotInt H' x := by
  rcases h with h | h | h | ⟨a, e, ⟨xs, h⟩ | ⟨xs, h⟩⟩
  · exact .inl h
  · exact .inr (.inl h)
  · exact .inr (.inr (.inl h))
  · exact .inr (.inr (.inr ⟨a, e, .inl ⟨xs, s _ _ h⟩⟩))
  · exact .inr (.inr (.inr ⟨a, e, .inr ⟨xs, s _ _ h⟩⟩))
theorem NotInt.ty {K : PySem.W.Frag} {H : Hp} {x : V} (h : NotInt H x) : ∃ t : String, TyX K H x (.type t) ∧ ((kitB t "int" = some false) ∨ (kitB t "int" = some true ∧ kitB t "bool" = some true)) := by
  rcases h with rfl | ⟨b, rfl⟩ | ⟨s, rfl⟩ | ⟨a, rfl, ⟨xs, h⟩ | ⟨xs, h⟩⟩
  · exact ⟨_, .base .non, .inl (by decide +kernel)⟩
  · exact ⟨_, .base (.bl _), .inr ⟨by decide +kernel, by decide +kernel⟩⟩
  · exact ⟨_, .base (.str _), .inl (by decide +kernel)⟩
  · exact ⟨_, .base (.lst h), .inl (by decide +kernel)⟩
  · exact ⟨_, .base (.tup h), .inl (by decide +kernel)⟩
def IntOr (H : Hp) (x : V) (r : Bool) : Prop := (∃ i : Int, x = .int i ∧ r = true) ∨ (NotInt H x ∧ r = false)
/-- a number of deeds, or none -/
def Deeds (H : Hp) (x : V) (most : Int) (r : Bool) : Prop := (∃ i : Int, x = .int i ∧ r = decide (1 ≤ i ∧ i ≤ most)) ∨ (NotInt H x ∧ r = false)
theorem Deeds.same {H H' : Hp} {x : V} {m : Int} {r : Bool} (h : Deeds H x m r) (s : Same H H') : Deeds H' x m r := h.imp id fun h => ⟨h.1.same s, h.2⟩
theorem Deeds.yes {H : Hp} {x : V} (h : Deeds H x 6 true) : ∃ d : Nat, x = .int (d : Int) ∧ 1 ≤ d ∧ d ≤ 6 := by
  rcases h with ⟨i, rfl, e⟩ | ⟨_, h⟩
  · have := of_decide_eq_true e.symm
    exact ⟨i.toNat, by congr 1; omega, by omega, by omega⟩
  · cases h
/-- what comes of a call: told, or refused -/
inductive Out where
  | told (v : V) | sign (p : Nat) | number (v : V)
def outK (C1 C2 : Addr) (H : Hp) (Q : VK) (E : XK) : Out → Prop
  | .told v => ∀ H' : Hp, Same H H' → Q v H'
  | .sign p => ∀ (d : Addr) (H' : Hp), Same H H' → H' d = some (.xd [(Str.ofString "place", .int (p : Int))]) → E (.ref C1) (some d) H'
  | .number v => ∀ (d : Addr) (H' : Hp), Same H H' → H' d = some (.xd [(Str.ofString "number", v)]) → E (.ref C2) (some d) H'
/-- number_of -/
inductive NumOut (l : List Nat) (y : V) : Bool → Out → Prop
  | bad : NumOut l y false (.number y)
  | low (d : Nat) (h : y = .int (d : Int)) (g : Low (2 * d) l) : NumOut l y true (.told (.int ((numR (2 * d) l : Nat) : Int)))
  | sign (d p : Nat) (h : y = .int (d : Int)) (hp : p < l.length) (b : ∀ j, j < p → ix (l.getD j 0) < 2 * d) (g : ¬ ix (l.getD p 0) < 2 * d) : NumOut l y true (.sign p)
/-- row_at -/
inductive RowOut (x y : V) : Bool → Out → Prop
  | bad : RowOut x y false (.number y)
  | odd (h : ∀ d n : Nat, y = .int (d : Int) → x = .int (n : Int) → ¬ n < NumM.ones (2 * d) 61) : RowOut x y true (.number x)
  | row (d n : Nat) (l : List Nat) (h : y = .int (d : Int)) (hx : x = .int (n : Int)) (rl : Row l) (hz : l.length ≤ 60) (g : Low (2 * d) l) (e : numR (2 * d) l = n) : RowOut x y true (.told (.str (S l)))
def outV : Out → List V
  | .told v => [.str (Str.ofString "told"), v]
  | .sign p => [.str (Str.ofString "sign"), .int (p : Int)]
  | .number v => [.str (Str.ofString "number"), v]
theorem dp_zs {K : PySem.W.Frag} {H : Hp} : ∀ ns : List Int, DpAll K H (ns.map V.int) (ns.map PyData.int)
  | [] => .nil
  | n :: ns => .cons (.int n) (dp_zs ns)
theorem shaped_tup (ns : List Int) : SeqAt.shaped (.tuple (ns.map PyData.int)) = true := by
  have h1 : ∀ ns : List Int, PyData.canLayAll0 (ns.map PyData.int) = true := by
    intro ns
    induction ns with
    | nil => rfl
    | cons n ns ih => simp [PyData.canLayAll0, PyData.canLay0, ih]
  have h2 : ∀ ns : List Int, PyData.depthAll (ns.map PyData.int) = 0 := by
    intro ns
    induction ns with
    | nil => rfl
    | cons n ns ih => simp [PyData.depthAll, PyData.depth, ih]
  simp [SeqAt.shaped, PyData.canLay0, h1, PyData.depth, h2]
theorem shaped_lst (ns : List Int) : SeqAt.shaped (.list (ns.map PyData.int)) = true := by
  have h := shaped_tup ns
  simpa [SeqAt.shaped, PyData.canLay0, PyData.depth] using h
/-- what such a thing is as data, and that it is not 2 -/
theorem NotInt.dp {K : PySem.W.Frag} {H : Hp} {x : V} (h : NotInt H x) (hs : ∀ s, x = .str s → s.cps.all (· < 0x110000)) : ∃ d, Dp K H x d ∧ SeqAt.shaped d = true ∧ PyData.eqv d (.int 2) = false := by
  rcases h with rfl | ⟨b, rfl⟩ | ⟨s, rfl⟩ | ⟨a, rfl, ⟨ns, h⟩ | ⟨ns, h⟩⟩
  · exact ⟨_, .non, by decide, by simp [PyData.eqv]⟩
  · refine ⟨_, .bl b, by cases b <;> decide, ?_⟩
    cases b <;> simp [PyData.eqv]
  · exact ⟨_, .str s, by simp [SeqAt.shaped, PyData.canLay0, PyData.strOk, PyData.depth]; simpa using hs s rfl, by simp [PyData.eqv]⟩
  · exact ⟨_, .lst (Evl.sq_of h) (dp_zs ns), shaped_lst ns, by simp [PyData.eqv]⟩
  · exact ⟨_, .tup (Evl.st_of h) (dp_zs ns), shaped_tup ns, by simp [PyData.eqv]⟩
/-! ### the places of signs of other deeds -/
def badAt (B : Nat) (l : List Nat) (n : Nat) : List Nat := (List.range n).filter fun j => !decide (ix (l.getD j 0) < B)
theorem bad_succ (B : Nat) (l : List Nat) (n : Nat) : badAt B l (n + 1) = badAt B l n ++ (if ix (l.getD n 0) < B then [] else [n]) := by
  unfold badAt
  rw [List.range_succ, List.filter_append]
  congr 1
  by_cases h : ix (l.getD n 0) < B
  · rw [if_pos h, List.filter_cons_of_neg (by rw [decide_eq_true h]; decide)]; rfl
  · rw [if_neg h, List.filter_cons_of_pos (by rw [decide_eq_false h]; rfl)]; rfl
theorem bad_len (B : Nat) (l : List Nat) (n : Nat) : (badAt B l n).length ≤ n := by
  have := List.length_filter_le (fun j => !decide (ix (l.getD j 0) < B)) (List.range n)
  rw [List.length_range] at this
  exact this
theorem bad_nil {B : Nat} {l : List Nat} (h : badAt B l l.length = []) : Low B l := fun c hc => by
  obtain ⟨j, hj, e⟩ := List.getElem_of_mem hc
  unfold badAt at h
  rw [List.filter_eq_nil_iff] at h
  have := h j (List.mem_range.mpr hj)
  rw [List.getD_eq_getElem?_getD, List.getElem?_eq_getElem hj] at this
  simpa [e] using this
theorem filter_head (P : Nat → Bool) : ∀ (n p : Nat) (r : List Nat), (List.range n).filter P = p :: r → p < n ∧ P p = true ∧ ∀ j, j < p → P j = false
  | 0, p, r, h => by simp at h
  | n + 1, p, r, h => by
    rw [List.range_succ, List.filter_append] at h
    cases e : (List.range n).filter P with
    | nil =>
      rw [e, List.nil_append] at h
      have q : P n = true ∧ p = n := by
        by_cases z : P n = true
        · rw [List.filter_cons_of_pos z] at h
          injection h with h _
          exact ⟨z, h.symm⟩
        · rw [List.filter_cons_of_neg z] at h
          cases h
      obtain ⟨z, rfl⟩ := q
      refine ⟨by omega, z, fun j hj => ?_⟩
      rw [List.filter_eq_nil_iff] at e
      have := e j (List.mem_range.mpr hj)
      simpa using this
    | cons p' r' =>
      rw [e, List.cons_append] at h
      injection h with h _
      subst h
      obtain ⟨h1, h2, h3⟩ := filter_head P n p' r' e
      exact ⟨by omega, h2, h3⟩
theorem bad_cons {B : Nat} {l r : List Nat} {p : Nat} (h : badAt B l l.length = p :: r) : p < l.length ∧ ¬ ix (l.getD p 0) < B ∧ ∀ j, j < p → ix (l.getD j 0) < B := by
  obtain ⟨h1, h2, h3⟩ := filter_head _ _ _ _ h
  exact ⟨h1, by simpa using h2, fun j hj => by simpa using h3 j hj⟩
/-- the last row of all -/
theorem val_rep (B c n : Nat) (h : ix c + 1 = B) : NumM.val B (List.replicate n c) + 1 = B ^ n := by
  induction n with
  | zero => rfl
  | succ n ih =>
    rw [List.replicate_succ, NumM.val_cons, List.length_replicate, Nat.pow_succ, Nat.mul_comm (B ^ n) B, ← h, Nat.add_mul, h]
    omega
theorem num_rep (B c : Nat) (h : ix c + 1 = B) : numR B (List.replicate 60 c) + 1 = NumM.ones B 61 := by
  unfold numR
  rw [List.length_replicate, Nat.add_assoc, val_rep B c 60 h]
  exact (NumM.ones_pow B 60).symm
theorem ones_lt {d : Nat} (h1 : 1 ≤ d) (h2 : d ≤ 6) : NumM.ones (2 * d) 61 < 2 ^ 300 := by
  have h : d = 1 ∨ d = 2 ∨ d = 3 ∨ d = 4 ∨ d = 5 ∨ d = 6 := by omega
  rcases h with rfl | rfl | rfl | rfl | rfl | rfl <;> decide +kernel
theorem eqv_nil (ds : List PyData) : PyData.eqv (.list ds) (.list []) = ds.isEmpty := by
  cases ds <;> simp [PyData.eqv, PyData.eqvAll]
theorem dp_nats {K : PySem.W.Frag} {H : Hp} : ∀ ns : List Nat, DpAll K H (ns.map fun (j : Nat) => V.int (j : Int)) ((ns.map fun (j : Nat) => (j : Int)).map PyData.int)
  | [] => .nil
  | n :: ns => .cons (.int n) (dp_nats ns)
/-- a word and a thing -/
def pairD (w : Str) (d : PyData) : PyData := .list [.str w, d]
theorem dp_pair {K : PySem.W.Frag} {H : Hp} {u : Addr} {w : Str} {v : V} {d : PyData} (h : H u = some (.lst [.str w, v])) (hd : Dp K H v d) : Dp K H (.ref u) (pairD w d) := .lst (Evl.sq_of h) (.cons (.str w) (.cons hd .nil))
theorem shaped_int (w : Str) (hw : PyData.strOk w = true) (n : Int) : SeqAt.shaped (pairD w (.int n)) = true := by
  simp [pairD, SeqAt.shaped, PyData.canLay0, PyData.canLayAll0, PyData.depth, PyData.depthAll, hw]
theorem shaped_str (w z : Str) (hw : PyData.strOk w = true) (hz : PyData.strOk z = true) : SeqAt.shaped (pairD w (.str z)) = true := by
  simp [pairD, SeqAt.shaped, PyData.canLay0, PyData.canLayAll0, PyData.depth, PyData.depthAll, hw, hz]
theorem eqv_pair_int (w : Str) (n : Int) : PyData.eqv (pairD w (.int n)) (pairD w (.int n)) = true := by
  simp [pairD, PyData.eqv, PyData.eqvAll, eqv_int]
theorem eqv_pair_str (w z : Str) : PyData.eqv (pairD w (.str z)) (pairD w (.str z)) = true := by
  simp [pairD, PyData.eqv, PyData.eqvAll]
theorem strOk_row {l : List Nat} (h : Row l) : PyData.strOk (S l) = true := by
  have h2 : ∀ c ∈ sgns, c < 1114112 := by decide
  simp [PyData.strOk]
  intro c hc
  exact h2 c (h c hc)
/-- each number below so many is a row's -/
theorem digits_of {B : Nat} (h2 : 2 ≤ B) (h12 : B ≤ 12) : ∀ (k r : Nat), r < B ^ k → ∃ l, Row l ∧ l.length = k ∧ Low B l ∧ NumM.val B l = r
  | 0, r, h => ⟨[], RowM.nil_row, rfl, (fun _ h => by cases h), by simp at h; subst h; rfl⟩
  | k + 1, r, h => by
    obtain ⟨l, h1, h3, h4, h5⟩ := digits_of h2 h12 k (r / B) (by rw [Nat.div_lt_iff_lt_mul (by omega), ← Nat.pow_succ]; exact h)
    have hm : r % B < B := Nat.mod_lt _ (by omega)
    obtain ⟨c, _, sc, ic⟩ := sgns_at (r % B) (by omega)
    refine ⟨l ++ [c], row_snoc h1 sc, by simp [h3], all_snoc h4 (by rw [ic]; exact hm), ?_⟩
    rw [NumM.val_snoc, h5, ic, Nat.mul_comm]
    exact Nat.div_add_mod r B
theorem row_of {B : Nat} (h2 : 2 ≤ B) (h12 : B ≤ 12) : ∀ (k n : Nat), n < NumM.ones B k → ∃ l, Row l ∧ l.length < k ∧ Low B l ∧ numR B l = n
  | 0, n, h => by simp [NumM.ones] at h
  | k + 1, n, h => by
    by_cases q : n < NumM.ones B k
    · obtain ⟨l, h1, h3, h4, h5⟩ := row_of h2 h12 k n q
      exact ⟨l, h1, by omega, h4, h5⟩
    · rw [NumM.ones_pow] at h
      obtain ⟨l, h1, h3, h4, h5⟩ := digits_of h2 h12 k (n - NumM.ones B k) (by omega)
      exact ⟨l, h1, by omega, h4, by unfold numR; rw [h3, h5]; omega⟩
theorem log_lt {n k : Nat} (hk : 0 < k) (h : n < 2 ^ k) : n.log2 < k := by
  by_cases z : n = 0
  · subst z; exact hk
  · exact (Nat.log2_lt z).mpr h
theorem shaped_out {o : Out} {w : Str} {dv : PyData} (h : (∃ n : Int, dv = .int n) ∨ ∃ l : List Nat, Row l ∧ dv = .str (S l)) (hw : PyData.strOk w = true) : SeqAt.shaped (pairD w dv) = true ∧ PyData.eqv (pairD w dv) (pairD w dv) = true := by
  rcases h with ⟨n, rfl⟩ | ⟨l, rl, rfl⟩
  · exact ⟨shaped_int w hw n, eqv_pair_int w n⟩
  · exact ⟨shaped_str w _ hw (strOk_row rl), eqv_pair_str w _⟩
theorem mul_ok (c : Nat) : MulOk (⟨#[c]⟩ : Str) 60 := ⟨by decide, fun _ _ => by show ¬ ((1 : Int) > (2 ^ 63 - 1) / 60); decide, fun _ _ => rfl⟩
theorem row_rep {c : Nat} (h : c ∈ sgns) (n : Nat) : Row (List.replicate n c) := fun e he => by rw [List.eq_of_mem_replicate he]; exact h
/-! ### odd things, as data that can be shown -/
def Odd (K : PySem.W.Frag) (H : Hp) (x : V) (dx : PyData) : Prop := (∀ H', Same H H' → Dp K H' x dx) ∧ dx.showable = true ∧ dx.hasDict = false ∧ dx.shown.length ≤ 2000 ∧ dx.depth ≤ 1
theorem odd_int {K : PySem.W.Frag} {H : Hp} {i : Int} (h : i.natAbs.log2 < 1900) : Odd K H (.int i) (.int i) :=
  ⟨fun _ _ => .int i, decide_eq_true (by omega), rfl, Nat.le_trans (PyProof.Rows.int_text_len_1921 (by omega)) (by decide), by simp [PyData.depth]⟩
theorem odd_bl {K : PySem.W.Frag} {H : Hp} (b : Bool) : Odd K H (.bl b) (.bool b) := ⟨fun _ _ => .bl b, rfl, rfl, by cases b <;> decide +kernel, by simp [PyData.depth]⟩
theorem odd_non {K : PySem.W.Frag} {H : Hp} : Odd K H .non .none := ⟨fun _ _ => .non, rfl, rfl, by decide +kernel, by simp [PyData.depth]⟩
theorem odd_str {K : PySem.W.Frag} {H : Hp} (s : Str) (h : (reprText s).length ≤ 2000) : Odd K H (.str s) (.str s) := ⟨fun _ _ => .str s, rfl, rfl, h, by simp [PyData.depth]⟩
theorem odd_lst {K : PySem.W.Frag} {H : Hp} {b : Addr} (h : H b = some (.lst [])) : Odd K H (.ref b) (.list []) := ⟨fun _ s => .lst (Evl.sq_of (s _ _ h)) .nil, rfl, rfl, by decide +kernel, by simp [PyData.depth, PyData.depthAll]⟩
theorem odd_lst0 {K : PySem.W.Frag} {H : Hp} {b : Addr} (h : H b = some (.lst [.int 0])) : Odd K H (.ref b) (.list [.int 0]) := ⟨fun _ s => .lst (Evl.sq_of (s _ _ h)) (.cons (.int 0) .nil), by decide +kernel, rfl, by decide +kernel, by simp [PyData.depth, PyData.depthAll]⟩
theorem odd_tup {K : PySem.W.Frag} {H : Hp} {b : Addr} (h : H b = some (.tup [])) : Odd K H (.ref b) (.tuple []) := ⟨fun _ s => .tup (Evl.st_of (s _ _ h)) .nil, rfl, rfl, by decide +kernel, by simp [PyData.depth, PyData.depthAll]⟩
theorem Odd.mono {K : PySem.W.Frag} {H H' : Hp} {x : V} {dx : PyData} (h : Odd K H x dx) (s : Same H H') : Odd K H' x dx := ⟨fun H2 s2 => h.1 H2 (Same.trans s s2), h.2⟩
theorem pair_shows {K : PySem.W.Frag} {H : Hp} {x : V} {dx : PyData} (h : Odd K H x dx) : (pairD (Str.ofString "number") dx).showable = true ∧ (pairD (Str.ofString "number") dx).hasDict = false ∧ (pairD (Str.ofString "number") dx).shown.length ≤ 2100 ∧ (pairD (Str.ofString "number") dx).depth ≤ 2 := by
  obtain ⟨_, h1, h2, h3, h4⟩ := h
  refine ⟨by simp [pairD, PyData.showable, PyData.showableAll, h1], by simp [pairD, PyData.hasDict, PyData.hasDictAll, h2], ?_, by simp [pairD, PyData.depth, PyData.depthAll]; omega⟩
  show (listText [reprText (Str.ofString "number"), dx.shown]).length ≤ 2100
  refine Nat.le_trans (listText_len_le _) ?_
  have e : (reprText (Str.ofString "number")).length = 8 := by decide +kernel
  simp only [List.map_cons, List.map_nil, List.sum_cons, List.sum_nil, List.length_cons, List.length_nil, e]
  omega
theorem two_shows {K : PySem.W.Frag} {H : Hp} {x : V} {dx : PyData} (h : Odd K H x dx) : (PyData.list [pairD (Str.ofString "number") dx, pairD (Str.ofString "number") dx]).showable = true ∧ (PyData.list [pairD (Str.ofString "number") dx, pairD (Str.ofString "number") dx]).hasDict = false ∧
    (PyData.list [pairD (Str.ofString "number") dx, pairD (Str.ofString "number") dx]).shown.length ≤ sizeLine ∧ (PyData.list [pairD (Str.ofString "number") dx, pairD (Str.ofString "number") dx]).depth ≤ 60 := by
  obtain ⟨h1, h2, h3, h4⟩ := pair_shows h
  generalize pairD (Str.ofString "number") dx = z at h1 h2 h3 h4
  refine ⟨by simp [PyData.showable, PyData.showableAll, h1], by simp [PyData.hasDict, PyData.hasDictAll, h2], ?_, by simp [PyData.depth, PyData.depthAll]; omega⟩
  show (listText [z.shown, z.shown]).length ≤ sizeLine
  refine Nat.le_trans (listText_len_le _) ?_
  simp only [List.map_cons, List.map_nil, List.sum_cons, List.sum_nil, List.length_cons, List.length_nil]
  exact Nat.le_trans (by omega : _ ≤ 10000) (by decide)
theorem at_mem {L : List V} {z : Int} (h0 : 0 ≤ z) (h1 : z < (L.length : Int)) : ∃ y, atI L z = some y ∧ y ∈ L := by
  obtain ⟨n, rfl⟩ : ∃ n : Nat, z = (n : Int) := ⟨z.toNat, by omega⟩
  have hn : n < L.length := by omega
  exact ⟨L[n], atI_nat (List.getElem?_eq_getElem hn), List.getElem_mem _⟩

/-- a def that the caller knows: where it stands, how its arguments bind, what it promises -/
def KN (P : Program) (w : World) (K : PySem.W.Frag) (mg : Str → Option Value) (base : Heap) (CX : CXT) (k : Nat) (ps : List Str) (sp : Sp) (x : Str) (dvs : List V) : Prop :=
  ∃ (f : Addr) (fd : FuncData) (ds : List Value), mg x = some (.ref f) ∧ PySem.W.keepIn K (.ref f) = true ∧ Vals dvs ds ∧ Binds K fd ps ds ∧ FnOk P w K mg base CX k f fd ps sp
/-- a def that asks for reprs -/
def KNG (P : Program) (w : World) (K : PySem.W.Frag) (mg : Str → Option Value) (base : Heap) (CX : CXT) (k : Nat) (ps : List Str) (sp : Sp) (x : Str) (dvs : List V) : Prop :=
  ∃ (f : Addr) (fd : FuncData) (ds : List Value), mg x = some (.ref f) ∧ PySem.W.keepIn K (.ref f) = true ∧ Vals dvs ds ∧ Binds K fd ps ds ∧ FnG P w K mg base CX k f fd ps sp
/-- a method that the caller knows -/
def KM (P : Program) (w : World) (K : PySem.W.Frag) (mg : Str → Option Value) (base : Heap) (CX : CXT) (k : Nat) (ps : List Str) (sp : Sp) (C : Addr) (n : Str) (dvs : List V) : Prop :=
  ∃ (f : Addr) (fd : FuncData) (ds : List Value), PySem.W.findIn K (.ref C) n = some (some (.ref f)) ∧ PySem.W.typeIn K (.ref f) = some (.type "function") ∧ Vals dvs ds ∧ Binds K fd ps ds ∧ FnOk P w K mg base CX k f fd ps sp
structure Txt (K : PySem.W.Frag) (mg : Str → Option Value) (C_NoNumber : Addr) (C_NoRow : Addr) (C_NoSign : Addr) : Prop where
  b_IndexError : mg "IndexError" = none
  b_KeyError : mg "KeyError" = none
  b_LookupError : mg "LookupError" = none
  b_ValueError : mg "ValueError" = none
  b_all : mg "all" = none
  b_bool : mg "bool" = none
  b_enumerate : mg "enumerate" = none
  b_int : mg "int" = none
  b_isinstance : mg "isinstance" = none
  b_len : mg "len" = none
  b_max : mg "max" = none
  b_min : mg "min" = none
  b_range : mg "range" = none
  b_repr : mg "repr" = none
  b_str : mg "str" = none
  g_DEEDS : ∃ u, mg "DEEDS" = some u ∧ RelV (.str "abcdef") u
  g_DIGITS : ∃ u, mg "DIGITS" = some u ∧ RelV (.str "0123456789ab") u
  g_MOST_SIGNS : ∃ u, mg "MOST_SIGNS" = some u ∧ RelV (.int 60) u
  g_SIGNS : ∃ u, mg "SIGNS" = some u ∧ RelV (.str "aAbBcCdDeEfF") u
  v_LookupError : PySem.W.findCls K (.type "LookupError") (.type "type") "__init__" = some (.val (.builtin "LookupError.__init__"))
  v_ValueError : PySem.W.findCls K (.type "ValueError") (.type "type") "__init__" = some (.val (.builtin "ValueError.__init__"))
  y_NoNumber_number : PySem.W.findIn K (.ref C_NoNumber) "number" = some none
  y_NoSign_place : PySem.W.findIn K (.ref C_NoSign) "place" = some none
  x_NoNumber : ExF K mg "NoNumber" C_NoNumber "LookupError" "LookupError.__new__" "LookupError.__init__" [.type "LookupError", .type "Exception", .type "BaseException", .type "object"]
  x_NoRow : ExK K mg "NoRow" C_NoRow [.type "ValueError", .type "Exception", .type "BaseException", .type "object"] "ValueError.__new__"
  x_NoSign : ExF K mg "NoSign" C_NoSign "ValueError" "ValueError.__new__" "ValueError.__init__" [.type "ValueError", .type "Exception", .type "BaseException", .type "object"]
  s1 : PySem.W.subIn K (.ref C_NoSign) (.type "ValueError") = some true
  s2 : PySem.W.subIn K (.ref C_NoSign) (.type "LookupError") = some false
  s3 : PySem.W.subIn K (.ref C_NoSign) (.ref C_NoRow) = some false
  s4 : PySem.W.subIn K (.ref C_NoNumber) (.ref C_NoSign) = some false
  s5 : PySem.W.subIn K (.ref C_NoNumber) (.type "LookupError") = some true
  s6 : PySem.W.subIn K (.ref C_NoNumber) (.type "KeyError") = some false
  s7 : PySem.W.subIn K (.ref C_NoNumber) (.type "IndexError") = some false
def sp_law_pool (K : PySem.W.Frag) : Sp := fun vs H Q E => ∃ (a : Addr) (ns : List Int) (i : Int), vs = [.ref a, .int i] ∧ (SqL K H a (ns.map V.int)) ∧ (0 ≤ i) ∧ (i < 1000) ∧ ∀ (p : Addr) (H' : Hp), H p = none → Same H H' → Pool H' p → Q (.ref p) H'
def sp_law_take : Sp := fun vs H Q E => ∃ (p : Addr) (m : Int), vs = [.ref p, .int m] ∧ (Pool H p) ∧ (0 < m) ∧ (m < 1267650600228229401496703205376) ∧ ∀ (v : Int) (H' : Hp), 0 ≤ v → v < m → Off p H H' → Pool H' p → Q (.int v) H'
def sp_law_turned : Sp := fun vs H Q E => ∃ (l : List Nat), vs = [.str (S l)] ∧ (Row l) ∧ (l.length ≤ 40000) ∧ ∀ H' : Hp, Same H H' → Q (.str (S (RowM.turn l))) H'
def sp_law_row : Sp := fun vs H Q E => ∃ (p : Addr) (most deeds : Int), vs = [.ref p, .int most, .int deeds] ∧ (Pool H p) ∧ (0 ≤ most) ∧ (most ≤ 1000) ∧ (1 ≤ deeds) ∧ (deeds ≤ 6) ∧ ∀ (l : List Nat) (H' : Hp), Row l → (l.length : Int) ≤ most → (∀ c ∈ l, (ix c : Int) < 2 * deeds) → Off p H H' → Pool H' p → Q (.str (S l)) H'
def sp_law_sum : Sp := fun vs H Q E => ∃ (l : List Nat) (d : Nat), vs = [.str (S l), .int (d : Int)] ∧ (Row l) ∧ (l.length ≤ 1000) ∧ (1 ≤ d) ∧ (d ≤ 6) ∧ ∀ H' : Hp, Same H H' → Q (.int ((numR (2 * d) l : Nat) : Int)) H'
def sp_is_row_within : Sp := fun vs H Q E => ∃ (l : List Nat) (most : Int), vs = [.str (S l), .int most] ∧ (l.length ≤ 40000) ∧ ∀ H' : Hp, Same H H' → Q (.bl (decide ((l.length : Int) ≤ most) && l.all fun c => decide (c ∈ sgns))) H'
def sp_is_row : Sp := fun vs H Q E => ∃ (l : List Nat), vs = [.str (S l)] ∧ (l.length ≤ 40000) ∧ ∀ H' : Hp, Same H H' → Q (.bl (isRow l)) H'
def sp_look_at_row : Sp := fun vs H Q E => ∃ (l : List Nat), vs = [.str (S l)] ∧ (isRow l = true) ∧ ∀ H' : Hp, Same H H' → Q .non H'
def sp_is_whole : Sp := fun vs H Q E => ∃ (x : V) (r : Bool), vs = [x] ∧ (IntOr H x r) ∧ ∀ H' : Hp, Same H H' → Q (.bl r) H'
def sp_NoNumber___init__ (C_NoNumber : Addr) : Sp := fun vs H Q E => ∃ (a : Addr) (v : V), vs = [.ref a, v] ∧ (H a = some (exo a C_NoNumber none)) ∧ ∀ d : Addr, H d = none → d ≠ a → Q .non (upd (upd (upd H d (exd d [])) a (exo a C_NoNumber (some d))) d (exd d [(Str.ofString "number", v)]))
def sp_look_at_deeds (C_NoNumber : Addr) : Sp := fun vs H Q E => ∃ (y : V) (m : Int) (r : Bool), vs = [y, .int m] ∧ (Deeds H y m r) ∧ (r = true → ∀ H' : Hp, Same H H' → Q .non H') ∧ (r = false → ∀ (d : Addr) (H' : Hp), Same H H' → H' d = some (.xd [(Str.ofString "number", y)]) → E (.ref C_NoNumber) (some d) H')
def sp_NoSign___init__ (C_NoSign : Addr) : Sp := fun vs H Q E => ∃ (a : Addr) (v : V), vs = [.ref a, v] ∧ (H a = some (exo a C_NoSign none)) ∧ ∀ d : Addr, H d = none → d ≠ a → Q .non (upd (upd (upd H d (exd d [])) a (exo a C_NoSign (some d))) d (exd d [(Str.ofString "place", v)]))
def sp_number_of (C_NoSign : Addr) (C_NoNumber : Addr) : Sp := fun vs H Q E => ∃ (l : List Nat) (y : V) (r : Bool) (o : Out), vs = [.str (S l), y] ∧ (isRow l = true) ∧ (Deeds H y 6 r) ∧ (NumOut l y r o) ∧ outK C_NoSign C_NoNumber H Q E o
def sp_row_at (C_NoSign : Addr) (C_NoNumber : Addr) : Sp := fun vs H Q E => ∃ (x y : V) (r : Bool) (o : Out), vs = [x, y] ∧ ((∃ i : Int, x = .int i) ∨ NotInt H x) ∧ (Deeds H y 6 r) ∧ (RowOut x y r o) ∧ outK C_NoSign C_NoNumber H Q E o
def sp_law_told (C_NoSign : Addr) (C_NoNumber : Addr) : Sp := fun vs H Q E => ∃ (i : Int) (x y : V) (r : Bool) (o : Out), vs = [.int i, x, y] ∧ ((i = 0 ∧ ∃ l, x = .str (S l) ∧ isRow l = true ∧ NumOut l y r o) ∨ (i = 1 ∧ ((∃ j : Int, x = .int j) ∨ NotInt H x) ∧ RowOut x y r o)) ∧ (Deeds H y 6 r) ∧ (∀ s, y = .str s → s.cps.all (· < 0x110000)) ∧ ∀ (p : Addr) (H' : Hp), Same H H' → H p = none → H' p = some (.lst (outV o)) → Q (.ref p) H'
def sp_law (K : PySem.W.Frag) : Sp := fun vs H Q E => ∃ (a : Addr) (ns : List Int), vs = [.ref a] ∧ (SqL K H a (ns.map V.int)) ∧ (ns.length ≤ 63) ∧ ∀ H', Q (.bl true) H'
section
variable {P : Program} {w : World} {K : PySem.W.Frag} {mg : Str → Option Value} {base : Heap} {C_NoNumber : Addr} {C_NoRow : Addr} {C_NoSign : Addr}
theorem sc_law_pool : FnScope ["_law_script", "_law_k", "_law_cell", "_law_number"] ["_law_script", "_law_k"] (defScope s_law_pool) := ⟨rfl, rfl, rfl, by decide +kernel, rfl, by decide +kernel, by decide +kernel⟩
theorem ok_law_pool {f : Addr} {fd : FuncData} (F : Fun K "_law_pool" "_law_pool" s_law_pool f fd) (T : Txt K mg C_NoNumber C_NoRow C_NoSign) : FnOk P w K mg base CX0 1 f fd ["_law_script", "_law_k"] (sp_law_pool K) := by
  refine F.ok sc_law_pool (fun vs H Q E h => ?_) (fun cdv A outer s H vs Q E hr h => ?_)
  · obtain ⟨a, ns, i, rfl, _⟩ := h
    all_goals rfl
  · obtain ⟨a, ns, i, rfl, ha, h0, h1, k⟩ := h
    refine ⟨_, (pss_cons (ps_set (i := 2) sc_law_pool.nd rfl (Or.inl rfl) pe_int)
    (pss_cons (ps_if (pt_cmpR op_lt (pv 1) (pe_callB (call_lenK (K := K)) (by rfl) T.b_len (by decide +kernel) (pa_cons (pv 0) pa_nil)) (nomark _)) (pss_one (ps_set (i := 2) sc_law_pool.nd rfl (Or.inl rfl) (pe_ix (ix_listK (K := K)) (pv 0) (pv 1) (fun _ _ => rfl)))) pss_nil)
    (pss_cons (ps_set (i := 3) sc_law_pool.nd rfl (Or.inl rfl) (pe_op op_mod (pe_op op_pow (pe_op op_add (pe_op op_add (pe_op op_mod (pv 2) pe_int) (pe_op op_mul (pe_op op_mul pe_int (pv 1)) (pv 1))) pe_int) pe_int) pe_int))
    (pss_cons (ps_if (pt_cmpR op_lt (pv 2) (pe_op op_pow pe_int pe_int) (nomark _)) (pss_one (ps_set (i := 2) sc_law_pool.nd rfl (Or.inl rfl) pe_int)) pss_nil)
    (pss_one (ps_ret (pe_lst (pa_cons (pv 2) (pa_cons (pv 3) pa_nil))))))))), ?_⟩
    have go : ∀ c : Int, tSeq (tAsg (tOp (rI (fun x j => 0 < j) fun i j => V.int (i % j))
                (tOp (rI CPow fun i j => V.int (i ^ j.toNat))
                  (tOp (rI0 fun i j => V.int (i + j))
                    (tOp (rI0 fun i j => V.int (i + j))
                      (tOp (rI (fun x j => 0 < j) fun i j => V.int (i % j)) (tVar 2) (tC (V.int 2147483629)))
                      (tOp (rI CMul fun i j => V.int (i * j))
                        (tOp (rI CMul fun i j => V.int (i * j)) (tC (V.int 104729)) (tVar 1)) (tVar 1)))
                    (tC (V.int 11)))
                  (tC (V.int 3)))
                (tC (V.int 2147483647)))
              (gName 3))
            (tSeq
              (tIfS
                (tTest
                  (tOp (rI0 fun i j => V.bl (decide (i < j))) (tVar 2)
                    (tOp (rI CPow fun i j => V.int (i ^ j.toNat)) (tC (V.int 10)) (tC (V.int 18)))))
                (tAsg (tC (V.int 0)) (gName 2)) tNext)
              (tRet (tLst (tCons (tVar 2) (tCons (tVar 3) tNil))))) { nx := fun x H' => Q V.non H', rt := Q } [some (.ref a), some (.int i), some (.int c), none] H := fun c => by
        have z0 : 0 ≤ c % 2147483629 := Int.emod_nonneg _ (by decide)
        have z1 : c % 2147483629 < 2147483629 := Int.emod_lt_of_pos _ (by decide)
        have m0 : 0 ≤ i * i := Int.mul_nonneg h0 h0
        have m1 : i * i < 1000000 := by
          have : i * i ≤ 999 * 999 := Int.mul_le_mul (by omega) (by omega) h0 (by decide)
          omega
        have ea : 104729 * i * i = 104729 * (i * i) := Int.mul_assoc _ _ _
        refine ⟨_, rfl, _, _, rfl, rfl, (by show (0 : Int) < 2147483629; decide), _, rfl, _, _, rfl, rfl, .inl ⟨by decide, by decide⟩, _, rfl, _, _, rfl, rfl, .inr ⟨by omega, by omega⟩, _, _, rfl, rfl, _, _, rfl, rfl, _, _, rfl, rfl, ⟨by decide, by decide, by omega⟩, _, _, rfl, rfl, (by show (0 : Int) < 2147483647; decide), ?_⟩
        have y0 : 0 ≤ ((c % 2147483629 + 104729 * i * i + 11) ^ (3 : Int).toNat) % 2147483647 := Int.emod_nonneg _ (by decide)
        have y1 : ((c % 2147483629 + 104729 * i * i + 11) ^ (3 : Int).toNat) % 2147483647 < 2147483647 := Int.emod_lt_of_pos _ (by decide)
        refine ⟨_, rfl, _, _, rfl, rfl, ⟨by decide, by decide, by decide⟩, _, _, rfl, rfl, _, rfl, ?_⟩
        refine ite2 (fun _ => ?_) (fun _ => ?_)
        · exact ⟨_, rfl, _, rfl, (by show 2 ≤ sizeLine; decide), fun p hp => k p _ hp (Same.new hp) ⟨_, _, upd_same, y0, y1⟩⟩
        · exact ⟨_, rfl, _, rfl, (by show 2 ≤ sizeLine; decide), fun p hp => k p _ hp (Same.new hp) ⟨_, _, upd_same, y0, y1⟩⟩
    refine ⟨_, rfl, _, rfl, _, _, rfl, .inl ha, _, _, rfl, rfl, _, rfl, ?_⟩
    refine ite2 (fun q => ?_) (fun _ => go 0)
    have hl : i < (ns.length : Int) := by
      have q := of_decide_eq_true q
      rw [List.length_map] at q
      exact q
    obtain ⟨j, rfl⟩ : ∃ j : Nat, i = (j : Int) := ⟨i.toNat, by omega⟩
    have hj : j < ns.length := by omega
    refine ⟨_, rfl, _, rfl, _, _, _, _, rfl, rfl, ha, atI_nat (by rw [List.getElem?_map, List.getElem?_eq_getElem hj]; rfl), go _⟩
theorem sc_law_take : FnScope ["_law_pool_here", "_law_many", "_law_found"] ["_law_pool_here", "_law_many"] (defScope s_law_take) := ⟨rfl, rfl, rfl, by decide +kernel, rfl, by decide +kernel, by decide +kernel⟩
theorem ok_law_take {f : Addr} {fd : FuncData} (F : Fun K "_law_take" "_law_take" s_law_take f fd) (T : Txt K mg C_NoNumber C_NoRow C_NoSign) : FnOk P w K mg base CX0 1 f fd ["_law_pool_here", "_law_many"] (sp_law_take) := by
  refine F.ok sc_law_take (fun vs H Q E h => ?_) (fun cdv A outer s H vs Q E hr h => ?_)
  · obtain ⟨p, m, rfl, _⟩ := h
    all_goals rfl
  · obtain ⟨p, m, rfl, hp, h0, h1, k⟩ := h
    refine ⟨_, (pss_cons (ps_if (pt_cmpR op_gt (pe_ix (ix_listK (K := K)) (pv 0) pe_int (fun _ _ => rfl)) pe_int (nomark _)) (pss_cons (ps_set (i := 2) sc_law_take.nd rfl (Or.inl rfl) (pe_op op_mod (pe_ix (ix_listK (K := K)) (pv 0) pe_int (fun _ _ => rfl)) (pv 1)))
    (pss_cons (ps_asg (pe_op op_fdivW (pe_ix (ix_listK (K := K)) (pv 0) pe_int (fun _ _ => rfl)) (pv 1)) (pg_sub (pv 0) pe_int set_list))
    (pss_one (ps_ret (pv 2))))) pss_nil)
    (pss_cons (ps_asg (pe_op op_mod (pe_op op_add (pe_op op_mul (pe_ix (ix_listK (K := K)) (pv 0) pe_int (fun _ _ => rfl)) pe_int) pe_int) pe_int) (pg_sub (pv 0) pe_int set_list))
    (pss_one (ps_ret (pe_op op_mod (pe_op op_fdiv (pe_op op_mod (pe_op op_mul (pe_ix (ix_listK (K := K)) (pv 0) pe_int (fun _ _ => rfl)) (pe_ix (ix_listK (K := K)) (pv 0) pe_int (fun _ _ => rfl))) pe_int) pe_int) (pv 1)))))), ?_⟩
    obtain ⟨c, n, hp, n0, n1⟩ := hp
    refine ⟨_, rfl, _, _, _, _, rfl, rfl, SqL.of hp, atI0, _, _, rfl, rfl, _, rfl, ?_⟩
    refine ite2 (fun _ => ?_) (fun _ => ?_)
    · refine ⟨_, rfl, _, _, _, _, rfl, rfl, SqL.of hp, atI0, _, rfl, _, _, rfl, rfl, h0, ?_⟩
      refine ⟨_, rfl, _, _, _, _, rfl, rfl, SqL.of hp, atI0, _, rfl, _, _, rfl, rfl, wide_div h0 (b := 100) (by omega) (by decide) (by decide), _, rfl, _, _, _, 0, rfl, rfl, hp, rfl, ?_⟩
      exact ⟨_, rfl, k _ _ (Int.emod_nonneg _ (by omega)) (Int.emod_lt_of_pos _ h0) (Off.upd (Off.refl _ _)) ⟨_, n, upd_same, n0, n1⟩⟩
    · refine ⟨_, rfl, _, _, _, _, rfl, rfl, SqL.of hp, atI1, _, _, rfl, rfl, .inr ⟨by decide, by decide⟩, _, _, rfl, rfl, _, _, rfl, rfl, (by show (0 : Int) < 2147483647; decide), _, rfl, _, _, _, 1, rfl, rfl, hp, rfl, ?_⟩
      have z0 : 0 ≤ (n * 48271 + 11) % 2147483647 := Int.emod_nonneg _ (by decide)
      have z1 : (n * 48271 + 11) % 2147483647 < 2147483647 := Int.emod_lt_of_pos _ (by decide)
      refine ⟨_, rfl, _, _, _, _, rfl, rfl, SqL.of upd_same, atI1, _, rfl, _, _, _, _, rfl, rfl, SqL.of upd_same, atI1, _, _, rfl, rfl, .inl ⟨by omega, by omega⟩, _, _, rfl, rfl, (by show (0 : Int) < 2147483629; decide), _, _, rfl, rfl, ⟨by decide, by decide⟩, _, rfl, _, _, rfl, rfl, h0, ?_⟩
      exact k _ _ (Int.emod_nonneg _ (by omega)) (Int.emod_lt_of_pos _ h0) (Off.upd (Off.refl _ _)) ⟨_, _, upd_same, z0, z1⟩
theorem sc_law_turned : FnScope ["_law_text", "_law_sign"] ["_law_text"] (defScope s_law_turned) := ⟨rfl, rfl, rfl, by decide +kernel, rfl, by decide +kernel, by decide +kernel⟩
theorem ok_law_turned {f : Addr} {fd : FuncData} (F : Fun K "_law_turned" "_law_turned" s_law_turned f fd) (T : Txt K mg C_NoNumber C_NoRow C_NoSign) : FnOk P w K mg base CX0 1 f fd ["_law_text"] (sp_law_turned) := by
  refine F.ok sc_law_turned (fun vs H Q E h => ?_) (fun cdv A outer s H vs Q E hr h => ?_)
  · obtain ⟨l, rfl, _⟩ := h
    all_goals rfl
  · obtain ⟨l, rfl, hl, hz, k⟩ := h
    refine ⟨_, (pss_one (ps_ret (pe_m1 PySem.F.slot_str_join PySem.F.type_str_join (mt_joinK (K := K)) pe_str (pe_lc (own := [("_law_sign", 1)]) (g := gName 1) (tt := tYes) rfl sc_law_turned.nd (pi_str (pe_revS (pv 0))) (blkOk_by (own := [("_law_sign", 1)]) (N := ["_law_text", "_law_sign"]) (sc := defScope s_law_turned) (by decide +kernel)) (fun _ _ _ _ _ => (pg_name (i := 1) sc_law_turned.nd rfl (Or.inl rfl))) (fun _ _ _ _ _ => pts_nil) (fun _ _ _ _ _ => (pe_ix (ix_listK (K := K)) (pe_lst (pa_cons (pe_upper (pv 1)) (pa_cons (pe_lower (pv 1)) pa_nil))) (pe_callTy call_int1 (by rfl) T.b_int (by decide +kernel) (pa_cons (pe_m0 PySem.F.slot_str_isupper PySem.F.type_str_isupper mt_isupper (pv 1)) pa_nil)) (fun _ _ => rfl))))))), ?_⟩
    refine Evl.s_ret (Evl.ev_is (ev_joinMap con Evl.ev_c (by decide) (Evl.ev_revS (Evl.ev_var rfl) (by rw [len_S]; omega)) (by show (S l.reverse).length ≤ _; rw [len_S, List.length_reverse]; omega) (fun _ => rfl) (fun c H1 e hc => ?_)) rfl) fun H1 e => k H1 e
    have hc : c ∈ sgns := hl c (List.mem_reverse.mp hc)
    exact Evl.ev_ixNew (Evl.el_lst (Evl.ea_cons (Evl.ev_m0 (Evl.ev_var rfl) one_le) (Evl.ea_cons (Evl.ev_m0 (Evl.ev_var rfl) one_le) Evl.ea_nil)) (by show 2 ≤ _; decide)) (fun H1 e => Evl.ev_intB (Evl.ev_m0 (Evl.ev_var rfl) trivial)) (at_turn hc)
theorem sc_law_row : FnScope ["_law_pool_here", "_law_most", "_law_deeds", "_law_way", "_law_found", "_law_left", "_law_k", "_law_sign"] ["_law_pool_here", "_law_most", "_law_deeds"] (defScope s_law_row) := ⟨rfl, rfl, rfl, by decide +kernel, rfl, by decide +kernel, by decide +kernel⟩
theorem ok_law_row {f : Addr} {fd : FuncData} (F : Fun K "_law_row" "_law_row" s_law_row f fd) (T : Txt K mg C_NoNumber C_NoRow C_NoSign) (kn_law_take : KN P w K mg base CX0 1 ["_law_pool_here", "_law_many"] (sp_law_take) "_law_take" []) (kn_law_turned : KN P w K mg base CX0 1 ["_law_text"] (sp_law_turned) "_law_turned" []) : FnOk P w K mg base CX0 2 f fd ["_law_pool_here", "_law_most", "_law_deeds"] (sp_law_row) := by
  obtain ⟨f_law_take, fd_law_take, ds_law_take, m_law_take, k_law_take, v_law_take, b_law_take, G_law_take⟩ := kn_law_take
  obtain ⟨f_law_turned, fd_law_turned, ds_law_turned, m_law_turned, k_law_turned, v_law_turned, b_law_turned, G_law_turned⟩ := kn_law_turned
  refine F.ok sc_law_row (fun vs H Q E h => ?_) (fun cdv A outer s H vs Q E hr h => ?_)
  · obtain ⟨p, most, deeds, rfl, _⟩ := h
    all_goals rfl
  · obtain ⟨p, most, deeds, rfl, hp, m0, m1, d0, d1, k⟩ := h
    refine ⟨_, (pss_cons (ps_set (i := 3) sc_law_row.nd rfl (Or.inl rfl) (pe_call G_law_take (hr.mono (by decide)) rfl m_law_take k_law_take b_law_take v_law_take pass0 (pa_cons (pv 0) (pa_cons pe_int pa_nil))))
    (pss_cons (ps_set (i := 4) sc_law_row.nd rfl (Or.inl rfl) pe_str)
    (pss_cons (ps_set (i := 5) sc_law_row.nd rfl (Or.inl rfl) pe_str)
    (pss_cons (ps_for PassesOwn.never rfl (pi_range1 (by rfl) T.b_range (pa_cons (pe_call G_law_take (hr.mono (by decide)) rfl m_law_take k_law_take b_law_take v_law_take pass0 (pa_cons (pv 0) (pa_cons (pe_op op_add (pv 1) pe_int) pa_nil))) pa_nil)) (pg_name (i := 6) sc_law_row.nd rfl (Or.inl rfl)) (pss_cons (ps_set (i := 7) sc_law_row.nd rfl (Or.inl rfl) (pe_ix ix_str pe_str (pe_call G_law_take (hr.mono (by decide)) rfl m_law_take k_law_take b_law_take v_law_take pass0 (pa_cons (pv 0) (pa_cons (pe_op op_mul pe_int (pv 2)) pa_nil))) (fun _ _ => rfl)))
    (Evl.pss_cut (ps_if (PW.pt (pw_and (pt_cmpR op_gt (pv 3) pe_int (nomark _)) (pw_and (pt_cmpR op_ne (pv 5) pe_str (nomark _)) (pw_and1 (pt_cmpR op_gt (pe_call G_law_take (hr.mono (by decide)) rfl m_law_take k_law_take b_law_take v_law_take pass0 (pa_cons (pv 0) (pa_cons (pe_op op_add pe_int (pv 3)) pa_nil))) pe_int (nomark _)))))) (pss_cons (ps_set (i := 7) sc_law_row.nd rfl (Or.inl rfl) (pe_call G_law_turned (hr.mono (by decide)) rfl m_law_turned k_law_turned b_law_turned v_law_turned pass0 (pa_cons (pe_ix ix_str (pv 5) (pe_un un_neg pe_int) (fun _ _ => rfl)) pa_nil)))
    (pss_one (ps_set (i := 5) sc_law_row.nd rfl (Or.inl rfl) (pe_slice sl_str (pv 5) po_none (po_some (pe_un un_neg pe_int)))))) (pss_one (ps_set (i := 5) sc_law_row.nd rfl (Or.inl rfl) (pe_op op_add_str (pv 5) (pv 7)))))
    (pss_one (ps_set (i := 4) sc_law_row.nd rfl (Or.inl rfl) (pe_op op_add_str (pv 4) (pv 7)))))))
    (pss_one (ps_ret (pv 4))))))), ?_⟩
    refine ⟨_, rfl, p, 3, rfl, hp, by decide, by decide, fun way H1 w0 w1 o1 p1 => ?_⟩
    refine ⟨_, rfl, _, rfl, _, _, rfl, rfl, p, most + 1, rfl, p1, by omega, by omega, fun n H2 n0 n1 o2 p2 => ?_⟩
    refine ⟨n, rfl, by omega, by omega, for_range (lo := 0) (n := n.toNat) (fun i σ H' => ∃ (l m : List Nat) (x y : Option V), σ = [some (.ref p), some (.int most), some (.int deeds), some (.int way), some (.str (S l)), some (.str (S m)), x, y] ∧
        Row l ∧ Row m ∧ (∀ c ∈ l, (ix c : Int) < 2 * deeds) ∧ (∀ c ∈ m, (ix c : Int) < 2 * deeds) ∧ l.length = i ∧ m.length ≤ i ∧ Off p H H' ∧ Pool H' p)
      ⟨[], [], none, none, rfl, RowM.nil_row, RowM.nil_row, (by intro c q; cases q), (by intro c q; cases q), rfl, Nat.le_refl _, o1.trans o2, p2⟩ ?_ ?_⟩
    · rintro i σ H' hi ⟨l, m, x, y, rfl, hl, hm, il, im, zl, zm, o, hp⟩
      have hin : (i : Int) < n := by omega
      refine ⟨_, rfl, _, rfl, _, _, rfl, rfl, .inl ⟨by decide, by decide⟩, p, 2 * deeds, rfl, hp, by omega, by omega, fun v H3 v0 v1 o3 p3 => ?_⟩
      obtain ⟨c, hc, sc, ic⟩ := sign_of_at (i := v) v0 (by omega) rfl
      refine ⟨_, _, c, rfl, rfl, (by decide), hc, ?_⟩
      have icd : (ix c : Int) < 2 * deeds := by omega
      have z1 : l.length < 2000 := by omega
      have z2 : m.length < 2000 := by omega
      refine ⟨fun σ H' => ∃ (m : List Nat) (c : Nat), σ = [some (.ref p), some (.int most), some (.int deeds), some (.int way), some (.str (S l)), some (.str (S m)), some (.int (0 + i)), some (.str (S [c]))] ∧
        Row m ∧ c ∈ sgns ∧ (∀ c ∈ m, (ix c : Int) < 2 * deeds) ∧ (ix c : Int) < 2 * deeds ∧ m.length ≤ i + 1 ∧ Off p H H' ∧ Pool H' p, ?_, ?_⟩
      · have add : ∀ H4, Off p H H4 → Pool H4 p → ∀ (D : Ends), D.nx = (fun σ H' => ∃ (m : List Nat) (c : Nat), σ = [some (.ref p), some (.int most), some (.int deeds), some (.int way), some (.str (S l)), some (.str (S m)), some (.int (0 + i)), some (.str (S [c]))] ∧
            Row m ∧ c ∈ sgns ∧ (∀ c ∈ m, (ix c : Int) < 2 * deeds) ∧ (ix c : Int) < 2 * deeds ∧ m.length ≤ i + 1 ∧ Off p H H' ∧ Pool H' p) →
            tAsg (tOp (fun x y H Q => ∃ i j, x = V.str i ∧ y = V.str j ∧ i.length + j.length ≤ sizeLine ∧ Q (V.str (i ++ j)) H) (tVar 5) (tVar 7)) (gName 5) D
              [some (.ref p), some (.int most), some (.int deeds), some (.int way), some (.str (S l)), some (.str (S m)), some (.int (0 + i)), some (.str (S [c]))] H4 := fun H4 o4 p4 D hD => by
          refine ⟨_, rfl, _, rfl, _, _, rfl, rfl, sz_str (m := [c]) (by omega) (by simp), ?_⟩
          show D.nx _ _
          rw [hD, add_S]
          exact ⟨m ++ [c], c, rfl, row_snoc hm sc, sc, all_snoc im icd, icd, by simp; omega, o4, p4⟩
        walk_at "rd"
        refine ite2 (fun _ => ?_) (fun _ => iteF (add _ (o.trans o3) p3 _ rfl))
        walk_at "rd"
        refine ite2 (fun q => ?_) (fun _ => iteF (add _ (o.trans o3) p3 _ rfl))
        have mne : m ≠ [] := fun e => by
          subst e
          exact absurd q (by decide)
        refine ⟨_, rfl, _, rfl, _, _, rfl, rfl, p, 1 + way, rfl, p3, by omega, by omega, fun u H4 u0 u1 o4 p4 => ?_⟩
        walk_at "rd"
        refine ite2 (fun _ => ?_) (fun _ => add _ ((o.trans o3).trans o4) p4 _ rfl)
        obtain ⟨m, d, rfl⟩ := exists_snoc mne
        have hd : d ∈ sgns := hm d (by simp)
        refine ⟨_, rfl, _, rfl, _, _, d, rfl, rfl, sz_of' (by rw [len_S]; omega), at_last, [d], rfl, (by intro e he; rw [List.mem_singleton.mp he]; exact hd), (by simp), fun H5 s5 => ?_⟩
        refine ⟨_, rfl, _, rfl, _, rfl, _, rfl, sz_of' (by rw [len_S]; omega), ?_⟩
        rw [cut_last]
        refine ⟨m, con d, rfl, (fun e he => hm e (List.mem_append_left _ he)), RowM.con_mem hd, (fun e he => im e (List.mem_append_left _ he)), ?_, by simp at zm; omega, ((o.trans o3).trans o4).trans (off_of s5), p4.same s5⟩
        have := im d (by simp)
        have q := ix_con hd
        omega
      · rintro σ H4 ⟨m, c, rfl, hm, sc, im, icd, zm, o4, p4⟩
        refine ⟨_, rfl, _, rfl, _, _, rfl, rfl, sz_str (m := [c]) (by omega) (by simp), ?_⟩
        rw [add_S]
        exact ⟨l ++ [c], m, _, _, rfl, row_snoc hl sc, hm, all_snoc il icd, im, by simp [zl], zm, o4, p4⟩
    · rintro σ H' ⟨l, m, x, y, rfl, hl, hm, il, im, zl, zm, o, hp⟩
      exact ⟨_, rfl, k l H' hl (by omega) il o hp⟩
theorem sc_law_sum : FnScope ["_law_row_here", "_law_deeds", "_law_found", "_law_sign"] ["_law_row_here", "_law_deeds"] (defScope s_law_sum) := ⟨rfl, rfl, rfl, by decide +kernel, rfl, by decide +kernel, by decide +kernel⟩
theorem ok_law_sum {f : Addr} {fd : FuncData} (F : Fun K "_law_sum" "_law_sum" s_law_sum f fd) (T : Txt K mg C_NoNumber C_NoRow C_NoSign) : FnOk P w K mg base CX0 1 f fd ["_law_row_here", "_law_deeds"] (sp_law_sum) := by
  refine F.ok sc_law_sum (fun vs H Q E h => ?_) (fun cdv A outer s H vs Q E hr h => ?_)
  · obtain ⟨l, d, rfl, _⟩ := h
    all_goals rfl
  · obtain ⟨l, d, rfl, hl, hz, d0, d1, k⟩ := h
    refine ⟨_, (pss_cons (ps_set (i := 2) sc_law_sum.nd rfl (Or.inl rfl) pe_int)
    (pss_cons (ps_for PassesOwn.never rfl (pi_str (pv 0)) (pg_name (i := 3) sc_law_sum.nd rfl (Or.inl rfl)) (pss_one (ps_set (i := 2) sc_law_sum.nd rfl (Or.inl rfl) (pe_op op_add (pe_op op_add (pe_op op_mul (pe_op op_mul (pv 2) pe_int) (pv 1)) (pe_m1 PySem.F.slot_str_index PySem.F.type_str_index mt_sindex pe_str (pv 3))) pe_int))))
    (pss_one (ps_ret (pv 2))))), ?_⟩
    refine ⟨_, rfl, _, rfl, for_it walk_str (fun i σ H' => ∃ x, σ = [some (.str (S l)), some (.int (d : Int)), some (.int ((numR (2 * d) (l.take i) : Nat) : Int)), x] ∧ Same H H') ⟨_, rfl, Same.refl H⟩ (fun _ _ _ _ _ => trivial) ?_ ?_⟩
    · rintro i v σ H3 H4 hi ⟨x, rfl, s3⟩ ⟨rfl, c, hc, rfl⟩
      have hc' : l[i]? = some c := by simpa using hc
      have sc : c ∈ sgns := hl c (List.mem_of_getElem? hc')
      obtain ⟨r, hr⟩ := six1 c sc
      refine Evl.s_asg (v := .int ((numR (2 * d) (l.take (i + 1)) : Nat) : Int)) (Evl.ev_is (Evl.ev_op (Evl.ev_op (Evl.ev_op (Evl.ev_op (Evl.ev_var rfl) Evl.ev_c (Evl.rv_I (.inr ⟨by decide, by decide⟩))) (Evl.ev_var rfl) (Evl.rv_I (.inr ⟨by omega, by omega⟩)))
        (fun H2 e2 Q q => ⟨⟨_, rfl⟩, _, rfl, _, S [c], ix c, r, rfl, rfl, hr, q H2 (Evl.Ex.refl H2)⟩) Evl.rv_I0) Evl.ev_c Evl.rv_I0) ?_) (fun H5 e5 => ⟨_, rfl, Same.trans s3 e5⟩)
      have et : l.take (i + 1) = l.take i ++ [c] := by rw [List.take_add_one, hc']; rfl
      rw [et]
      congr 1
      unfold numR
      rw [NumM.val_snoc, List.length_append, List.length_singleton]
      show _ = ((NumM.ones (2 * d) (l.take i).length * (2 * d) + 1 + _ : Nat) : Int)
      have e1 : ((NumM.ones (2 * d) (l.take i).length + NumM.val (2 * d) (l.take i) : Nat) : Int) * 2 * (d : Int) = (((NumM.ones (2 * d) (l.take i).length + NumM.val (2 * d) (l.take i)) * (2 * d) : Nat) : Int) := by
        rw [Int.natCast_mul, Int.natCast_mul, Int.mul_assoc]
        rfl
      rw [e1, Nat.add_mul]
      omega
    rintro σ H3 ⟨x, rfl, s3⟩
    have et : l.take (S l).length = l := by rw [len_S, List.take_length]
    have z := k H3 s3
    rw [← et] at z
    exact ⟨_, rfl, z⟩
theorem sc_is_row_within : FnScope ["thing", "most", "sign"] ["thing", "most"] (defScope s_is_row_within) := ⟨rfl, rfl, rfl, by decide +kernel, rfl, by decide +kernel, by decide +kernel⟩
theorem ok_is_row_within {f : Addr} {fd : FuncData} (F : Fun K "is_row_within" "is_row_within" s_is_row_within f fd) (T : Txt K mg C_NoNumber C_NoRow C_NoSign) : FnOk P w K mg base CX0 1 f fd ["thing", "most"] (sp_is_row_within) := by
  refine F.ok sc_is_row_within (fun vs H Q E h => ?_) (fun cdv A outer s H vs Q E hr h => ?_)
  · obtain ⟨l, most, rfl, _⟩ := h
    all_goals rfl
  · obtain ⟨l, most, rfl, hz, k⟩ := h
    refine ⟨_, (pss_one (ps_ret (pe_and (pe_callB (call_isiK1 (K := K)) (by rfl) T.b_isinstance (by decide +kernel) (pa_cons (pv 0) (pa_cons (pe_bltn (v := .ty "str") (by rfl) T.b_str (by decide +kernel) rfl) pa_nil))) (pe_and (pe_cmpR op_le (pe_callB call_len_str (by rfl) T.b_len (by decide +kernel) (pa_cons (pv 0) pa_nil)) (pv 1) (nomark _)) (pe_one (pe_callB (cr_allK (K := K) rfl) (by rfl) T.b_all (by decide +kernel) (pa_cons (pe_lc (own := [("sign", 2)]) (g := gName 2) (tt := tYes) rfl sc_is_row_within.nd (pi_str (pv 0)) (blkOk_by (own := [("sign", 2)]) (N := ["thing", "most", "sign"]) (sc := defScope s_is_row_within) (by decide +kernel)) (fun _ _ _ _ _ => (pg_name (i := 2) sc_is_row_within.nd rfl (Or.inl rfl))) (fun _ _ _ _ _ => pts_nil) (fun _ _ _ _ _ => (pe_cmpR op_in_sign (pv 2) (pe_globC T.g_SIGNS) rfl))) pa_nil))))))), ?_⟩
    obtain ⟨u, hu, ru⟩ := T.g_SIGNS
    refine Evl.s_ret (Evl.ev_is (Evl.ev_andV (Evl.ev_isi (Evl.ev_var rfl) Evl.ev_c (.ty "str") (fun _ _ => .base (.str _)) (kit_ty (r := true) (by decide +kernel)))
      (fun _ => Evl.ev_andV (Evl.ev_op (Evl.ev_lenS (Evl.ev_var rfl) (by rw [len_S]; omega)) (Evl.ev_var rfl) Evl.rv_I0)
        (fun _ => Evl.ev_allN (bs := l.map fun c => decide (c ∈ sgns)) (el_is (Evl.el_mapS (fun c => .bl (decide (c ∈ sgns))) (Evl.ev_var rfl) (by rw [len_S]; omega) (fun _ => rfl)
          (fun c H1 e hc => Evl.ev_is (Evl.ev_op (Evl.ev_var rfl) Evl.ev_c Evl.rv_inS) (by rw [decide_eq_decide.mpr (iff_of_eq (sgns_mem c))]))) (by rw [List.map_map]; rfl))))) ?_) fun H1 e => k H1 e
    rw [len_S]
    simp [List.all_map, Function.comp]
theorem sc_is_row : FnScope ["thing"] ["thing"] (defScope s_is_row) := ⟨rfl, rfl, rfl, by decide +kernel, rfl, by decide +kernel, by decide +kernel⟩
theorem ok_is_row {f : Addr} {fd : FuncData} (F : Fun K "is_row" "is_row" s_is_row f fd) (T : Txt K mg C_NoNumber C_NoRow C_NoSign) (kn_is_row_within : KN P w K mg base CX0 1 ["thing", "most"] (sp_is_row_within) "is_row_within" []) : FnOk P w K mg base CX0 2 f fd ["thing"] (sp_is_row) := by
  obtain ⟨f_is_row_within, fd_is_row_within, ds_is_row_within, m_is_row_within, k_is_row_within, v_is_row_within, b_is_row_within, G_is_row_within⟩ := kn_is_row_within
  refine F.ok sc_is_row (fun vs H Q E h => ?_) (fun cdv A outer s H vs Q E hr h => ?_)
  · obtain ⟨l, rfl, _⟩ := h
    all_goals rfl
  · obtain ⟨l, rfl, hz, k⟩ := h
    refine ⟨_, (pss_one (ps_ret (pe_call G_is_row_within (hr.mono (by decide)) rfl m_is_row_within k_is_row_within b_is_row_within v_is_row_within pass0 (pa_cons (pv 0) (pa_cons (pe_globC T.g_MOST_SIGNS) pa_nil))))), ?_⟩
    refine ⟨_, rfl, l, 60, rfl, hz, fun H1 e => ?_⟩
    have q := k H1 e
    unfold isRow at q
    have z : decide ((l.length : Int) ≤ 60) = decide (l.length ≤ 60) := decide_eq_decide.mpr (by omega)
    rw [z]
    exact q
theorem sc_look_at_row : FnScope ["thing"] ["thing"] (defScope s_look_at_row) := ⟨rfl, rfl, rfl, by decide +kernel, rfl, by decide +kernel, by decide +kernel⟩
theorem ok_look_at_row {f : Addr} {fd : FuncData} (F : Fun K "look_at_row" "look_at_row" s_look_at_row f fd) (T : Txt K mg C_NoNumber C_NoRow C_NoSign) (kn_is_row : KN P w K mg base CX0 2 ["thing"] (sp_is_row) "is_row" []) : FnOk P w K mg base CX0 3 f fd ["thing"] (sp_look_at_row) := by
  obtain ⟨f_is_row, fd_is_row, ds_is_row, m_is_row, k_is_row, v_is_row, b_is_row, G_is_row⟩ := kn_is_row
  refine F.ok sc_look_at_row (fun vs H Q E h => ?_) (fun cdv A outer s H vs Q E hr h => ?_)
  · obtain ⟨l, rfl, _⟩ := h
    all_goals rfl
  · obtain ⟨l, rfl, hl, k⟩ := h
    refine ⟨_, (pss_one (ps_if (pt_not (pt_val (pe_call G_is_row (hr.mono (by decide)) rfl m_is_row k_is_row b_is_row v_is_row pass0 (pa_cons (pv 0) pa_nil)))) (pss_one ps_never) pss_nil)), ?_⟩
    have hz := (isRow_iff.mp hl).1
    refine ⟨_, rfl, l, rfl, by omega, fun H1 e => ⟨_, rfl, ?_⟩⟩
    rw [hl]
    exact iteF (k H1 e)
theorem sc_is_whole : FnScope ["thing"] ["thing"] (defScope s_is_whole) := ⟨rfl, rfl, rfl, by decide +kernel, rfl, by decide +kernel, by decide +kernel⟩
theorem ok_is_whole {f : Addr} {fd : FuncData} (F : Fun K "is_whole" "is_whole" s_is_whole f fd) (T : Txt K mg C_NoNumber C_NoRow C_NoSign) : FnOk P w K mg base CX0 1 f fd ["thing"] (sp_is_whole) := by
  refine F.ok sc_is_whole (fun vs H Q E h => ?_) (fun cdv A outer s H vs Q E hr h => ?_)
  · obtain ⟨x, r, rfl, _⟩ := h
    all_goals rfl
  · obtain ⟨x, r, rfl, hx, k⟩ := h
    refine ⟨_, (pss_one (ps_ret (pe_and (pe_callB (call_isiK1 (K := K)) (by rfl) T.b_isinstance (by decide +kernel) (pa_cons (pv 0) (pa_cons (pe_bltn (v := .ty "int") (by rfl) T.b_int (by decide +kernel) rfl) pa_nil))) (pe_one (pe_not (pe_callB (call_isiK1 (K := K)) (by rfl) T.b_isinstance (by decide +kernel) (pa_cons (pv 0) (pa_cons (pe_bltn (v := .ty "bool") (by rfl) T.b_bool (by decide +kernel) rfl) pa_nil)))))))), ?_⟩
    rcases hx with ⟨i, rfl, rfl⟩ | ⟨hx, rfl⟩
    · refine Evl.s_ret (Evl.ev_andV (a := true) (b := true) (Evl.ev_isi (Evl.ev_var rfl) Evl.ev_c (.ty "int") (fun _ _ => .base (.int _)) (kit_ty (r := true) (by decide +kernel)))
        (fun _ => Evl.ev_notV (a := false) (Evl.ev_isi (Evl.ev_var rfl) Evl.ev_c (.ty "bool") (fun _ _ => .base (.int _)) (kit_ty (r := false) (by decide +kernel))))) fun H1 e => k H1 e
    · obtain ⟨t, ht, hk | ⟨hk, hk2⟩⟩ := hx.ty (K := K)
      · exact ⟨_, rfl, x, _, _, _, false, rfl, .ty "int", ht, kit_ty hk, false, rfl, k H (Same.refl H)⟩
      · exact ⟨_, rfl, x, _, _, _, true, rfl, .ty "int", ht, kit_ty hk, true, rfl, ⟨_, rfl, x, _, _, _, true, rfl, .ty "bool", ht, kit_ty hk2, true, rfl, k H (Same.refl H)⟩⟩
theorem sc_NoNumber___init__ : FnScope ["self", "number"] ["self", "number"] (defScope s_NoNumber___init__) := ⟨rfl, rfl, rfl, by decide +kernel, rfl, by decide +kernel, by decide +kernel⟩
theorem ok_NoNumber___init__ {f : Addr} {fd : FuncData} (F : Fun K "__init__" "NoNumber.__init__" s_NoNumber___init__ f fd) (T : Txt K mg C_NoNumber C_NoRow C_NoSign) : FnOk P w K mg base CX0 1 f fd ["self", "number"] (sp_NoNumber___init__ C_NoNumber) := by
  refine F.ok sc_NoNumber___init__ (fun vs H Q E h => ?_) (fun cdv A outer s H vs Q E hr h => ?_)
  · obtain ⟨a, v, rfl, _⟩ := h
    all_goals rfl
  · obtain ⟨a, v, rfl, ha, k⟩ := h
    refine ⟨_, (pss_cons (ps_expr (pe_xi (B := "LookupError") (ni := "LookupError.__new__") (ii := "LookupError.__init__") (bm := [.type "LookupError", .type "Exception", .type "BaseException", .type "object"]) rfl T.b_LookupError (by rfl) (by decide) (by decide) (by kernel_rfl) T.v_LookupError (pa_cons (pv 0) (pa_cons pe_str pa_nil))))
    (pss_one (ps_xs (B := "LookupError") (ni := "LookupError.__new__") (ii := "LookupError.__init__") (bm := [.type "LookupError", .type "Exception", .type "BaseException", .type "object"]) (pv 0) (pv 1)))), ?_⟩
    refine ⟨_, rfl, a, C_NoNumber, [_], rfl, (by show 1 ≤ 1000; decide), T.x_NoNumber.xi, ha, ?_⟩
    exact ⟨_, rfl, _, rfl, a, C_NoNumber, rfl, T.x_NoNumber.xi, taker_none T.y_NoNumber_number, .inl ⟨ha, fun d hd ne => k d hd ne⟩⟩
theorem sc_look_at_deeds : FnScope ["deeds", "most"] ["deeds", "most"] (defScope s_look_at_deeds) := ⟨rfl, rfl, rfl, by decide +kernel, rfl, by decide +kernel, by decide +kernel⟩
theorem ok_look_at_deeds {f : Addr} {fd : FuncData} (F : Fun K "look_at_deeds" "look_at_deeds" s_look_at_deeds f fd) (T : Txt K mg C_NoNumber C_NoRow C_NoSign) (kn_is_whole : KN P w K mg base CX0 1 ["thing"] (sp_is_whole) "is_whole" []) (kn_NoNumber___init__ : KM P w K mg base CX0 1 ["self", "number"] (sp_NoNumber___init__ C_NoNumber) C_NoNumber "__init__" []) : FnOk P w K mg base (L2.CX P w) 3 f fd ["deeds", "most"] (sp_look_at_deeds C_NoNumber) := by
  obtain ⟨f_is_whole, fd_is_whole, ds_is_whole, m_is_whole, k_is_whole, v_is_whole, b_is_whole, G_is_whole⟩ := kn_is_whole
  obtain ⟨f_NoNumber___init__, fd_NoNumber___init__, ds_NoNumber___init__, i_NoNumber___init__, t_NoNumber___init__, v_NoNumber___init__, b_NoNumber___init__, G_NoNumber___init__⟩ := kn_NoNumber___init__
  refine F.okX sc_look_at_deeds (fun vs H Q E h => ?_) (fun cdv A outer s H vs Q E hr h => ?_)
  · obtain ⟨y, m, r, rfl, _⟩ := h
    all_goals rfl
  · obtain ⟨y, m, r, rfl, hy, k⟩ := h
    refine ⟨_, (pss_one (ps_if (PW.pt (pw_or (pt_not (pt_val (pe_call G_is_whole (hr.mono (by decide)) rfl m_is_whole k_is_whole b_is_whole v_is_whole pass0 (pa_cons (pv 0) pa_nil)))) (pw_or1 (pt_not (pt_chain op_le op_le pe_int (pv 0) (pv 1)))))) (pss_one (ps_raise rfl (takes_of rfl rfl rfl rfl) (pmk_xi T.x_NoNumber.xi i_NoNumber___init__ t_NoNumber___init__ G_NoNumber___init__ (hr.mono (by decide)) b_NoNumber___init__ v_NoNumber___init__ pass0 rfl T.x_NoNumber.gC (pa_cons (pv 0) pa_nil)))) pss_nil)), ?_⟩
    obtain ⟨k1, k2⟩ := k
    have no : ∀ H1, Same H H1 → r = false → (tMkO C_NoNumber (sp_NoNumber___init__ C_NoNumber) [] (tCons (tVar 0) tNil)) [some y, some (.int m)] H1 E := fun H1 s1 hr => by
      refine ⟨_, rfl, (by show 1 ≤ 1000; decide), fun a ha => ⟨a, y, rfl, upd_same, fun d hd ne => made1 ha (fun d' H' s' h' => k2 hr d' H' (Same.trans s1 s') h') d hd ne⟩⟩
    rcases hy with ⟨i, rfl, rfl⟩ | ⟨hy, rfl⟩
    · refine ⟨_, rfl, _, true, rfl, .inl ⟨i, rfl, rfl⟩, fun H1 s1 => ⟨true, rfl, iteF ?_⟩⟩
      refine ⟨_, rfl, _, _, rfl, rfl, _, rfl, ?_⟩
      by_cases q : 1 ≤ i
      · rw [decide_eq_true q]
        refine iteT ⟨_, rfl, _, _, rfl, rfl, _, rfl, ?_⟩
        by_cases q2 : i ≤ m
        · rw [decide_eq_true q2]
          exact iteF (k1 (decide_eq_true ⟨q, q2⟩) H1 s1)
        · rw [decide_eq_false q2]
          exact iteT (no H1 s1 (decide_eq_false fun z => q2 z.2))
      · rw [decide_eq_false q]
        exact iteF ⟨false, rfl, iteT (no H1 s1 (decide_eq_false fun z => q z.1))⟩
    · exact ⟨_, rfl, _, false, rfl, .inr ⟨hy, rfl⟩, fun H1 s1 => ⟨false, rfl, iteT (no H1 s1 rfl)⟩⟩
theorem sc_NoSign___init__ : FnScope ["self", "place"] ["self", "place"] (defScope s_NoSign___init__) := ⟨rfl, rfl, rfl, by decide +kernel, rfl, by decide +kernel, by decide +kernel⟩
theorem ok_NoSign___init__ {f : Addr} {fd : FuncData} (F : Fun K "__init__" "NoSign.__init__" s_NoSign___init__ f fd) (T : Txt K mg C_NoNumber C_NoRow C_NoSign) : FnOk P w K mg base CX0 1 f fd ["self", "place"] (sp_NoSign___init__ C_NoSign) := by
  refine F.ok sc_NoSign___init__ (fun vs H Q E h => ?_) (fun cdv A outer s H vs Q E hr h => ?_)
  · obtain ⟨a, v, rfl, _⟩ := h
    all_goals rfl
  · obtain ⟨a, v, rfl, ha, k⟩ := h
    refine ⟨_, (pss_cons (ps_expr (pe_xi (B := "ValueError") (ni := "ValueError.__new__") (ii := "ValueError.__init__") (bm := [.type "ValueError", .type "Exception", .type "BaseException", .type "object"]) rfl T.b_ValueError (by rfl) (by decide) (by decide) (by kernel_rfl) T.v_ValueError (pa_cons (pv 0) (pa_cons pe_str pa_nil))))
    (pss_one (ps_xs (B := "ValueError") (ni := "ValueError.__new__") (ii := "ValueError.__init__") (bm := [.type "ValueError", .type "Exception", .type "BaseException", .type "object"]) (pv 0) (pv 1)))), ?_⟩
    refine ⟨_, rfl, a, C_NoSign, [_], rfl, (by show 1 ≤ 1000; decide), T.x_NoSign.xi, ha, ?_⟩
    exact ⟨_, rfl, _, rfl, a, C_NoSign, rfl, T.x_NoSign.xi, taker_none T.y_NoSign_place, .inl ⟨ha, fun d hd ne => k d hd ne⟩⟩
theorem sc_number_of : FnScope ["row", "deeds", "base", "place", "sign", "found"] ["row", "deeds"] (defScope s_number_of) := ⟨rfl, rfl, rfl, by decide +kernel, rfl, by decide +kernel, by decide +kernel⟩
theorem ok_number_of {f : Addr} {fd : FuncData} (F : FunD K "number_of" "number_of" (defArgs s_number_of) (defBody s_number_of) (defScope s_number_of) [.int 2] [] f fd) (T : Txt K mg C_NoNumber C_NoRow C_NoSign) (kn_look_at_row : KN P w K mg base CX0 3 ["thing"] (sp_look_at_row) "look_at_row" []) (kn_look_at_deeds : KN P w K mg base (L2.CX P w) 3 ["deeds", "most"] (sp_look_at_deeds C_NoNumber) "look_at_deeds" []) (kn_NoSign___init__ : KM P w K mg base CX0 1 ["self", "place"] (sp_NoSign___init__ C_NoSign) C_NoSign "__init__" []) : FnOk P w K mg base (L2.CX P w) 4 f fd ["row", "deeds"] (sp_number_of C_NoSign C_NoNumber) := by
  obtain ⟨f_look_at_row, fd_look_at_row, ds_look_at_row, m_look_at_row, k_look_at_row, v_look_at_row, b_look_at_row, G_look_at_row⟩ := kn_look_at_row
  obtain ⟨f_look_at_deeds, fd_look_at_deeds, ds_look_at_deeds, m_look_at_deeds, k_look_at_deeds, v_look_at_deeds, b_look_at_deeds, G_look_at_deeds⟩ := kn_look_at_deeds
  obtain ⟨f_NoSign___init__, fd_NoSign___init__, ds_NoSign___init__, i_NoSign___init__, t_NoSign___init__, v_NoSign___init__, b_NoSign___init__, G_NoSign___init__⟩ := kn_NoSign___init__
  refine F.ok sc_number_of (fun vs H Q E h => ?_) (fun cdv A outer s H vs Q E hr h => ?_)
  · obtain ⟨l, y, r, o, rfl, _⟩ := h
    all_goals rfl
  · obtain ⟨l, y, r, o, rfl, hl, hy, ho, k⟩ := h
    refine ⟨_, (pss_cons (ps_expr (pe_call G_look_at_row (hr.mono (by decide)) rfl m_look_at_row k_look_at_row b_look_at_row v_look_at_row pass0 (pa_cons (pv 0) pa_nil)))
    (pss_cons (ps_expr (pe_call G_look_at_deeds (hr.mono (by decide)) rfl m_look_at_deeds k_look_at_deeds b_look_at_deeds v_look_at_deeds (passes_call (E := E) (takes_of rfl rfl rfl rfl) (fun _ _ _ _ h => h)) (pa_cons (pv 1) (pa_cons (pe_callB call_len_str (by rfl) T.b_len (by decide +kernel) (pa_cons (pe_globC T.g_DEEDS) pa_nil)) pa_nil))))
    (pss_cons (ps_set (i := 2) sc_number_of.nd rfl (Or.inl rfl) (pe_op op_mul pe_int (pv 1)))
    (pss_cons (ps_for (passes_of rfl) rfl (pi_enumS (by rfl) T.b_enumerate (pa_cons (pv 0) pa_nil)) (pg_tup rfl (pgs_cons (pg_name (i := 3) sc_number_of.nd rfl (Or.inl rfl)) (pgs_cons (pg_name (i := 4) sc_number_of.nd rfl (Or.inl rfl)) pgs_nil))) (pss_one (ps_if (pt_cmpR op_notIn_sign (pv 4) (pe_slice sl_str (pe_globC T.g_SIGNS) po_none (po_some (pv 2))) rfl) (pss_one (ps_raise rfl (takes_of rfl rfl rfl rfl) (pmk_xi T.x_NoSign.xi i_NoSign___init__ t_NoSign___init__ G_NoSign___init__ (hr.mono (by decide)) b_NoSign___init__ v_NoSign___init__ pass0 rfl T.x_NoSign.gC (pa_cons (pv 3) pa_nil)))) pss_nil)))
    (pss_cons (ps_set (i := 5) sc_number_of.nd rfl (Or.inl rfl) pe_int)
    (pss_cons (ps_for (passes_of rfl) rfl (pi_range1 (by rfl) T.b_range (pa_cons (pe_callB call_len_str (by rfl) T.b_len (by decide +kernel) (pa_cons (pv 0) pa_nil)) pa_nil)) (pg_name (i := 3) sc_number_of.nd rfl (Or.inl rfl)) (pss_cons (ps_aug (i := 5) sc_number_of.nd rfl (Or.inl rfl) (pv 2) iop_mul)
    (pss_one (ps_aug (i := 5) sc_number_of.nd rfl (Or.inl rfl) pe_int iop_add))))
    (pss_cons (ps_if (pt_cmpR op_eq (pv 0) pe_str (nomark _)) (pss_one (ps_ret pe_int)) pss_nil)
    (pss_one (ps_ret (pe_op op_add (pv 5) (pe_callTy call_int_base (by rfl) T.b_int (by decide +kernel) (pa_cons (pe_m1 PySem.F.slot_str_join PySem.F.type_str_join (mt_joinK (K := K)) pe_str (pe_lc (own := [("sign", 4)]) (g := gName 4) (tt := tYes) rfl sc_number_of.nd (pi_str (pv 0)) (blkOk_by (own := [("sign", 4)]) (N := ["row", "deeds", "base", "place", "sign", "found"]) (sc := defScope s_number_of) (by decide +kernel)) (fun _ _ _ _ _ => (pg_name (i := 4) sc_number_of.nd rfl (Or.inl rfl))) (fun _ _ _ _ _ => pts_nil) (fun _ _ _ _ _ => (pe_ix ix_str (pe_globC T.g_DIGITS) (pe_m1 PySem.F.slot_str_index PySem.F.type_str_index mt_sindex (pe_globC T.g_SIGNS) (pv 4)) (fun _ _ => rfl))))) (pa_cons (pv 2) pa_nil))))))))))))), ?_⟩
    obtain ⟨zl, rl⟩ := isRow_iff.mp hl
    refine ⟨_, rfl, l, rfl, hl, fun H1 s1 => ?_⟩
    refine ⟨_, rfl, _, rfl, (by decide), y, _, r, rfl, hy.same s1, ⟨fun hr1 H2 s2 => ?_, fun hr1 d' H2 s2 hd => ?_⟩⟩
    rotate_left
    · subst hr1
      cases ho
      exact k d' H2 (Same.trans s1 s2) hd
    subst hr1
    obtain ⟨d, rfl, d0, d1⟩ := hy.yes
    refine ⟨_, rfl, _, _, rfl, rfl, .inl ⟨by decide, by decide⟩, ?_⟩
    have s12 := Same.trans s1 s2
    have e2 : (2 * (d : Int)) = ((2 * d : Nat) : Int) := by omega
    -- no sign of another deed
    refine ⟨_, rfl, _, rfl, for_it walk_enumS (fun i σ H' => ∃ x y z t, σ = [some (.str (S l)), some (.int (d : Int)), some (.int (2 * (d : Int))), x, y, z] ∧ t = () ∧ (∀ j, j < i → ix (l.getD j 0) < 2 * d) ∧ Same H H') ⟨_, _, _, (), rfl, rfl, (fun j h => by omega), s12⟩ (fun _ _ _ _ _ => trivial) ?_ ?_⟩
    · rintro i v σ H3 H4 hi ⟨x, y, z, _, rfl, _, low, s3⟩ ⟨t, c, rfl, nt, rfl, hc⟩
      have hc' : l[i]? = some c := by simpa using hc
      have gc : l.getD i 0 = c := by rw [List.getD_eq_getElem?_getD, hc']; rfl
      have sc : c ∈ sgns := rl c (List.mem_of_getElem? hc')
      have s4 := Same.trans s3 (Same.new (o := .tup [.int (i : Nat), .str ⟨#[c]⟩]) nt)
      refine ⟨t, [_, _], rfl, SqT.of upd_same, rfl, _, _, rfl, _, _, rfl, rfl, ?_⟩
      refine Evl.s_if (Evl.et_test (Evl.ev_op (Evl.ev_var rfl) (Evl.ev_slS Evl.ev_c Evl.eo_none (Evl.eo_some (Evl.ev_var rfl)) (by decide)) Evl.rv_niS)) (fun q H5 e5 => ?_) (fun q H5 e5 => ?_)
      · have q2 : (!decide (c ∈ (cutS (Str.ofString "aAbBcCdDeEfF") none (some (2 * (d : Int)))).cps.toList)) = true := q
        rw [sgns_S, e2, cut_to (by show 2 * d ≤ 12; omega)] at q2
        have q3 : ¬ c ∈ sgns.take (2 * d) := by simpa using q2
        rw [mem_take sc] at q3
        have il : i < l.length := (List.getElem?_eq_some_iff.mp hc').1
        have eo : o = .sign i := by
          cases ho with
          | low d' h g =>
            injection h with h
            obtain rfl : d = d' := by omega
            exact absurd (g c (List.mem_of_getElem? hc')) q3
          | sign d' p h hp b g =>
            injection h with h
            obtain rfl : d = d' := by omega
            rcases Nat.lt_trichotomy p i with w | rfl | w
            · exact absurd (low p w) g
            · rfl
            · exact absurd (gc ▸ b i w) q3
        subst eo
        refine ⟨_, rfl, (by show 1 ≤ 1000; decide), fun a ha => ⟨a, _, rfl, upd_same, fun d' hd ne => made1 ha (fun d'' H' s' h' => k d'' H' (Same.trans (Same.trans s4 e5) s') h') d' hd ne⟩⟩
      · have q2 : (!decide (c ∈ (cutS (Str.ofString "aAbBcCdDeEfF") none (some (2 * (d : Int)))).cps.toList)) = false := q
        rw [sgns_S, e2, cut_to (by show 2 * d ≤ 12; omega)] at q2
        have q3 : c ∈ sgns.take (2 * d) := by simpa using q2
        rw [mem_take sc] at q3
        refine ⟨_, _, _, (), rfl, rfl, fun j hj => ?_, Same.trans s4 e5⟩
        rcases Nat.lt_succ_iff_lt_or_eq.mp hj with w | rfl
        · exact low j w
        · rw [gc]; exact q3
    rintro σ H3 ⟨x, y, z, _, rfl, _, alow, s3⟩
    have low : Low (2 * d) l := fun c hc => by
      obtain ⟨j, hj, e⟩ := List.getElem_of_mem hc
      have := alow j (by show j < (S l).length; rw [len_S]; exact hj)
      rw [List.getD_eq_getElem?_getD, List.getElem?_eq_getElem hj] at this
      simpa [e] using this
    have eo : o = .told (.int ((numR (2 * d) l : Nat) : Int)) := by
      cases ho with
      | low d' h g =>
        injection h with h
        obtain rfl : d = d' := by omega
        rfl
      | sign d' p h hp b g =>
        injection h with h
        obtain rfl : d = d' := by omega
        exact absurd (alow p (by show p < (S l).length; rw [len_S]; exact hp)) g
    subst eo
    -- how many rows are shorter
    refine ⟨_, rfl, _, rfl, sz_of' (by rw [len_S]; omega), _, rfl, (by rw [len_S]; omega), (by rw [len_S]; omega), for_range (lo := 0) (n := _) (fun i σ H' => ∃ x y, σ = [some (.str (S l)), some (.int (d : Int)), some (.int (2 * (d : Int))), x, y, some (.int (NumM.ones (2 * d) i : Nat))] ∧ Same H H') ⟨_, _, rfl, s3⟩ ?_ ?_⟩
    · rintro i σ H4 hi ⟨x, y, rfl, s4⟩
      refine ⟨_, rfl, _, rfl, _, _, rfl, rfl, .inr ⟨by omega, by omega⟩, _, rfl, _, _, rfl, rfl, ?_⟩
      have e : ((NumM.ones (2 * d) i : Nat) : Int) * (2 * (d : Int)) + 1 = ((NumM.ones (2 * d) (i + 1) : Nat) : Int) := by
        show _ = ((NumM.ones (2 * d) i * (2 * d) + 1 : Nat) : Int)
        rw [Int.natCast_add, Int.natCast_mul, Int.natCast_mul]
        rfl
      exact ⟨some (.int (0 + i)), y, (by rw [← e]; rfl), s4⟩
    rintro σ H4 ⟨x, y, rfl, s4⟩
    have en : (((S l).length : Nat) : Int).toNat = l.length := by rw [len_S]; simp
    rw [en]
    refine Evl.q_when (Evl.et_test (Evl.ev_op (Evl.ev_var rfl) Evl.ev_c (Evl.rv_eq rfl))) (fun q H5 e5 => ?_) (fun q H5 e5 => ?_)
    · have q2 : V.str (S l) = V.str (Str.ofString "") := of_decide_eq_true q
      have q3 : l = [] := by
        have h2 : l = (Str.ofString "").cps.toList := congrArg (fun v => match v with | V.str z => z.cps.toList | _ => []) q2
        exact h2.trans (by decide)
      subst q3
      have z := k H5 (Same.trans s4 e5)
      rw [NumM.num_nil] at z
      exact z
    · have ne : l ≠ [] := fun e => by
        subst e
        exact absurd q (by decide)
      have ej : Evl.Ev (tM1 (rJoinK K) (tC (V.str (Str.ofString ""))) (tLc (iStr (tVar 0)) (gName 4) tYes (tOp rIxS (tC (V.str (Str.ofString "0123456789ab"))) (tM1 (fun x xs H Q => ∃ a b i rest, x = .str a ∧ xs = [.str b] ∧ Builtin.Str.occurrences a b 0 a.length 1 = i :: rest ∧ Q (.int (i : Nat)) H) (tC (V.str (Str.ofString "aAbBcCdDeEfF"))) (tVar 4))) [4]))
          [some (.str (S l)), some (.int (d : Int)), some (.int (2 * (d : Int))), x, y, some (.int (NumM.ones (2 * d) l.length : Nat))] H5 (.str (S (l.map dg))) := by
        refine ev_joinMap (s := S l) dg Evl.ev_c (by decide) (Evl.ev_var rfl) (by rw [len_S]; omega) (fun _ => rfl) (fun c H1 e hc => ?_)
        have sc : c ∈ sgns := rl c hc
        obtain ⟨r, hr⟩ := six1 c sc
        refine Evl.ev_op Evl.ev_c (y := .int (ix c : Nat)) ?_ (Evl.rv_ixS (by decide) (atI_nat (dg_at c sc)))
        exact fun H2 e2 Q q => ⟨⟨_, rfl⟩, _, rfl, _, S [c], ix c, r, rfl, rfl, hr, q H2 (Evl.Ex.refl H2)⟩
      refine Evl.s_ret (v := .int (((NumM.ones (2 * d) l.length : Nat) : Int) + ((Db.num (2 * d) (l.map dg) : Nat) : Int))) (Evl.ev_op (Evl.ev_var rfl) (Evl.ev_cb (Evl.ea_cons ej (Evl.ea_cons (Evl.ev_var rfl) Evl.ea_nil)) (fun H6 e6 Q q => ⟨S (l.map dg), 2 * d, (by rw [Int.natCast_mul]; rfl), base_is d0 d1, (by simpa using ne), (by rw [len_S, List.length_map]; omega), (fun c hc => by
          have hc' : c ∈ l.map dg := hc
          obtain ⟨b, hb, rfl⟩ := List.mem_map.mp hc'
          exact ⟨dg_rng b (rl b hb), by rw [dg_dv b (rl b hb)]; exact low b hb⟩), q H6 (Evl.Ex.refl H6)⟩)) Evl.rv_I0) fun H6 e6 => ?_
      have z := k H6 (Same.trans s4 (Same.trans e5 e6))
      rw [num_dg rl]
      unfold numR at z
      rw [Int.natCast_add] at z
      exact z
theorem sc_row_at : FnScope ["number", "deeds", "base", "left", "many", "length", "found", "place"] ["number", "deeds"] (defScope s_row_at) := ⟨rfl, rfl, rfl, by decide +kernel, rfl, by decide +kernel, by decide +kernel⟩
theorem ok_row_at {f : Addr} {fd : FuncData} (F : FunD K "row_at" "row_at" (defArgs s_row_at) (defBody s_row_at) (defScope s_row_at) [.int 2] [] f fd) (T : Txt K mg C_NoNumber C_NoRow C_NoSign) (kn_look_at_deeds : KN P w K mg base (L2.CX P w) 3 ["deeds", "most"] (sp_look_at_deeds C_NoNumber) "look_at_deeds" []) (kn_is_whole : KN P w K mg base CX0 1 ["thing"] (sp_is_whole) "is_whole" []) (kn_NoNumber___init__ : KM P w K mg base CX0 1 ["self", "number"] (sp_NoNumber___init__ C_NoNumber) C_NoNumber "__init__" []) : FnOk P w K mg base (L2.CX P w) 4 f fd ["number", "deeds"] (sp_row_at C_NoSign C_NoNumber) := by
  obtain ⟨f_look_at_deeds, fd_look_at_deeds, ds_look_at_deeds, m_look_at_deeds, k_look_at_deeds, v_look_at_deeds, b_look_at_deeds, G_look_at_deeds⟩ := kn_look_at_deeds
  obtain ⟨f_is_whole, fd_is_whole, ds_is_whole, m_is_whole, k_is_whole, v_is_whole, b_is_whole, G_is_whole⟩ := kn_is_whole
  obtain ⟨f_NoNumber___init__, fd_NoNumber___init__, ds_NoNumber___init__, i_NoNumber___init__, t_NoNumber___init__, v_NoNumber___init__, b_NoNumber___init__, G_NoNumber___init__⟩ := kn_NoNumber___init__
  refine F.ok sc_row_at (fun vs H Q E h => ?_) (fun cdv A outer s H vs Q E hr h => ?_)
  · obtain ⟨x, y, r, o, rfl, _⟩ := h
    all_goals rfl
  · obtain ⟨x, y, r, o, rfl, hx, hy, ho, k⟩ := h
    refine ⟨_, (pss_cons (ps_expr (pe_call G_look_at_deeds (hr.mono (by decide)) rfl m_look_at_deeds k_look_at_deeds b_look_at_deeds v_look_at_deeds (passes_call (E := E) (takes_of rfl rfl rfl rfl) (fun _ _ _ _ h => h)) (pa_cons (pv 1) (pa_cons (pe_callB call_len_str (by rfl) T.b_len (by decide +kernel) (pa_cons (pe_globC T.g_DEEDS) pa_nil)) pa_nil))))
    (pss_cons (ps_if (PW.pt (pw_or (pt_not (pt_val (pe_call G_is_whole (hr.mono (by decide)) rfl m_is_whole k_is_whole b_is_whole v_is_whole pass0 (pa_cons (pv 0) pa_nil)))) (pw_or1 (pt_cmpR op_lt (pv 0) pe_int (nomark _))))) (pss_one (ps_raise rfl (takes_of rfl rfl rfl rfl) (pmk_xi T.x_NoNumber.xi i_NoNumber___init__ t_NoNumber___init__ G_NoNumber___init__ (hr.mono (by decide)) b_NoNumber___init__ v_NoNumber___init__ pass0 rfl T.x_NoNumber.gC (pa_cons (pv 0) pa_nil)))) pss_nil)
    (pss_cons (ps_set (i := 2) sc_row_at.nd rfl (Or.inl rfl) (pe_op op_mul pe_int (pv 1)))
    (pss_cons (ps_par3 (i := 3) (j := 4) (l := 5) rfl sc_row_at.nd rfl rfl rfl (by decide) (by decide) (by decide) rfl rfl rfl (pa_cons (pv 0) (pa_cons pe_int (pa_cons pe_int pa_nil))) (by rfl))
    (pss_cons (ps_while (passes_of rfl) (pt_cmpR op_ge (pv 3) (pv 4) (nomark _)) (pss_cons (ps_aug (i := 3) sc_row_at.nd rfl (Or.inl rfl) (pv 4) iop_sub)
    (pss_cons (ps_aug (i := 4) sc_row_at.nd rfl (Or.inl rfl) (pv 2) iop_mul)
    (pss_cons (ps_aug (i := 5) sc_row_at.nd rfl (Or.inl rfl) pe_int iop_add)
    (pss_one (ps_if (pt_cmpR op_gt (pv 5) (pe_globC T.g_MOST_SIGNS) (nomark _)) (pss_one (ps_raise rfl (takes_of rfl rfl rfl rfl) (pmk_xi T.x_NoNumber.xi i_NoNumber___init__ t_NoNumber___init__ G_NoNumber___init__ (hr.mono (by decide)) b_NoNumber___init__ v_NoNumber___init__ pass0 rfl T.x_NoNumber.gC (pa_cons (pv 0) pa_nil)))) pss_nil))))))
    (pss_cons (ps_set (i := 6) sc_row_at.nd rfl (Or.inl rfl) pe_str)
    (pss_cons (ps_for (passes_of rfl) rfl (pi_range1 (by rfl) T.b_range (pa_cons (pv 5) pa_nil)) (pg_name (i := 7) sc_row_at.nd rfl (Or.inl rfl)) (pss_cons (ps_set (i := 6) sc_row_at.nd rfl (Or.inl rfl) (pe_op op_add_str (pe_ix ix_str (pe_globC T.g_SIGNS) (pe_op op_mod (pv 3) (pv 2)) (fun _ _ => rfl)) (pv 6)))
    (pss_one (ps_aug (i := 3) sc_row_at.nd rfl (Or.inl rfl) (pv 2) iop_fdiv))))
    (pss_one (ps_ret (pv 6)))))))))), ?_⟩
    have no : ∀ (H1 : Hp) (σ : L2.St), Same H H1 → σ[0]? = some (some x) → o = .number x → (tMkO C_NoNumber (sp_NoNumber___init__ C_NoNumber) [] (tCons (tVar 0) tNil)) σ H1 E := fun H1 σ s1 h0 eo => by
      subst eo
      exact ⟨_, h0, (by show 1 ≤ 1000; decide), fun a ha => ⟨a, x, rfl, upd_same, fun d hd ne => made1 ha (fun d' H' s' h' => k d' H' (Same.trans s1 s') h') d hd ne⟩⟩
    refine ⟨_, rfl, _, rfl, (by decide), y, _, r, rfl, hy, ⟨fun hr1 H1 s1 => ?_, fun hr1 d' H1 s1 hd => ?_⟩⟩
    rotate_left
    · subst hr1
      cases ho
      exact k d' H1 s1 hd
    subst hr1
    obtain ⟨d, rfl, d0, d1⟩ := hy.yes
    rcases hx with ⟨i, rfl⟩ | hx
    rotate_left
    · have eo : o = .number x := by
        cases ho with
        | odd h => rfl
        | row d' n l h hx' rl hz g e =>
          subst hx'
          rcases hx with h | ⟨_, h⟩ | ⟨_, h⟩ | ⟨_, h, _⟩
          all_goals cases h
      exact ⟨_, rfl, x, false, rfl, .inr ⟨hx.same s1, rfl⟩, fun H2 s2 => ⟨false, rfl, iteT (no H2 _ (Same.trans s1 s2) rfl eo)⟩⟩
    refine ⟨_, rfl, .int i, true, rfl, .inl ⟨i, rfl, rfl⟩, fun H2 s2 => ⟨_, rfl, iteF ?_⟩⟩
    refine ⟨_, rfl, _, _, rfl, rfl, _, rfl, ?_⟩
    by_cases neg : i < 0
    · rw [decide_eq_true neg]
      refine iteT (no H2 _ (Same.trans s1 s2) rfl ?_)
      cases ho with
      | odd h => rfl
      | row d' n l h hx rl hz g e => injection hx with hx; omega
    rw [decide_eq_false neg]
    refine iteF ?_
    obtain ⟨n, rfl⟩ : ∃ n : Nat, i = (n : Int) := ⟨i.toNat, by omega⟩
    refine ⟨_, rfl, _, _, rfl, rfl, .inl ⟨by decide, by decide⟩, ?_⟩
    refine ⟨_, rfl, _, _, _, rfl, ?_⟩
    have eb : (2 * (d : Int)) = ((2 * d : Nat) : Int) := by omega
    refine Evl.q_while (fun m σ H' => ∃ (len left : Nat) (x y : Option V), σ = [some (.int (n : Int)), some (.int (d : Int)), some (.int (2 * (d : Int))), some (.int (left : Int)), some (.int (((2 * d) ^ len : Nat) : Int)), some (.int (len : Int)), x, y] ∧
        left + NumM.ones (2 * d) len = n ∧ len ≤ 60 ∧ m = 61 - len ∧ Same H H') 61 ⟨0, n, none, none, rfl, by simp [NumM.ones], by omega, rfl, Same.trans s1 s2⟩ ?_
    rintro m σ H3 ⟨len, left, x, y, rfl, hl, h60, rfl, s3⟩
    refine ⟨_, Evl.et_test (Evl.ev_op (Evl.ev_var rfl) (Evl.ev_var rfl) Evl.rv_I0), fun q H4 e4 => ?_, fun q H4 e4 => ?_⟩
    · have q2 : (2 * d) ^ len ≤ left := by
        have := of_decide_eq_true q
        omega
      have op := NumM.ones_pow (2 * d) len
      refine ⟨_, fun σ2 H2 h => ⟨61 - (len + 1), by omega, h⟩, ?_⟩
      refine ⟨_, rfl, _, rfl, _, _, rfl, rfl, _, rfl, _, rfl, _, _, rfl, rfl, .inr ⟨by omega, by omega⟩, _, rfl, _, _, rfl, rfl, ?_⟩
      have es : (left : Int) - (((2 * d) ^ len : Nat) : Int) = ((left - (2 * d) ^ len : Nat) : Int) := by omega
      have em : (((2 * d) ^ len : Nat) : Int) * (2 * (d : Int)) = (((2 * d) ^ (len + 1) : Nat) : Int) := by
        rw [Nat.pow_succ, Int.natCast_mul ((2 * d) ^ len), eb]
      refine ⟨_, rfl, _, _, rfl, rfl, _, rfl, ?_⟩
      by_cases l60 : len + 1 ≤ 60
      rotate_left
      · have nl : decide ((60 : Int) < (len : Int) + 1) = true := decide_eq_true (by omega)
        rw [nl]
        refine iteT (no _ _ (Same.trans s3 e4) rfl ?_)
        have op60 : NumM.ones (2 * d) 61 = NumM.ones (2 * d) 60 + (2 * d) ^ 60 := NumM.ones_pow _ 60
        obtain rfl : len = 60 := by omega
        cases ho with
        | odd h => rfl
        | row d' n' l h hx rl hz g e =>
          injection h with h
          injection hx with hx
          obtain rfl : d = d' := by omega
          obtain rfl : n = n' := by omega
          have z1 := NumM.num_lt_ones g
          have z2 := NumM.ones_mono (2 * d) (show l.length + 1 ≤ 61 by omega)
          omega
      have nl : decide ((60 : Int) < (len : Int) + 1) = false := decide_eq_false (by omega)
      rw [nl]
      refine iteF ⟨len + 1, left - (2 * d) ^ len, x, y, ?_, by omega, l60, rfl, Same.trans s3 e4⟩
      rw [← es, ← em]
      rfl
    have q2 : left < (2 * d) ^ len := by
      have := of_decide_eq_false q
      omega
    refine ⟨_, rfl, _, rfl, by omega, by omega, for_range (lo := 0) (n := _) (fun i σ H' => ∃ (l : List Nat) (r : Nat) (z : Option V), σ = [some (.int (n : Int)), some (.int (d : Int)), some (.int (2 * (d : Int))), some (.int (r : Int)), some (.int (((2 * d) ^ len : Nat) : Int)), some (.int (len : Int)), some (.str (S l)), z] ∧
        Row l ∧ Low (2 * d) l ∧ l.length = i ∧ NumM.val (2 * d) l + r * (2 * d) ^ i = left ∧ Same H H') ⟨[], left, y, rfl, RowM.nil_row, (by intro c q; cases q), rfl, by simp [NumM.val], Same.trans s3 e4⟩ ?_ ?_⟩
    · rintro i σ H5 hi ⟨l, r, z, rfl, rl, low, zl, hv, s5⟩
      have b0 : (0 : Int) < 2 * (d : Int) := by omega
      obtain ⟨c, hc, sc, ic⟩ := sign_of_at (i := (r : Int) % (2 * (d : Int))) (Int.emod_nonneg _ (by omega)) (by have := Int.emod_lt_of_pos (r : Int) b0; omega) rfl
      refine ⟨_, rfl, _, rfl, _, _, rfl, rfl, b0, _, _, c, rfl, rfl, (by decide), hc, _, rfl, _, _, rfl, rfl, sz_str (l := [c]) (by simp) (by omega), ?_⟩
      rw [add_S]
      refine ⟨_, rfl, _, rfl, _, _, rfl, rfl, ⟨b0, by omega⟩, ?_⟩
      have ic2 : ix c = r % (2 * d) := by
        have : ((r % (2 * d) : Nat) : Int) = (r : Int) % (2 * (d : Int)) := by rw [eb]; exact Int.natCast_emod ..
        omega
      have ed : (r : Int) / (2 * (d : Int)) = ((r / (2 * d) : Nat) : Int) := by rw [eb]; exact (Int.natCast_ediv ..).symm
      refine ⟨[c] ++ l, r / (2 * d), some (.int (0 + i)), (by rw [← ed]; rfl), (fun e he => ?_), (fun e he => ?_), (by simp [zl]), ?_, s5⟩
      · rcases List.mem_cons.mp he with rfl | he
        · exact sc
        · exact rl e he
      · rcases List.mem_cons.mp he with rfl | he
        · rw [ic2]; exact Nat.mod_lt _ (by omega)
        · exact low e he
      · show NumM.val (2 * d) (c :: l) + _ = left
        rw [NumM.val_cons, zl, ic2, Nat.pow_succ, ← hv]
        have e1 : r / (2 * d) * ((2 * d) ^ i * (2 * d)) = (2 * d) * (r / (2 * d)) * (2 * d) ^ i := by
          rw [Nat.mul_comm ((2 * d) ^ i), ← Nat.mul_assoc, Nat.mul_comm (r / (2 * d))]
        have e2 : r * (2 * d) ^ i = (2 * d) * (r / (2 * d)) * (2 * d) ^ i + r % (2 * d) * (2 * d) ^ i := by
          rw [← Nat.add_mul, Nat.div_add_mod]
        omega
    · rintro σ H5 ⟨l, r, z, rfl, rl, low, zl, hv, s5⟩
      have zl2 : l.length = len := by rw [zl]; simp
      have el : ((len : Int)).toNat = len := by simp
      rw [el] at hv
      have r0 : r = 0 := by
        by_cases h : r = 0
        · exact h
        · have : 1 * (2 * d) ^ len ≤ r * (2 * d) ^ len := Nat.mul_le_mul_right _ (by omega)
          omega
      subst r0
      have en : numR (2 * d) l = n := by
        unfold numR
        rw [zl2]
        omega
      have n61 : n < NumM.ones (2 * d) 61 := by
        have z1 := NumM.num_lt_ones low
        have z2 := NumM.ones_mono (2 * d) (show l.length + 1 ≤ 61 by omega)
        omega
      have eo : o = .told (.str (S l)) := by
        cases ho with
        | odd h => exact absurd n61 (h d n rfl rfl)
        | row d' n' l' h hx rl' hz g e =>
          injection h with h
          injection hx with hx
          obtain rfl : d = d' := by omega
          obtain rfl : n = n' := by omega
          rw [NumM.num_inj rl rl' low g (en.trans e.symm)]
      subst eo
      exact ⟨_, rfl, k H5 s5⟩
theorem sc_law_told : FnScope ["_law_door", "_law_thing", "_law_deeds", "_law_found", "e"] ["_law_door", "_law_thing", "_law_deeds"] (defScope s_law_told) := ⟨rfl, rfl, rfl, by decide +kernel, rfl, by decide +kernel, by decide +kernel⟩
theorem ok_law_told {f : Addr} {fd : FuncData} (F : Fun K "_law_told" "_law_told" s_law_told f fd) (T : Txt K mg C_NoNumber C_NoRow C_NoSign) (kn_number_of_d1 : KN P w K mg base (L2.CX P w) 4 ["row", "deeds"] (sp_number_of C_NoSign C_NoNumber) "number_of" [.int 2]) (kn_number_of : KN P w K mg base (L2.CX P w) 4 ["row", "deeds"] (sp_number_of C_NoSign C_NoNumber) "number_of" []) (kn_row_at_d1 : KN P w K mg base (L2.CX P w) 4 ["number", "deeds"] (sp_row_at C_NoSign C_NoNumber) "row_at" [.int 2]) (kn_row_at : KN P w K mg base (L2.CX P w) 4 ["number", "deeds"] (sp_row_at C_NoSign C_NoNumber) "row_at" []) : FnOk P w K mg base CX0 5 f fd ["_law_door", "_law_thing", "_law_deeds"] (sp_law_told C_NoSign C_NoNumber) := by
  obtain ⟨f_number_of_d1, fd_number_of_d1, ds_number_of_d1, m_number_of_d1, k_number_of_d1, v_number_of_d1, b_number_of_d1, G_number_of_d1⟩ := kn_number_of_d1
  obtain ⟨f_number_of, fd_number_of, ds_number_of, m_number_of, k_number_of, v_number_of, b_number_of, G_number_of⟩ := kn_number_of
  obtain ⟨f_row_at_d1, fd_row_at_d1, ds_row_at_d1, m_row_at_d1, k_row_at_d1, v_row_at_d1, b_row_at_d1, G_row_at_d1⟩ := kn_row_at_d1
  obtain ⟨f_row_at, fd_row_at, ds_row_at, m_row_at, k_row_at, v_row_at, b_row_at, G_row_at⟩ := kn_row_at
  refine F.ok sc_law_told (fun vs H Q E h => ?_) (fun cdv A outer s H vs Q E hr h => ?_)
  · obtain ⟨i, x, y, r, o, rfl, _⟩ := h
    all_goals rfl
  · obtain ⟨i, x, y, r, o, rfl, hi, hy, hs, k⟩ := h
    refine ⟨_, (pss_cons (ps_try_ls sc_law_told.nd rfl rfl takes0
    (fun W pn xe tk po => (pss_one (ps_if (PW.pt (pw_and (pt_cmpR op_eq (pv 0) pe_int (nomark _)) (pw_and1 (pt_cmpR (op_eqDK (K := K) hr.units) (pv 2) pe_int (nomark _))))) (pss_one (ps_set (i := 3) sc_law_told.nd rfl (Or.inl rfl) (pe_lst (pa_cons pe_str (pa_cons (pe_callSD G_number_of_d1 (hr.mono (by decide)) rfl m_number_of_d1 k_number_of_d1 b_number_of_d1 v_number_of_d1 (fun σ => passAt tk σ) (by exact (pa_cons (pv 1) pa_nil))) pa_nil))))) (pss_one (ps_if (pt_cmpR op_eq (pv 0) pe_int (nomark _)) (pss_one (ps_set (i := 3) sc_law_told.nd rfl (Or.inl rfl) (pe_lst (pa_cons pe_str (pa_cons (pe_callSD G_number_of (hr.mono (by decide)) rfl m_number_of k_number_of b_number_of v_number_of (fun σ => passAt tk σ) (by exact (pa_cons (pv 1) (pa_cons (pv 2) pa_nil)))) pa_nil))))) (pss_one (ps_if (pt_cmpR (op_eqDK (K := K) hr.units) (pv 2) pe_int (nomark _)) (pss_one (ps_set (i := 3) sc_law_told.nd rfl (Or.inl rfl) (pe_lst (pa_cons pe_str (pa_cons (pe_callSD G_row_at_d1 (hr.mono (by decide)) rfl m_row_at_d1 k_row_at_d1 b_row_at_d1 v_row_at_d1 (fun σ => passAt tk σ) (by exact (pa_cons (pv 1) pa_nil))) pa_nil))))) (pss_one (ps_set (i := 3) sc_law_told.nd rfl (Or.inl rfl) (pe_lst (pa_cons pe_str (pa_cons (pe_callSD G_row_at (hr.mono (by decide)) rfl m_row_at k_row_at b_row_at v_row_at (fun σ => passAt tk σ) (by exact (pa_cons (pv 1) (pa_cons (pv 2) pa_nil)))) pa_nil))))))))))))
    (.named (i := 4) rfl rfl ⟨rfl, by decide, Or.inl T.x_NoSign.gC⟩ (fun a oe cls d pn hz hf => (pss_cons (ps_set (i := 3) sc_law_told.nd rfl (Or.inl rfl) (pe_lst (pa_cons pe_str (pa_cons (pe_xf T.x_NoSign.xf T.y_NoSign_place hz hf (pv 4)) pa_nil))))
    (pss_one (ps_if (PW.pt (pw_or (pt_not (pt_val (pe_callB (call_isX (K := K) hz hf) (by rfl) T.b_isinstance (by decide +kernel) (pa_cons (pv 4) (pa_cons (pe_bltn (v := .ty "ValueError") (by rfl) T.b_ValueError (by decide +kernel) rfl) pa_nil))))) (pw_or1 (pt_val (pe_callB (call_isXT (K := K) hz hf) (by rfl) T.b_isinstance (by decide +kernel) (pa_cons (pv 4) (pa_cons (pe_tup (pa_cons (pe_bltn (v := .ty "LookupError") (by rfl) T.b_LookupError (by decide +kernel) rfl) (pa_cons (pe_glob (v := .ref C_NoRow) rfl T.x_NoRow.gC rfl) pa_nil))) pa_nil))))))) (pss_one (ps_set (i := 3) sc_law_told.nd rfl (Or.inl rfl) (pe_lst (pa_cons pe_str pa_nil)))) pss_nil))))
    (.named (i := 4) rfl rfl ⟨rfl, by decide, Or.inl T.x_NoNumber.gC⟩ (fun a oe cls d pn hz hf => (pss_cons (ps_set (i := 3) sc_law_told.nd rfl (Or.inl rfl) (pe_lst (pa_cons pe_str (pa_cons (pe_xf T.x_NoNumber.xf T.y_NoNumber_number hz hf (pv 4)) pa_nil))))
    (pss_one (ps_if (PW.pt (pw_or (pt_not (pt_val (pe_callB (call_isX (K := K) hz hf) (by rfl) T.b_isinstance (by decide +kernel) (pa_cons (pv 4) (pa_cons (pe_bltn (v := .ty "LookupError") (by rfl) T.b_LookupError (by decide +kernel) rfl) pa_nil))))) (pw_or1 (pt_val (pe_callB (call_isXT (K := K) hz hf) (by rfl) T.b_isinstance (by decide +kernel) (pa_cons (pv 4) (pa_cons (pe_tup (pa_cons (pe_bltn (v := .ty "KeyError") (by rfl) T.b_KeyError (by decide +kernel) rfl) (pa_cons (pe_bltn (v := .ty "IndexError") (by rfl) T.b_IndexError (by decide +kernel) rfl) pa_nil))) pa_nil))))))) (pss_one (ps_set (i := 3) sc_law_told.nd rfl (Or.inl rfl) (pe_lst (pa_cons pe_str pa_nil)))) pss_nil))))
    .nil)))
    (pss_one (ps_ret (pv 3)))), ?_⟩
    -- the two suites
    have sg : ∀ (p : Nat) (a d : Addr) (H1 : Hp) (D : Ends), o = .sign p → Same H H1 → H1 d = some (.xd [(Str.ofString "place", .int (p : Int))]) → (∀ q H2, Same H H2 → H q = none → H2 q = some (.lst (outV o)) → D.nx [some (.int i), some x, some y, some (.ref q), some (.ref a)] H2) →
        tSeq (tAsg (tLst (tCons (tC (V.str (Str.ofString "sign"))) (tCons (tXf a (.ref C_NoSign) (some d) C_NoSign (Str.ofString "place") (tVar 4)) tNil))) (gName 3)) (tIfS (tOr (tNot (tB (tCB (rIsX K a (.ref C_NoSign) (some d)) (tCons (tVar 4) (tCons (tC (V.ty "ValueError")) tNil))))) (tB (tCB (rIsXT K a (.ref C_NoSign) (some d)) (tCons (tVar 4) (tCons (tTup (tCons (tC (V.ty "LookupError")) (tCons (tC (V.ref C_NoRow)) tNil))) tNil))))) (tAsg (tLst (tCons (tC (V.str (Str.ofString "other"))) tNil)) (gName 3)) tNext)
          D [some (.int i), some x, some y, none, some (.ref a)] H1 := fun p a d H1 D eo s1 hd hD => by
      subst eo
      refine ⟨_, rfl, rfl, rfl, d, _, _, rfl, hd, rfl, (by show 2 ≤ sizeLine; decide), fun q hq => ?_⟩
      have hd2 := Same.new (o := .lst [.str (Str.ofString "sign"), .int (p : Int)]) hq _ _ hd
      refine ⟨_, rfl, C_NoSign, _, _, true, ⟨rfl, .inr ⟨d, _, rfl, hd2⟩, T.x_NoSign.ok⟩, rfl, .ty "ValueError", kit_exT T.s1, true, rfl, iteF ?_⟩
      refine ⟨_, rfl, (by show 2 ≤ sizeLine; decide), fun t ht => ⟨C_NoSign, t, _, _, false, ⟨rfl, .inr ⟨d, _, rfl, Same.new ht _ _ hd2⟩, T.x_NoSign.ok⟩, rfl, upd_same, .cons (.ty _) (.cons (.own _) .nil), kitAny_cons (kit_exT T.s2) (fun _ => kitAny_cons (kit_exC T.s3 T.x_NoRow.iC T.x_NoRow.tC T.x_NoRow.sC) (fun _ => kitAny_nil) (fun h => nomatch h)) (fun h => nomatch h), false, rfl, iteF ?_⟩⟩
      exact hD q _ (Same.trans s1 (Same.trans (Same.new hq) (Same.new ht))) (Same.free s1 hq) (by rw [upd_ne (ne_of_none upd_same ht)]; exact upd_same)
    have sn : ∀ (v : V) (a d : Addr) (H1 : Hp) (D : Ends), o = .number v → Same H H1 → H1 d = some (.xd [(Str.ofString "number", v)]) → (∀ q H2, Same H H2 → H q = none → H2 q = some (.lst (outV o)) → D.nx [some (.int i), some x, some y, some (.ref q), some (.ref a)] H2) →
        tSeq (tAsg (tLst (tCons (tC (V.str (Str.ofString "number"))) (tCons (tXf a (.ref C_NoNumber) (some d) C_NoNumber (Str.ofString "number") (tVar 4)) tNil))) (gName 3)) (tIfS (tOr (tNot (tB (tCB (rIsX K a (.ref C_NoNumber) (some d)) (tCons (tVar 4) (tCons (tC (V.ty "LookupError")) tNil))))) (tB (tCB (rIsXT K a (.ref C_NoNumber) (some d)) (tCons (tVar 4) (tCons (tTup (tCons (tC (V.ty "KeyError")) (tCons (tC (V.ty "IndexError")) tNil))) tNil))))) (tAsg (tLst (tCons (tC (V.str (Str.ofString "other"))) tNil)) (gName 3)) tNext)
          D [some (.int i), some x, some y, none, some (.ref a)] H1 := fun v a d H1 D eo s1 hd hD => by
      subst eo
      refine ⟨_, rfl, rfl, rfl, d, _, _, rfl, hd, rfl, (by show 2 ≤ sizeLine; decide), fun q hq => ?_⟩
      have hd2 := Same.new (o := .lst [.str (Str.ofString "number"), v]) hq _ _ hd
      refine ⟨_, rfl, C_NoNumber, _, _, true, ⟨rfl, .inr ⟨d, _, rfl, hd2⟩, T.x_NoNumber.ok⟩, rfl, .ty "LookupError", kit_exT T.s5, true, rfl, iteF ?_⟩
      refine ⟨_, rfl, (by show 2 ≤ sizeLine; decide), fun t ht => ⟨C_NoNumber, t, _, _, false, ⟨rfl, .inr ⟨d, _, rfl, Same.new ht _ _ hd2⟩, T.x_NoNumber.ok⟩, rfl, upd_same, .cons (.ty _) (.cons (.ty _) .nil), kitAny_cons (kit_exT T.s6) (fun _ => kitAny_cons (kit_exT T.s7) (fun _ => kitAny_nil) (fun h => nomatch h)) (fun h => nomatch h), false, rfl, iteF ?_⟩⟩
      exact hD q _ (Same.trans s1 (Same.trans (Same.new hq) (Same.new ht))) (Same.free s1 hq) (by rw [upd_ne (ne_of_none upd_same ht)]; exact upd_same)
    have fin : ∀ (z : Option V) (q : Addr) (H2 : Hp), Same H H2 → H q = none → H2 q = some (.lst (outV o)) → tRet (tVar 3) { nx := fun _ H' => Q V.non H', rt := Q } [some (.int i), some x, some y, some (.ref q), z] H2 := fun z q H2 s2 n h => ⟨_, rfl, k q H2 s2 n h⟩
    -- the calls
    have is2 : ∃ (dy : PyData) (b : Bool), Dp K H y dy ∧ SeqAt.shaped dy = true ∧ PyData.eqv dy (.int 2) = b ∧ (b = true → y = .int 2) := by
      rcases hy with ⟨j, rfl, _⟩ | ⟨hy, _⟩
      · refine ⟨.int j, decide (j = 2), .int j, rfl, ?_, fun h => by rw [of_decide_eq_true h]⟩
        show (j == 2) = decide (j = 2)
        by_cases q : j = 2
        · subst q; rfl
        · rw [decide_eq_false q]; exact beq_eq_false_iff_ne.mpr q
      · obtain ⟨dy, h1, h2, h3⟩ := hy.dp (K := K) hs
        exact ⟨dy, false, h1, h2, h3, fun h => nomatch h⟩
    obtain ⟨dy, b, h1, h2, h3, h4⟩ := is2
    rcases hi with ⟨rfl, l, rfl, hl, ho⟩ | ⟨rfl, hx, ho⟩
    · refine ⟨_, rfl, rfl, _, rfl, iteT ?_⟩
      refine ⟨_, rfl, dy, .int 2, h1, .int 2, h2, by decide, ?_⟩
      rw [h3]
      refine ⟨b, rfl, ?_⟩
      cases b with
      | true =>
        cases h4 rfl
        refine iteT ⟨_, rfl, l, .int 2, r, o, rfl, hl, hy, ho, ?_⟩
        cases o with
        | told v => exact fun H1 s1 => ⟨by show 2 ≤ sizeLine; decide, fun q hq => fin _ q _ (Same.trans s1 (Same.new hq)) (Same.free s1 hq) upd_same⟩
        | sign p => exact fun d H1 s1 hd => ⟨true, T.x_NoSign.te, fun _ a _ => sg p a d H1 _ rfl s1 hd (fun q H2 s2 n h => fin _ q H2 s2 n h), fun q => nomatch q⟩
        | number v => exact fun d H1 s1 hd => ⟨false, exm_of T.s4 T.x_NoSign.bC T.x_NoSign.iC T.x_NoSign.tC, (fun h => nomatch h), fun _ => ⟨true, T.x_NoNumber.te, fun _ a _ => sn v a d H1 _ rfl s1 hd (fun q H2 s2 n h => fin _ q H2 s2 n h), fun q => nomatch q⟩⟩
      | false =>
        refine iteF ⟨_, rfl, rfl, _, rfl, iteT ⟨_, rfl, _, rfl, l, y, r, o, rfl, hl, hy, ho, ?_⟩⟩
        cases o with
        | told v => exact fun H1 s1 => ⟨by show 2 ≤ sizeLine; decide, fun q hq => fin _ q _ (Same.trans s1 (Same.new hq)) (Same.free s1 hq) upd_same⟩
        | sign p => exact fun d H1 s1 hd => ⟨true, T.x_NoSign.te, fun _ a _ => sg p a d H1 _ rfl s1 hd (fun q H2 s2 n h => fin _ q H2 s2 n h), fun q => nomatch q⟩
        | number v => exact fun d H1 s1 hd => ⟨false, exm_of T.s4 T.x_NoSign.bC T.x_NoSign.iC T.x_NoSign.tC, (fun h => nomatch h), fun _ => ⟨true, T.x_NoNumber.te, fun _ a _ => sn v a d H1 _ rfl s1 hd (fun q H2 s2 n h => fin _ q H2 s2 n h), fun q => nomatch q⟩⟩
    · refine ⟨_, rfl, rfl, _, rfl, iteF ⟨_, rfl, rfl, _, rfl, iteF ?_⟩⟩
      refine ⟨_, rfl, dy, .int 2, h1, .int 2, h2, by decide, ?_⟩
      rw [h3]
      refine ⟨b, rfl, ?_⟩
      cases b with
      | true =>
        cases h4 rfl
        refine iteT ⟨_, rfl, x, .int 2, r, o, rfl, hx, hy, ho, ?_⟩
        cases o with
        | told v => exact fun H1 s1 => ⟨by show 2 ≤ sizeLine; decide, fun q hq => fin _ q _ (Same.trans s1 (Same.new hq)) (Same.free s1 hq) upd_same⟩
        | sign p => exact fun d H1 s1 hd => ⟨true, T.x_NoSign.te, fun _ a _ => sg p a d H1 _ rfl s1 hd (fun q H2 s2 n h => fin _ q H2 s2 n h), fun q => nomatch q⟩
        | number v => exact fun d H1 s1 hd => ⟨false, exm_of T.s4 T.x_NoSign.bC T.x_NoSign.iC T.x_NoSign.tC, (fun h => nomatch h), fun _ => ⟨true, T.x_NoNumber.te, fun _ a _ => sn v a d H1 _ rfl s1 hd (fun q H2 s2 n h => fin _ q H2 s2 n h), fun q => nomatch q⟩⟩
      | false =>
        refine iteF ⟨_, rfl, _, rfl, x, y, r, o, rfl, hx, hy, ho, ?_⟩
        cases o with
        | told v => exact fun H1 s1 => ⟨by show 2 ≤ sizeLine; decide, fun q hq => fin _ q _ (Same.trans s1 (Same.new hq)) (Same.free s1 hq) upd_same⟩
        | sign p => exact fun d H1 s1 hd => ⟨true, T.x_NoSign.te, fun _ a _ => sg p a d H1 _ rfl s1 hd (fun q H2 s2 n h => fin _ q H2 s2 n h), fun q => nomatch q⟩
        | number v => exact fun d H1 s1 hd => ⟨false, exm_of T.s4 T.x_NoSign.bC T.x_NoSign.iC T.x_NoSign.tC, (fun h => nomatch h), fun _ => ⟨true, T.x_NoNumber.te, fun _ a _ => sn v a d H1 _ rfl s1 hd (fun q H2 s2 n h => fin _ q H2 s2 n h), fun q => nomatch q⟩⟩
theorem sc_law : FnScope ["_law_script", "_law_k", "_law_pool_here", "_law_deeds", "_law_row_here", "_law_wrong", "_law_due", "_law_most", "_law_some", "_law_number", "_law_found", "_law_odd", "_law_bad", "_law_at", "_law_sign"] ["_law_script"] (defScope s_law) := ⟨rfl, rfl, rfl, by decide +kernel, rfl, by decide +kernel, by decide +kernel⟩
theorem ok_law {f : Addr} {fd : FuncData} (F : Fun K "law" "law" s_law f fd) (T : Txt K mg C_NoNumber C_NoRow C_NoSign) (kn_law_pool : KN P w K mg base CX0 1 ["_law_script", "_law_k"] (sp_law_pool K) "_law_pool" []) (kn_law_take : KN P w K mg base CX0 1 ["_law_pool_here", "_law_many"] (sp_law_take) "_law_take" []) (kn_law_row : KN P w K mg base CX0 2 ["_law_pool_here", "_law_most", "_law_deeds"] (sp_law_row) "_law_row" []) (kn_law_sum : KN P w K mg base CX0 1 ["_law_row_here", "_law_deeds"] (sp_law_sum) "_law_sum" []) (kn_law_told : KN P w K mg base CX0 5 ["_law_door", "_law_thing", "_law_deeds"] (sp_law_told C_NoSign C_NoNumber) "_law_told" []) : FnG P w K mg base CX0 6 f fd ["_law_script"] (sp_law K) := by
  obtain ⟨f_law_pool, fd_law_pool, ds_law_pool, m_law_pool, k_law_pool, v_law_pool, b_law_pool, G_law_pool⟩ := kn_law_pool
  obtain ⟨f_law_take, fd_law_take, ds_law_take, m_law_take, k_law_take, v_law_take, b_law_take, G_law_take⟩ := kn_law_take
  obtain ⟨f_law_row, fd_law_row, ds_law_row, m_law_row, k_law_row, v_law_row, b_law_row, G_law_row⟩ := kn_law_row
  obtain ⟨f_law_sum, fd_law_sum, ds_law_sum, m_law_sum, k_law_sum, v_law_sum, b_law_sum, G_law_sum⟩ := kn_law_sum
  obtain ⟨f_law_told, fd_law_told, ds_law_told, m_law_told, k_law_told, v_law_told, b_law_told, G_law_told⟩ := kn_law_told
  refine F.okG sc_law (fun vs H Q E h => ?_) (fun cdv A outer s H vs Q E g hr h => ?_)
  · obtain ⟨a, ns, rfl, _⟩ := h
    all_goals rfl
  · obtain ⟨a, ns, rfl, hS, hlen, k⟩ := h
    refine ⟨_, (pss_cons (ps_for PassesOwn.never rfl (pi_range1 (by rfl) T.b_range (pa_cons (pe_callB (call_max2 rfl) (by rfl) T.b_max (by decide +kernel) (pa_cons pe_int (pa_cons (pe_callB (call_min2 rfl) (by rfl) T.b_min (by decide +kernel) (pa_cons (pe_callB (call_lenK (K := K)) (by rfl) T.b_len (by decide +kernel) (pa_cons (pv 0) pa_nil)) (pa_cons pe_int pa_nil))) pa_nil))) pa_nil)) (pg_name (i := 1) sc_law.nd rfl (Or.inl rfl)) (pss_cons (ps_set (i := 2) sc_law.nd rfl (Or.inl rfl) (pe_call G_law_pool (hr.mono (by decide)) rfl m_law_pool k_law_pool b_law_pool v_law_pool pass0 (pa_cons (pv 0) (pa_cons (pv 1) pa_nil))))
    (pss_cons (ps_set (i := 3) sc_law.nd rfl (Or.inr rfl) (pe_op op_add pe_int (pe_call G_law_take (hr.mono (by decide)) rfl m_law_take k_law_take b_law_take v_law_take pass0 (pa_cons (pv 2) (pa_cons pe_int pa_nil)))))
    (pss_cons (ps_set (i := 4) sc_law.nd rfl (Or.inl rfl) (pe_call G_law_row (hr.mono (by decide)) rfl m_law_row k_law_row b_law_row v_law_row pass0 (pa_cons (pv 2) (pa_cons (pe_ix (ix_listK (K := K)) (pe_lst (pa_cons pe_int (pa_cons pe_int pa_nil))) (pe_call G_law_take (hr.mono (by decide)) rfl m_law_take k_law_take b_law_take v_law_take pass0 (pa_cons (pv 2) (pa_cons pe_int pa_nil))) (fun _ _ => rfl)) (pa_cons (pe_ix (ix_listK (K := K)) (pe_lst (pa_cons (pv 3) (pa_cons pe_int pa_nil))) (pe_call G_law_take (hr.mono (by decide)) rfl m_law_take k_law_take b_law_take v_law_take pass0 (pa_cons (pv 2) (pa_cons pe_int pa_nil))) (fun _ _ => rfl)) pa_nil)))))
    (pss_cons (ps_setLc (i := 5) (own := [("_law_at", 13), ("_law_sign", 14)]) (g := (gTup K 2 (gCons (gName 13) (gCons (gName 14) gNil)))) rfl sc_law.nd rfl rfl (sw_true rfl rfl rfl (by decide +kernel)) (pi_enumS (by rfl) T.b_enumerate (pa_cons (pv 4) pa_nil)) (blkOk_by (own := [("_law_at", 13), ("_law_sign", 14)]) (N := ["_law_script", "_law_k", "_law_pool_here", "_law_deeds", "_law_row_here", "_law_wrong", "_law_due", "_law_most", "_law_some", "_law_number", "_law_found", "_law_odd", "_law_bad", "_law_at", "_law_sign"]) (sc := defScope s_law) (by decide +kernel)) (fun _ _ _ _ _ => (pg_tup rfl (pgs_cons (pg_name (i := 13) sc_law.nd rfl (Or.inl rfl)) (pgs_cons (pg_name (i := 14) sc_law.nd rfl (Or.inl rfl)) pgs_nil)))) (fun _ _ _ _ _ => pts_one (pt_cmpR op_notIn_sign (pv 14) (pe_slice sl_str pe_str po_none (po_some (pe_op op_mul pe_int (pv 3)))) rfl)) (fun _ _ _ _ _ => (pv 13)))
    (pss_cons (ps_set (i := 6) sc_law.nd rfl (Or.inl rfl) (pe_lst (pa_cons pe_str (pa_cons (pe_call G_law_sum (hr.mono (by decide)) rfl m_law_sum k_law_sum b_law_sum v_law_sum pass0 (pa_cons (pv 4) (pa_cons (pv 3) pa_nil))) pa_nil))))
    (Evl.pss_cut (ps_if (pt_cmpR (op_neDK (K := K) hr.units) (pv 5) (pe_lst pa_nil) (nomark _)) (pss_one (ps_set (i := 6) sc_law.nd rfl (Or.inl rfl) (pe_lst (pa_cons pe_str (pa_cons (pe_ix (ix_listK (K := K)) (pv 5) pe_int (fun _ _ => rfl)) pa_nil))))) pss_nil)
    (Evl.pss_cut (ps_if (PW.pt (pw_or (pt_cmpR (op_neDK (K := K) hr.units) (pe_call G_law_told (hr.mono (by decide)) rfl m_law_told k_law_told b_law_told v_law_told pass0 (pa_cons pe_int (pa_cons (pv 4) (pa_cons (pv 3) pa_nil)))) (pv 6) (nomark _)) (pw_or1 (PW.pt (pw_and (pt_cmpR (op_eqDK (K := K) hr.units) (pv 5) (pe_lst pa_nil) (nomark _)) (pw_and1 (pt_cmpR (op_neDK (K := K) hr.units) (pe_call G_law_told (hr.mono (by decide)) rfl m_law_told k_law_told b_law_told v_law_told pass0 (pa_cons pe_int (pa_cons (pe_ix (ix_listK (K := K)) (pv 6) pe_int (fun _ _ => rfl)) (pa_cons (pv 3) pa_nil)))) (pe_lst (pa_cons pe_str (pa_cons (pv 4) pa_nil))) (nomark _)))))))) (pss_one (ps_ret pe_bl)) pss_nil)
    (pss_cons (ps_set (i := 7) sc_law.nd rfl (Or.inl rfl) (pe_call G_law_sum (hr.mono (by decide)) rfl m_law_sum k_law_sum b_law_sum v_law_sum pass0 (pa_cons (pe_op op_repS (pe_ix ix_str pe_str (pe_op op_sub (pe_op op_mul pe_int (pv 3)) pe_int) (fun _ _ => rfl)) pe_int) (pa_cons (pv 3) pa_nil))))
    (pss_cons (ps_set (i := 8) sc_law.nd rfl (Or.inl rfl) (pe_lst (pa_cons (pe_call G_law_take (hr.mono (by decide)) rfl m_law_take k_law_take b_law_take v_law_take pass0 (pa_cons (pv 2) (pa_cons pe_int pa_nil))) (pa_cons (pe_op op_sub (pv 7) (pe_call G_law_take (hr.mono (by decide)) rfl m_law_take k_law_take b_law_take v_law_take pass0 (pa_cons (pv 2) (pa_cons pe_int pa_nil)))) (pa_cons (pe_op op_mod (pe_op op_mulW (pe_call G_law_take (hr.mono (by decide)) rfl m_law_take k_law_take b_law_take v_law_take pass0 (pa_cons (pv 2) (pa_cons (pe_op op_pow pe_int pe_int) pa_nil))) (pe_op op_pow pe_int pe_int)) (pv 7)) pa_nil)))))
    (pss_cons (ps_set (i := 9) sc_law.nd rfl (Or.inl rfl) (pe_ix (ix_listK (K := K)) (pv 8) (pe_call G_law_take (hr.mono (by decide)) rfl m_law_take k_law_take b_law_take v_law_take pass0 (pa_cons (pv 2) (pa_cons pe_int pa_nil))) (fun _ _ => rfl)))
    (pss_cons (ps_set (i := 10) sc_law.nd rfl (Or.inl rfl) (pe_call G_law_told (hr.mono (by decide)) rfl m_law_told k_law_told b_law_told v_law_told pass0 (pa_cons pe_int (pa_cons (pv 9) (pa_cons (pv 3) pa_nil)))))
    (pss_cons (ps_if (PW.pt (pw_or (pt_cmpR op_lt (pv 9) pe_int (nomark _)) (pw_or (pt_cmpR op_ne (pe_ix (ix_listK (K := K)) (pv 10) pe_int (fun _ _ => rfl)) pe_str (nomark _)) (pw_or1 (pt_cmpR (op_neDK (K := K) hr.units) (pe_call G_law_told (hr.mono (by decide)) rfl m_law_told k_law_told b_law_told v_law_told pass0 (pa_cons pe_int (pa_cons (pe_ix (ix_listK (K := K)) (pv 10) pe_int (fun _ _ => rfl)) (pa_cons (pv 3) pa_nil)))) (pe_lst (pa_cons pe_str (pa_cons (pv 9) pa_nil))) (nomark _)))))) (pss_one (ps_ret pe_bl)) pss_nil)
    (pss_cons (ps_set (i := 11) sc_law.nd rfl (Or.inl rfl) (pe_ix (ix_listK (K := K)) (pe_lst (pa_cons (pe_op op_add (pv 7) pe_int) (pa_cons (pe_op op_add (pe_op op_add (pv 7) (pe_call G_law_take (hr.mono (by decide)) rfl m_law_take k_law_take b_law_take v_law_take pass0 (pa_cons (pv 2) (pa_cons pe_int pa_nil)))) pe_int) (pa_cons (pe_un un_neg pe_int) (pa_cons pe_bl (pa_cons pe_bl (pa_cons pe_non (pa_cons pe_str (pa_cons (pe_lst (pa_cons pe_int pa_nil)) (pa_cons (pe_tup pa_nil) pa_nil)))))))))) (pe_call G_law_take (hr.mono (by decide)) rfl m_law_take k_law_take b_law_take v_law_take pass0 (pa_cons (pv 2) (pa_cons pe_int pa_nil))) (fun _ _ => rfl)))
    (pss_cons (ps_if (pt_cmpR op_ne (pe_callB (call_reprD (K := K) g hr.units) (by rfl) T.b_repr (by decide +kernel) (pa_cons (pe_call G_law_told (hr.mono (by decide)) rfl m_law_told k_law_told b_law_told v_law_told pass0 (pa_cons pe_int (pa_cons (pv 11) (pa_cons (pv 3) pa_nil)))) pa_nil)) (pe_callB (call_reprD (K := K) g hr.units) (by rfl) T.b_repr (by decide +kernel) (pa_cons (pe_lst (pa_cons pe_str (pa_cons (pv 11) pa_nil))) pa_nil)) (nomark _)) (pss_one (ps_ret pe_bl)) pss_nil)
    (pss_cons (ps_set (i := 12) sc_law.nd rfl (Or.inl rfl) (pe_ix (ix_listK (K := K)) (pe_lst (pa_cons pe_int (pa_cons pe_int (pa_cons (pe_un un_neg pe_int) (pa_cons pe_bl (pa_cons pe_non (pa_cons pe_str (pa_cons (pe_lst pa_nil) (pa_cons (pe_op op_pow pe_int pe_int) pa_nil))))))))) (pe_call G_law_take (hr.mono (by decide)) rfl m_law_take k_law_take b_law_take v_law_take pass0 (pa_cons (pv 2) (pa_cons pe_int pa_nil))) (fun _ _ => rfl)))
    (pss_one (ps_if (pt_cmpR op_ne (pe_callB (call_reprD (K := K) g hr.units) (by rfl) T.b_repr (by decide +kernel) (pa_cons (pe_lst (pa_cons (pe_call G_law_told (hr.mono (by decide)) rfl m_law_told k_law_told b_law_told v_law_told pass0 (pa_cons pe_int (pa_cons (pv 4) (pa_cons (pv 12) pa_nil)))) (pa_cons (pe_call G_law_told (hr.mono (by decide)) rfl m_law_told k_law_told b_law_told v_law_told pass0 (pa_cons pe_int (pa_cons (pv 9) (pa_cons (pv 12) pa_nil)))) pa_nil))) pa_nil)) (pe_callB (call_reprD (K := K) g hr.units) (by rfl) T.b_repr (by decide +kernel) (pa_cons (pe_op op_rep (pe_lst (pa_cons (pe_lst (pa_cons pe_str (pa_cons (pv 12) pa_nil))) pa_nil)) pe_int) pa_nil)) (nomark _)) (pss_one (ps_ret pe_bl)) pss_nil))))))))))))))))))
    (pss_one (ps_ret pe_bl))), ?_⟩
    have tn := turns_ok (ns.map V.int).length 20 (by decide)
    refine ⟨_, rfl, _, _, rfl, .inl hS, _, _, rfl, _, _, rfl, _, rfl, by omega, by omega, for_range (lo := 0) (n := _) (fun i σ H' => ∃ x1 x2 x3 x4 x5 x6 x7 x8 x9 x10 x11 x12 x13 x14, σ = [some (.ref a), x1, x2, x3, x4, x5, x6, x7, x8, x9, x10, x11, x12, x13, x14] ∧ Same H H')
      ⟨none, none, none, none, none, none, none, none, none, none, none, none, none, none, rfl, Same.refl H⟩ ?_ ?_⟩
    · rintro i σ H1 hi ⟨x1, x2, x3, x4, x5, x6, x7, x8, x9, x10, x11, x12, x13, x14, rfl, s1⟩
      refine ⟨_, rfl, _, rfl, a, ns, _, rfl, s1.seq hS, by omega, by omega, fun p H2 np s2 hp => ?_⟩
      have hpn : H p = none := Same.free s1 np
      have sH := Same.trans s1 s2
      refine ⟨_, rfl, p, 6, rfl, hp, by decide, by decide, fun dv H3 d0 d1 o3 p3 => ⟨_, _, rfl, rfl, ?_⟩⟩
      have sH := Off.same hpn sH o3
      obtain ⟨d, hd1, hd2, hd⟩ : ∃ d : Nat, 1 ≤ d ∧ d ≤ 6 ∧ 1 + dv = (d : Int) := ⟨(1 + dv).toNat, by omega, by omega, by omega⟩
      dsimp only
      rw [hd]
      -- the row
      refine ⟨_, rfl, by show 2 ≤ sizeLine; decide, fun q1 hq1 => ?_⟩
      refine ⟨_, rfl, p, 2, rfl, p3.new hq1, by decide, by decide, fun v4 H4 v40 v41 o4 p4 => ?_⟩
      obtain ⟨y1, hy1, yy1⟩ := at2 (a := V.int 5) (b := V.int 60) v40 v41
      obtain ⟨m1, rfl, m10, m11⟩ : ∃ z : Int, y1 = .int z ∧ 0 ≤ z ∧ z ≤ 60 := by
        rcases yy1 with rfl | rfl
        · exact ⟨5, rfl, by decide, by decide⟩
        · exact ⟨60, rfl, by decide, by decide⟩
      refine ⟨_, _, _, _, rfl, rfl, SqL.of (o4 q1 _ (p3.ne hq1).symm upd_same), hy1, ?_⟩
      refine ⟨_, rfl, by show 2 ≤ sizeLine; decide, fun q2 hq2 => ?_⟩
      refine ⟨_, rfl, p, 2, rfl, p4.new hq2, by decide, by decide, fun v5 H5 v50 v51 o5 p5 => ?_⟩
      obtain ⟨y2, hy2, yy2⟩ := at2 (a := V.int (d : Int)) (b := V.int 6) v50 v51
      obtain ⟨m2, rfl, m20, m21⟩ : ∃ z : Int, y2 = .int z ∧ 1 ≤ z ∧ z ≤ 6 := by
        rcases yy2 with rfl | rfl
        · exact ⟨_, rfl, by omega, by omega⟩
        · exact ⟨6, rfl, by decide, by decide⟩
      refine ⟨_, _, _, _, rfl, rfl, SqL.of (o5 q2 _ (p4.ne hq2).symm upd_same), hy2, ?_⟩
      refine ⟨p, m1, m2, rfl, p5, m10, by omega, m20, m21, fun l H6 rl zl _ o6 p6 => ?_⟩
      have sH : Same H H6 := Off.same hpn (Off.same hpn (Same.trans (Off.same hpn (Same.trans sH (Same.new hq1)) o4) (Same.new hq2)) o5) o6
      have zl : l.length ≤ 60 := by omega
      have isr : isRow l = true := isRow_iff.mpr ⟨zl, rl⟩
      have e2 : (2 * (d : Int)) = ((2 * d : Nat) : Int) := by omega
      -- the wrong ones
      refine ⟨_, rfl, _, rfl, fun D hD => lc_it walk_enumS (fun i H' => H' D = some (.lst ((badAt (2 * d) l i).map fun (j : Nat) => V.int (j : Int))) ∧ Same H6 H') ⟨upd_same, Same.new hD⟩ (fun _ _ _ _ => trivial) ?_ ?_⟩
      · rintro i v H7 H8 hi ⟨h7, s7⟩ ⟨t, c, rfl, nt, rfl, hc⟩
        have hc' : l[i]? = some c := by simpa using hc
        have gc : l.getD i 0 = c := by rw [List.getD_eq_getElem?_getD, hc']; rfl
        have sc : c ∈ sgns := rl c (List.mem_of_getElem? hc')
        have h8 := Same.new (o := .tup [.int (i : Nat), .str ⟨#[c]⟩]) nt D _ h7
        have s8 := Same.trans s7 (Same.new (o := .tup [.int (i : Nat), .str ⟨#[c]⟩]) nt)
        refine ⟨t, [_, _], rfl, SqT.of upd_same, rfl, _, _, rfl, _, _, rfl, rfl, rfl, ?_⟩
        refine (Evl.et_test (Evl.ev_op (Evl.ev_var rfl) (Evl.ev_slS Evl.ev_c Evl.eo_none (Evl.eo_some (Evl.ev_op Evl.ev_c (Evl.ev_var rfl) (Evl.rv_I (.inl ⟨by decide, by decide⟩)))) (by decide)) Evl.rv_niS)) _ (Evl.Ex.refl _) _ fun H9 e9 => ?_
        have h9 := e9 _ _ h8
        have eb : decide (c ∈ (cutS (Str.ofString "aAbBcCdDeEfF") none (some (2 * (d : Int)))).cps.toList) = decide (ix c < 2 * d) := by
          rw [sgns_S, e2, cut_to (by show 2 * d ≤ 12; omega)]
          exact decide_eq_decide.mpr (mem_take sc)
        rw [eb]
        by_cases q : ix c < 2 * d
        · rw [decide_eq_true q]
          refine ⟨?_, Same.trans s8 e9⟩
          rw [bad_succ, gc, if_pos q, List.append_nil]
          exact h9
        · rw [decide_eq_false q]
          refine ⟨_, rfl, _, h9, ?_, ?_, fun b o hb => ?_⟩
          · rw [List.length_map]
            have := bad_len (2 * d) l i
            have hi2 : i < l.length := (List.getElem?_eq_some_iff.mp hc').1
            exact Nat.lt_of_lt_of_le (by omega : (badAt (2 * d) l i).length < 100) (by decide)
          · rw [bad_succ, gc, if_neg q, List.map_append]
            exact upd_same
          · have z := Same.trans s8 e9 b o hb
            rw [upd_ne (ne_of_none hb hD)]
            exact z
      rintro H7 ⟨h7, s7⟩
      have ew : (S l).cps.size = l.length := by show (S l).length = _; rw [len_S]
      rw [ew] at h7
      have sB := Same.trans sH s7
      -- what is due
      obtain ⟨o1, ho1, hb1⟩ : ∃ o1, NumOut l (.int (d : Int)) true o1 ∧ ((badAt (2 * d) l l.length = [] ∧ Low (2 * d) l ∧ o1 = .told (.int ((numR (2 * d) l : Nat) : Int))) ∨ ∃ f r, badAt (2 * d) l l.length = f :: r ∧ o1 = .sign f) := by
        cases hb : badAt (2 * d) l l.length with
        | nil => exact ⟨_, .low d rfl (bad_nil hb), .inl ⟨rfl, bad_nil hb, rfl⟩⟩
        | cons f r =>
          obtain ⟨z1, z2, z3⟩ := bad_cons hb
          exact ⟨_, .sign d f rfl z1 z3 z2, .inr ⟨f, r, rfl, rfl⟩⟩
      have dwrong : ∀ H', Same H7 H' → Dp K H' (.ref D) (.list (((badAt (2 * d) l l.length).map fun (j : Nat) => (j : Int)).map PyData.int)) := fun H' s => .lst (Evl.sq_of (s _ _ h7)) (dp_nats _)
      have hdeeds : ∀ H', Deeds H' (.int (d : Int)) 6 true := fun H' => .inl ⟨_, rfl, (decide_eq_true ⟨by omega, by omega⟩).symm⟩
      refine ⟨_, rfl, _, rfl, l, d, rfl, rl, by omega, hd1, hd2, fun H8 s8 => ⟨by show 2 ≤ sizeLine; decide, fun u0 hu0 => ?_⟩⟩
      have s8 := Same.trans s8 (Same.new (o := .lst [.str (Str.ofString "told"), .int ((numR (2 * d) l : Nat) : Int)]) hu0)
      refine ⟨fun σ H' => ∃ u, σ = [some (.ref a), some (.int (0 + i)), some (.ref p), some (.int (d : Int)), some (.str (S l)), some (.ref D), some (.ref u), x7, x8, x9, x10, x11, x12, x13, x14] ∧ H' u = some (.lst (outV o1)) ∧ Same H7 H', ?_, ?_⟩
      · refine ⟨_, rfl, by decide, fun e0 he0 => ?_⟩
        have s9 := Same.trans s8 (Same.new (o := .lst []) he0)
        refine ⟨_, _, dwrong _ s9, .lst (Evl.sq_of upd_same) .nil, shaped_lst _, by decide, ?_⟩
        rw [eqv_nil]
        refine ⟨_, rfl, ?_⟩
        rcases hb1 with ⟨hb, _, rfl⟩ | ⟨f, r, hb, rfl⟩
        · rw [hb]
          exact iteF ⟨u0, rfl, by rw [upd_ne (ne_of_none upd_same he0)]; exact upd_same, s9⟩
        · rw [hb]
          refine iteT ⟨_, rfl, _, _, _, _, rfl, rfl, SqL.of (s9 _ _ h7), (by rw [hb]; exact atI0), by show 2 ≤ sizeLine; decide, fun u hu => ⟨u, rfl, upd_same, Same.trans s9 (Same.new hu)⟩⟩
      rintro σ H9 ⟨u, rfl, h9, s9⟩
      have hs0 : ∀ (j : Int) (s : Str), V.int j = .str s → s.cps.all (· < 0x110000) := fun j s h => nomatch h
      -- number_of, and back
      obtain ⟨do1, hdo1, sdo1, edo1⟩ : ∃ do1, (∀ (q : Addr) (H' : Hp), H' q = some (.lst (outV o1)) → Dp K H' (.ref q) do1) ∧ SeqAt.shaped do1 = true ∧ PyData.eqv do1 do1 = true := by
        rcases hb1 with ⟨_, _, rfl⟩ | ⟨f, r, _, rfl⟩
        · exact ⟨pairD (Str.ofString "told") (.int ((numR (2 * d) l : Nat) : Int)), fun q H' h => dp_pair h (.int _), shaped_int _ (by decide +kernel) _, eqv_pair_int _ _⟩
        · exact ⟨pairD (Str.ofString "sign") (.int (f : Int)), fun q H' h => dp_pair h (.int _), shaped_int _ (by decide +kernel) _, eqv_pair_int _ _⟩
      refine ⟨fun σ H' => σ = [some (.ref a), some (.int (0 + i)), some (.ref p), some (.int (d : Int)), some (.str (S l)), some (.ref D), some (.ref u), x7, x8, x9, x10, x11, x12, x13, x14] ∧ Same H9 H', ?_, ?_⟩
      · refine ⟨_, rfl, _, rfl, 0, .str (S l), .int (d : Int), true, o1, rfl, .inl ⟨rfl, l, rfl, isr, ho1⟩, hdeeds _, hs0 _, fun q10 H10 s10 n10 h10 => ?_⟩
        refine ⟨_, rfl, do1, do1, hdo1 _ _ h10, hdo1 _ _ (s10 _ _ h9), sdo1, sdo1, ?_⟩
        rw [edo1]
        refine ⟨_, rfl, iteF ?_⟩
        refine ⟨_, rfl, by decide, fun e0 he0 => ?_⟩
        have s11 := Same.trans s10 (Same.new (o := .lst []) he0)
        refine ⟨_, _, dwrong _ (Same.trans s9 s11), .lst (Evl.sq_of upd_same) .nil, shaped_lst _, by decide, ?_⟩
        rw [eqv_nil]
        generalize upd H10 e0 (.lst []) = H11 at s11 ⊢
        rcases hb1 with ⟨hb, low, rfl⟩ | ⟨f, r, hb, rfl⟩
        · rw [hb]
          refine ⟨_, rfl, iteT ⟨_, rfl, _, _, _, _, rfl, rfl, SqL.of (s11 _ _ h9), atI1, _, rfl, 1, .int ((numR (2 * d) l : Nat) : Int), .int (d : Int), true, .told (.str (S l)), rfl, .inr ⟨rfl, .inl ⟨_, rfl⟩, .row d _ l rfl rfl rl zl low rfl⟩, hdeeds _, hs0 _, fun q12 H12 s12 n12 h12 => ?_⟩⟩
          refine ⟨_, rfl, by show 2 ≤ sizeLine; decide, fun e1 he1 => ?_⟩
          have h13 := Same.new (o := .lst [.str (Str.ofString "told"), .str (S l)]) he1 _ _ h12
          refine ⟨pairD (Str.ofString "told") (.str (S l)), pairD (Str.ofString "told") (.str (S l)), dp_pair h13 (.str _), dp_pair upd_same (.str _), shaped_str _ _ (by decide +kernel) (strOk_row rl), shaped_str _ _ (by decide +kernel) (strOk_row rl), ?_⟩
          rw [eqv_pair_str]
          exact ⟨_, rfl, iteF ⟨rfl, Same.trans s11 (Same.trans s12 (Same.new he1))⟩⟩
        · rw [hb]
          exact ⟨_, rfl, iteF (iteF ⟨rfl, s11⟩)⟩
      rintro σ H10 ⟨rfl, s10⟩
      -- the last row
      obtain ⟨c, hc, sc, ic⟩ := sign_of_at (i := 2 * (d : Int) - 1) (by omega) (by omega) rfl
      have em : Txt.mul (⟨#[c]⟩ : Str) 60 = S (List.replicate 60 c) := mul_one (n := 60) (by decide)
      refine ⟨_, rfl, _, _, rfl, rfl, .inl ⟨by decide, by decide⟩, _, _, rfl, rfl, _, _, c, rfl, rfl, (by decide), hc, _, 60, rfl, rfl, mul_ok c, ?_⟩
      rw [em]
      refine ⟨_, rfl, List.replicate 60 c, d, rfl, row_rep sc 60, (by simp), hd1, hd2, fun H11 s11 => ?_⟩
      obtain ⟨M, hM, M1⟩ : ∃ M : Nat, numR (2 * d) (List.replicate 60 c) = M ∧ M + 1 = NumM.ones (2 * d) 61 := ⟨_, rfl, num_rep (2 * d) c (by omega)⟩
      rw [hM]
      have Mbig : 2305843009213693951 ≤ M + 1 := by rw [M1]; exact NumM.ones_61 (by omega)
      have Mlog : M + 1 < 2 ^ 300 := by rw [M1]; exact ones_lt hd1 hd2
      have p11 : Pool H11 p := p6.same (Same.trans s7 (Same.trans s9 (Same.trans s10 s11)))
      have sH11 := Same.trans sB (Same.trans s9 (Same.trans s10 s11))
      -- a number
      refine ⟨_, rfl, p, 400, rfl, p11, by decide, by decide, fun v1 H12 v10 v11 o12 p12 => ?_⟩
      refine ⟨_, rfl, _, rfl, p, 3, rfl, p12, by decide, by decide, fun v2 H13 v20 v21 o13 p13 => ⟨_, _, rfl, rfl, ?_⟩⟩
      refine ⟨_, rfl, _, _, rfl, rfl, ⟨by decide, by decide, by decide⟩, p, _, rfl, p13, by decide, by decide, fun v3 H14 v30 v31 o14 p14 => ?_⟩
      refine ⟨_, _, rfl, rfl, ⟨by decide, by decide, by decide⟩, _, _, rfl, rfl, ?_, _, rfl, _, _, rfl, rfl, (by show (0 : Int) < (M : Int); omega), ?_⟩
      · show v3.natAbs.log2 + ((10 : Int) ^ (35 : Int).toNat).natAbs.log2 < 1000000
        have e1 : v3.natAbs.log2 < 100 := log_lt (by decide) (by have h : (10 : Int) ^ (30 : Int).toNat < 2 ^ 100 := by decide
                                                                 omega)
        have e2 : ((10 : Int) ^ (35 : Int).toNat).natAbs.log2 < 1000 := by decide +kernel
        omega
      refine ⟨by show 3 ≤ sizeLine; decide, fun q3 hq3 => ?_⟩
      refine ⟨_, rfl, _, rfl, p, 3, rfl, p14.new hq3, by decide, by decide, fun v6 H15 v60 v61 o15 p15 => ?_⟩
      have g0 : 0 ≤ v3 * (10 : Int) ^ (35 : Int).toNat % (M : Int) := Int.emod_nonneg _ (by omega)
      have g1 : v3 * (10 : Int) ^ (35 : Int).toNat % (M : Int) < (M : Int) := Int.emod_lt_of_pos _ (by omega)
      obtain ⟨y3, hy3, yy3⟩ := at3 (a := V.int v1) (b := V.int ((M : Int) - v2)) (c := V.int (v3 * (10 : Int) ^ (35 : Int).toNat % (M : Int))) v60 v61
      obtain ⟨N, rfl, hN⟩ : ∃ N : Nat, y3 = .int (N : Int) ∧ N ≤ M := by
        rcases yy3 with rfl | rfl | rfl
        · exact ⟨v1.toNat, by congr 1; omega, by omega⟩
        · exact ⟨((M : Int) - v2).toNat, by congr 1; omega, by omega⟩
        · exact ⟨(v3 * (10 : Int) ^ (35 : Int).toNat % (M : Int)).toNat, by congr 1; omega, by omega⟩
      have sH15 : Same H H15 := Off.same hpn (Same.trans (Off.same hpn (Off.same hpn (Off.same hpn sH11 o12) o13) o14) (Same.new hq3)) o15
      refine ⟨_, _, _, _, rfl, rfl, SqL.of (o15 q3 _ (p14.ne hq3).symm upd_same), hy3, ?_⟩
      obtain ⟨m, rm, zm, lm, em2⟩ := row_of (B := 2 * d) (by omega) (by omega) 61 N (by omega)
      have ism : isRow m = true := isRow_iff.mpr ⟨by omega, rm⟩
      refine ⟨_, rfl, _, rfl, 1, .int (N : Int), .int (d : Int), true, .told (.str (S m)), rfl, .inr ⟨rfl, .inl ⟨_, rfl⟩, .row d N m rfl rfl rm (by omega) lm em2⟩, hdeeds _, hs0 _, fun q16 H16 s16 n16 h16 => ?_⟩
      refine ⟨_, rfl, _, _, rfl, rfl, _, rfl, ?_⟩
      rw [decide_eq_false (by omega : ¬ (N : Int) < 0)]
      refine iteF ⟨_, rfl, _, _, _, _, rfl, rfl, SqL.of h16, atI0, rfl, _, rfl, iteNS rfl ?_⟩
      refine ⟨_, rfl, _, _, _, _, rfl, rfl, SqL.of h16, atI1, _, rfl, 0, .str (S m), .int (d : Int), true, .told (.int (N : Int)), rfl, .inl ⟨rfl, m, rfl, ism, (by rw [← em2]; exact .low d rfl lm)⟩, hdeeds _, hs0 _, fun q17 H17 s17 n17 h17 => ?_⟩
      refine ⟨_, rfl, by show 2 ≤ sizeLine; decide, fun e2 he2 => ?_⟩
      have h18 := Same.new (o := .lst [.str (Str.ofString "told"), .int (N : Int)]) he2 _ _ h17
      refine ⟨pairD (Str.ofString "told") (.int (N : Int)), pairD (Str.ofString "told") (.int (N : Int)), dp_pair h18 (.int _), dp_pair upd_same (.int _), shaped_int _ (by decide +kernel) _, shaped_int _ (by decide +kernel) _, ?_⟩
      rw [eqv_pair_int]
      refine ⟨_, rfl, iteF ?_⟩
      have s18 := Same.trans s16 (Same.trans s17 (Same.new (o := .lst [.str (Str.ofString "told"), .int (N : Int)]) he2))
      have p18 := p15.same s18
      have sH18 := Same.trans sH15 s18
      generalize upd H17 e2 (.lst [.str (Str.ofString "told"), .int (N : Int)]) = H18 at s18 p18 sH18 ⊢
      -- odd numbers
      refine ⟨_, rfl, _, _, rfl, rfl, _, rfl, _, rfl, p, 9, rfl, p18, by decide, by decide, fun w H19 w0 w1 o19 p19 => ⟨_, _, rfl, rfl, _, _, rfl, rfl, _, rfl, ⟨by show 1 ≤ sizeLine; decide, fun b hb => ⟨by show 0 ≤ sizeLine; decide, fun t ht => ⟨by show 9 ≤ sizeLine; decide, fun O hO => ?_⟩⟩⟩⟩⟩
      have nb : b ≠ p := (p19.ne hb).symm
      have nt : t ≠ p := ((p19.new hb).ne ht).symm
      have nO : O ≠ p := (((p19.new hb).new ht).ne hO).symm
      have gb := Same.new (o := .lst [.int ((M : Int) + 1), .int ((M : Int) + w + 2), .int (-1), .bl true, .bl false, .non, .str (Str.ofString "0"), .ref b, .ref t]) hO _ _ (Same.new (o := .tup []) ht _ _ (upd_same (H := H19) (a := b) (o := .lst [.int 0])))
      have gt := Same.new (o := .lst [.int ((M : Int) + 1), .int ((M : Int) + w + 2), .int (-1), .bl true, .bl false, .non, .str (Str.ofString "0"), .ref b, .ref t]) hO _ _ (upd_same (H := upd H19 b (.lst [.int 0])) (a := t) (o := .tup []))
      have gO := upd_same (H := upd (upd H19 b (.lst [.int 0])) t (.tup [])) (a := O) (o := .lst [.int ((M : Int) + 1), .int ((M : Int) + w + 2), .int (-1), .bl true, .bl false, .non, .str (Str.ofString "0"), .ref b, .ref t])
      have p20 := ((p19.new (o := .lst [.int 0]) hb).new (o := .tup []) ht).new (o := .lst [.int ((M : Int) + 1), .int ((M : Int) + w + 2), .int (-1), .bl true, .bl false, .non, .str (Str.ofString "0"), .ref b, .ref t]) hO
      have sH20 := Same.trans (Off.same hpn sH18 o19) (Same.trans (Same.new (o := .lst [.int 0]) hb) (Same.trans (Same.new (o := .tup []) ht) (Same.new (o := .lst [.int ((M : Int) + 1), .int ((M : Int) + w + 2), .int (-1), .bl true, .bl false, .non, .str (Str.ofString "0"), .ref b, .ref t]) hO)))
      refine ⟨_, rfl, p, 9, rfl, p20, by decide, by decide, fun z H21 z0 z1 o21 p21 => ?_⟩
      have gb := o21 b _ nb gb
      have gt := o21 t _ nt gt
      have gO := o21 O _ nO gO
      have sH21 := Off.same hpn sH20 o21
      obtain ⟨X, hX, mX⟩ := at_mem (L := [.int ((M : Int) + 1), .int ((M : Int) + w + 2), .int (-1), .bl true, .bl false, .non, .str (Str.ofString "0"), .ref b, .ref t]) z0 z1
      refine ⟨_, _, _, _, rfl, rfl, SqL.of gO, hX, ?_⟩
      obtain ⟨dx, odd, intX, bigX⟩ : ∃ dx, Odd K H21 X dx ∧ ((∃ j : Int, X = .int j) ∨ NotInt H21 X) ∧ ∀ n : Nat, X = .int (n : Int) → M < n := by
        have lg : ∀ k : Int, 0 ≤ k → k < 100 → ((M : Int) + k).natAbs.log2 < 1900 := fun k k0 k1 => log_lt (by decide) (by
          have : (2 : Nat) ^ 300 + 100 < 2 ^ 1900 := by decide +kernel
          omega)
        simp only [List.mem_cons, List.not_mem_nil, or_false] at mX
        rcases mX with rfl | rfl | rfl | rfl | rfl | rfl | rfl | rfl | rfl
        · exact ⟨_, odd_int (lg 1 (by decide) (by decide)), .inl ⟨_, rfl⟩, fun n h => by injection h; omega⟩
        · exact ⟨_, odd_int (by rw [Int.add_assoc]; exact lg (w + 2) (by omega) (by omega)), .inl ⟨_, rfl⟩, fun n h => by injection h; omega⟩
        · exact ⟨_, odd_int (by decide), .inl ⟨_, rfl⟩, fun n h => by injection h; omega⟩
        · exact ⟨_, odd_bl true, .inr (.inr (.inl ⟨_, rfl⟩)), fun n h => nomatch h⟩
        · exact ⟨_, odd_bl false, .inr (.inr (.inl ⟨_, rfl⟩)), fun n h => nomatch h⟩
        · exact ⟨_, odd_non, .inr (.inl rfl), fun n h => nomatch h⟩
        · exact ⟨_, odd_str _ (by decide +kernel), .inr (.inr (.inr (.inl ⟨_, rfl⟩))), fun n h => nomatch h⟩
        · exact ⟨_, odd_lst0 gb, .inr (.inr (.inr (.inr ⟨b, rfl, .inl ⟨[0], gb⟩⟩))), fun n h => nomatch h⟩
        · exact ⟨_, odd_tup gt, .inr (.inr (.inr (.inr ⟨t, rfl, .inr ⟨[], gt⟩⟩))), fun n h => nomatch h⟩
      obtain ⟨w1, w2, w3, w4⟩ := pair_shows odd
      refine ⟨_, rfl, _, rfl, 1, X, .int (d : Int), true, .number X, rfl, .inr ⟨rfl, intX, .odd (fun d' n h hx => ?_)⟩, hdeeds _, hs0 _, fun q22 H22 s22 n22 h22 => ?_⟩
      · injection h with h
        obtain rfl : d = d' := by omega
        have := bigX n hx
        omega
      refine ⟨q22, pairD (Str.ofString "number") dx, rfl, dp_pair h22 (odd.1 _ s22), w1, w2, Nat.le_trans w3 (by decide), by omega, ?_⟩
      refine ⟨_, rfl, by show 2 ≤ sizeLine; decide, fun e3 he3 => ⟨e3, pairD (Str.ofString "number") dx, rfl, dp_pair upd_same (odd.1 _ (Same.trans s22 (Same.new he3))), w1, w2, Nat.le_trans w3 (by decide), by omega, rfl, _, rfl, iteNS rfl ?_⟩⟩
      have s23 := Same.trans s22 (Same.new (o := .lst [.str (Str.ofString "number"), X]) he3)
      have p23 := p21.same s23
      have sH23 := Same.trans sH21 s23
      generalize upd H22 e3 (.lst [.str (Str.ofString "number"), X]) = H23 at p23 sH23 ⊢
      -- odd numbers of deeds
      refine ⟨_, rfl, ⟨by show 0 ≤ sizeLine; decide, fun b2 hb2 => ⟨_, _, rfl, rfl, ⟨by decide, by decide, by decide⟩, ⟨by show 8 ≤ sizeLine; decide, fun O2 hO2 => ?_⟩⟩⟩⟩
      have nb2 : b2 ≠ p := (p23.ne hb2).symm
      have nO2 : O2 ≠ p := ((p23.new hb2).ne hO2).symm
      have gb2 := Same.new (o := .lst [.int 0, .int 7, .int (-1), .bl true, .non, .str (Str.ofString "2"), .ref b2, .int ((10 : Int) ^ (30 : Int).toNat)]) hO2 _ _ (upd_same (H := H23) (a := b2) (o := .lst []))
      have gO2 := upd_same (H := upd H23 b2 (.lst [])) (a := O2) (o := .lst [.int 0, .int 7, .int (-1), .bl true, .non, .str (Str.ofString "2"), .ref b2, .int ((10 : Int) ^ (30 : Int).toNat)])
      have p24 := (p23.new (o := .lst []) hb2).new (o := .lst [.int 0, .int 7, .int (-1), .bl true, .non, .str (Str.ofString "2"), .ref b2, .int ((10 : Int) ^ (30 : Int).toNat)]) hO2
      have sH24 := Same.trans sH23 (Same.trans (Same.new (o := .lst []) hb2) (Same.new (o := .lst [.int 0, .int 7, .int (-1), .bl true, .non, .str (Str.ofString "2"), .ref b2, .int ((10 : Int) ^ (30 : Int).toNat)]) hO2))
      refine ⟨_, rfl, p, 8, rfl, p24, by decide, by decide, fun z2 H25 z20 z21 o25 p25 => ?_⟩
      have gb2 := o25 b2 _ nb2 gb2
      have gO2 := o25 O2 _ nO2 gO2
      have sH25 := Off.same hpn sH24 o25
      obtain ⟨Y, hY, mY⟩ := at_mem (L := [.int 0, .int 7, .int (-1), .bl true, .non, .str (Str.ofString "2"), .ref b2, .int ((10 : Int) ^ (30 : Int).toNat)]) z20 z21
      refine ⟨_, _, _, _, rfl, rfl, SqL.of gO2, hY, ?_⟩
      obtain ⟨dy, oddY, badY, strY⟩ : ∃ dy, Odd K H25 Y dy ∧ Deeds H25 Y 6 false ∧ ∀ s, Y = .str s → s.cps.all (· < 0x110000) := by
        simp only [List.mem_cons, List.not_mem_nil, or_false] at mY
        rcases mY with rfl | rfl | rfl | rfl | rfl | rfl | rfl | rfl
        · exact ⟨_, odd_int (by decide), .inl ⟨_, rfl, by decide⟩, fun s h => nomatch h⟩
        · exact ⟨_, odd_int (by decide), .inl ⟨_, rfl, by decide⟩, fun s h => nomatch h⟩
        · exact ⟨_, odd_int (by decide), .inl ⟨_, rfl, by decide⟩, fun s h => nomatch h⟩
        · exact ⟨_, odd_bl true, .inr ⟨.inr (.inl ⟨_, rfl⟩), rfl⟩, fun s h => nomatch h⟩
        · exact ⟨_, odd_non, .inr ⟨.inl rfl, rfl⟩, fun s h => nomatch h⟩
        · exact ⟨_, odd_str _ (by decide +kernel), .inr ⟨.inr (.inr (.inl ⟨_, rfl⟩)), rfl⟩, fun s h => by injection h with h; rw [← h]; decide +kernel⟩
        · exact ⟨_, odd_lst gb2, .inr ⟨.inr (.inr (.inr ⟨b2, rfl, .inl ⟨[], gb2⟩⟩)), rfl⟩, fun s h => nomatch h⟩
        · exact ⟨_, odd_int (by decide +kernel), .inl ⟨_, rfl, by decide⟩, fun s h => nomatch h⟩
      obtain ⟨y1, y2, y3, y4⟩ := two_shows oddY
      refine ⟨_, rfl, _, rfl, 0, .str (S l), Y, false, .number Y, rfl, .inl ⟨rfl, l, rfl, isr, .bad⟩, badY, strY, fun q26 H26 s26 n26 h26 => ?_⟩
      refine ⟨_, rfl, _, rfl, 1, .int (N : Int), Y, false, .number Y, rfl, .inr ⟨rfl, .inl ⟨_, rfl⟩, .bad⟩, badY.same s26, strY, fun q27 H27 s27 n27 h27 => ?_⟩
      refine ⟨by show 2 ≤ sizeLine; decide, fun R hR => ?_⟩
      have s28 : Same H25 (upd H27 R (.lst [.ref q26, .ref q27])) := Same.trans s26 (Same.trans s27 (Same.new hR))
      have d26 := dp_pair (K := K) (Same.trans s27 (Same.new (o := .lst [.ref q26, .ref q27]) hR) _ _ h26) (oddY.1 _ s28)
      have d27 := dp_pair (K := K) (Same.new (o := .lst [.ref q26, .ref q27]) hR _ _ h27) (oddY.1 _ s28)
      refine ⟨R, .list [pairD (Str.ofString "number") dy, pairD (Str.ofString "number") dy], rfl, .lst (Evl.sq_of upd_same) (.cons d26 (.cons d27 .nil)), y1, y2, y3, y4, ?_⟩
      generalize upd H27 R (.lst [.ref q26, .ref q27]) = H28 at s28 ⊢
      refine ⟨_, rfl, by show 2 ≤ sizeLine; decide, fun e4 he4 => ⟨by show 1 ≤ sizeLine; decide, fun e5 he5 => ?_⟩⟩
      refine ⟨e5, 2, [.ref e4], rfl, rfl, upd_same, by decide, by decide, (by show 1 * 2 ≤ sizeLine; decide), fun e6 he6 => ?_⟩
      have s29 := Same.trans s28 (Same.trans (Same.new (o := .lst [.str (Str.ofString "number"), Y]) he4) (Same.trans (Same.new (o := .lst [.ref e4]) he5) (Same.new (o := .lst [.ref e4, .ref e4]) he6)))
      have d4 := dp_pair (K := K) (Same.trans (Same.new (o := .lst [.ref e4]) he5) (Same.new (o := .lst [.ref e4, .ref e4]) he6) _ _ (upd_same (H := H28) (a := e4) (o := .lst [.str (Str.ofString "number"), Y]))) (oddY.1 _ s29)
      refine ⟨e6, .list [pairD (Str.ofString "number") dy, pairD (Str.ofString "number") dy], rfl, .lst (xs := [.ref e4, .ref e4]) (Evl.sq_of upd_same) (.cons d4 (.cons d4 .nil)), y1, y2, y3, y4, rfl, _, rfl, iteNS rfl ?_⟩
      exact ⟨_, _, _, _, _, _, _, _, _, _, _, _, _, _, rfl, Same.trans sH25 s29⟩
    · rintro σ H1 ⟨x1, x2, x3, x4, x5, x6, x7, x8, x9, x10, x11, x12, x13, x14, rfl, s1⟩
      exact k _
end
theorem all_mk {l : PySem.W.OpenLaw} {w : World} {K : PySem.W.Frag} {h : Heap} {mg : Str → Option Value} {fa : Addr} (X : K.In h) (G : h.Ns mainGlobals mg) (hfa : mg "law" = some (.ref fa))
    {t_DEEDS : Tok}
    {t_DIGITS : Tok}
    {t_MOST_SIGNS : Tok}
    {t_SIGNS : Tok}
    {C_NoNumber : Addr}
    {C_NoRow : Addr}
    {C_NoSign : Addr}
    {f_law_pool : Addr} {od_law_pool an_law_pool : Option Addr} {sl_law_pool : Array (Option Value)} {oc_law_pool kV_law_pool dc_law_pool pm_law_pool cd_law_pool ct_law_pool : Value}
    {f_law_take : Addr} {od_law_take an_law_take : Option Addr} {sl_law_take : Array (Option Value)} {oc_law_take kV_law_take dc_law_take pm_law_take cd_law_take ct_law_take : Value}
    {f_law_turned : Addr} {od_law_turned an_law_turned : Option Addr} {sl_law_turned : Array (Option Value)} {oc_law_turned kV_law_turned dc_law_turned pm_law_turned cd_law_turned ct_law_turned : Value}
    {f_law_row : Addr} {od_law_row an_law_row : Option Addr} {sl_law_row : Array (Option Value)} {oc_law_row kV_law_row dc_law_row pm_law_row cd_law_row ct_law_row : Value}
    {f_law_sum : Addr} {od_law_sum an_law_sum : Option Addr} {sl_law_sum : Array (Option Value)} {oc_law_sum kV_law_sum dc_law_sum pm_law_sum cd_law_sum ct_law_sum : Value}
    {f_is_row_within : Addr} {od_is_row_within an_is_row_within : Option Addr} {sl_is_row_within : Array (Option Value)} {oc_is_row_within kV_is_row_within dc_is_row_within pm_is_row_within cd_is_row_within ct_is_row_within : Value}
    {f_is_row : Addr} {od_is_row an_is_row : Option Addr} {sl_is_row : Array (Option Value)} {oc_is_row kV_is_row dc_is_row pm_is_row cd_is_row ct_is_row : Value}
    {f_look_at_row : Addr} {od_look_at_row an_look_at_row : Option Addr} {sl_look_at_row : Array (Option Value)} {oc_look_at_row kV_look_at_row dc_look_at_row pm_look_at_row cd_look_at_row ct_look_at_row : Value}
    {f_is_whole : Addr} {od_is_whole an_is_whole : Option Addr} {sl_is_whole : Array (Option Value)} {oc_is_whole kV_is_whole dc_is_whole pm_is_whole cd_is_whole ct_is_whole : Value}
    {f_NoNumber___init__ : Addr} {od_NoNumber___init__ an_NoNumber___init__ : Option Addr} {sl_NoNumber___init__ : Array (Option Value)} {oc_NoNumber___init__ kV_NoNumber___init__ dc_NoNumber___init__ pm_NoNumber___init__ cd_NoNumber___init__ ct_NoNumber___init__ : Value}
    {f_look_at_deeds : Addr} {od_look_at_deeds an_look_at_deeds : Option Addr} {sl_look_at_deeds : Array (Option Value)} {oc_look_at_deeds kV_look_at_deeds dc_look_at_deeds pm_look_at_deeds cd_look_at_deeds ct_look_at_deeds : Value}
    {f_NoSign___init__ : Addr} {od_NoSign___init__ an_NoSign___init__ : Option Addr} {sl_NoSign___init__ : Array (Option Value)} {oc_NoSign___init__ kV_NoSign___init__ dc_NoSign___init__ pm_NoSign___init__ cd_NoSign___init__ ct_NoSign___init__ : Value}
    {f_number_of : Addr} {od_number_of an_number_of : Option Addr} {sl_number_of : Array (Option Value)} {oc_number_of kV_number_of dc_number_of pm_number_of cd_number_of ct_number_of : Value}
    {T_number_of : Addr} {tc_number_of : Value} {tdd_number_of : Option Addr} {tn_number_of : Nat} {ts_number_of : Array (Option Value)} {td0_number_of : Tok}
    {f_row_at : Addr} {od_row_at an_row_at : Option Addr} {sl_row_at : Array (Option Value)} {oc_row_at kV_row_at dc_row_at pm_row_at cd_row_at ct_row_at : Value}
    {T_row_at : Addr} {tc_row_at : Value} {tdd_row_at : Option Addr} {tn_row_at : Nat} {ts_row_at : Array (Option Value)} {td0_row_at : Tok}
    {f_law_told : Addr} {od_law_told an_law_told : Option Addr} {sl_law_told : Array (Option Value)} {oc_law_told kV_law_told dc_law_told pm_law_told cd_law_told ct_law_told : Value}
    {f_law : Addr} {od_law an_law : Option Addr} {sl_law : Array (Option Value)} {oc_law kV_law dc_law pm_law cd_law ct_law : Value}
    (z_IndexError : PySem.W.nsIn K mainGlobals "IndexError" = some none)
    (z_KeyError : PySem.W.nsIn K mainGlobals "KeyError" = some none)
    (z_LookupError : PySem.W.nsIn K mainGlobals "LookupError" = some none)
    (z_ValueError : PySem.W.nsIn K mainGlobals "ValueError" = some none)
    (z_all : PySem.W.nsIn K mainGlobals "all" = some none)
    (z_bool : PySem.W.nsIn K mainGlobals "bool" = some none)
    (z_enumerate : PySem.W.nsIn K mainGlobals "enumerate" = some none)
    (z_int : PySem.W.nsIn K mainGlobals "int" = some none)
    (z_isinstance : PySem.W.nsIn K mainGlobals "isinstance" = some none)
    (z_len : PySem.W.nsIn K mainGlobals "len" = some none)
    (z_max : PySem.W.nsIn K mainGlobals "max" = some none)
    (z_min : PySem.W.nsIn K mainGlobals "min" = some none)
    (z_range : PySem.W.nsIn K mainGlobals "range" = some none)
    (z_repr : PySem.W.nsIn K mainGlobals "repr" = some none)
    (z_str : PySem.W.nsIn K mainGlobals "str" = some none)
    (n_DEEDS : PySem.W.nsIn K mainGlobals "DEEDS" = some (some (.str "abcdef" t_DEEDS)))
    (n_DIGITS : PySem.W.nsIn K mainGlobals "DIGITS" = some (some (.str "0123456789ab" t_DIGITS)))
    (n_MOST_SIGNS : PySem.W.nsIn K mainGlobals "MOST_SIGNS" = some (some (.int 60 t_MOST_SIGNS)))
    (n_SIGNS : PySem.W.nsIn K mainGlobals "SIGNS" = some (some (.str "aAbBcCdDeEfF" t_SIGNS)))
    (aC_NoNumber : PySem.W.nsIn K mainGlobals "NoNumber" = some (some (.ref C_NoNumber)))
    (xC_NoNumber : PySem.W.excInitIn K C_NoNumber [.type "LookupError", .type "Exception", .type "BaseException", .type "object"] "LookupError.__new__" = true)
    (kC_NoNumber : PySem.W.keepIn K (.ref C_NoNumber) = true)
    (bC_NoNumber : PySem.W.subIn K (.ref C_NoNumber) (.type "BaseException") = some true)
    (tC_NoNumber : PySem.W.typeIn K (.ref C_NoNumber) = some (.type "type"))
    (iC_NoNumber : PySem.W.isClsIn K C_NoNumber = true)
    (sC_NoNumber : PySem.W.subIn K (.ref C_NoNumber) (.ref C_NoNumber) = some true)
    (hg_NoNumber : PySem.W.findIn K (.ref C_NoNumber) "__getattribute__" = some (some (.builtin "BaseException.__getattribute__")))
    (hk_NoNumber : PySem.W.findIn K (.ref C_NoNumber) "__getattr__" = some none)
    (hd_NoNumber : PySem.W.hasDictIn K C_NoNumber = true)
    (ha_NoNumber : PySem.W.findIn K (.ref C_NoNumber) "__class__" = some (some (.builtin "object.__class__")))
    (hm_NoNumber : PySem.W.mroIn K C_NoNumber (.type "object") = some true)
    (oC_NoNumber : PySem.W.excOver K C_NoNumber [.type "LookupError", .type "Exception", .type "BaseException", .type "object"] = true)
    (sa_NoNumber : PySem.W.findIn K (.ref C_NoNumber) "__setattr__" = some (some (.builtin "object.__setattr__")))
    (aC_NoRow : PySem.W.nsIn K mainGlobals "NoRow" = some (some (.ref C_NoRow)))
    (xC_NoRow : PySem.W.excIn K C_NoRow [.type "ValueError", .type "Exception", .type "BaseException", .type "object"] "ValueError.__new__" = true)
    (kC_NoRow : PySem.W.keepIn K (.ref C_NoRow) = true)
    (bC_NoRow : PySem.W.subIn K (.ref C_NoRow) (.type "BaseException") = some true)
    (tC_NoRow : PySem.W.typeIn K (.ref C_NoRow) = some (.type "type"))
    (iC_NoRow : PySem.W.isClsIn K C_NoRow = true)
    (sC_NoRow : PySem.W.subIn K (.ref C_NoRow) (.ref C_NoRow) = some true)
    (hg_NoRow : PySem.W.findIn K (.ref C_NoRow) "__getattribute__" = some (some (.builtin "BaseException.__getattribute__")))
    (hk_NoRow : PySem.W.findIn K (.ref C_NoRow) "__getattr__" = some none)
    (hd_NoRow : PySem.W.hasDictIn K C_NoRow = true)
    (ha_NoRow : PySem.W.findIn K (.ref C_NoRow) "__class__" = some (some (.builtin "object.__class__")))
    (hm_NoRow : PySem.W.mroIn K C_NoRow (.type "object") = some true)
    (aC_NoSign : PySem.W.nsIn K mainGlobals "NoSign" = some (some (.ref C_NoSign)))
    (xC_NoSign : PySem.W.excInitIn K C_NoSign [.type "ValueError", .type "Exception", .type "BaseException", .type "object"] "ValueError.__new__" = true)
    (kC_NoSign : PySem.W.keepIn K (.ref C_NoSign) = true)
    (bC_NoSign : PySem.W.subIn K (.ref C_NoSign) (.type "BaseException") = some true)
    (tC_NoSign : PySem.W.typeIn K (.ref C_NoSign) = some (.type "type"))
    (iC_NoSign : PySem.W.isClsIn K C_NoSign = true)
    (sC_NoSign : PySem.W.subIn K (.ref C_NoSign) (.ref C_NoSign) = some true)
    (hg_NoSign : PySem.W.findIn K (.ref C_NoSign) "__getattribute__" = some (some (.builtin "BaseException.__getattribute__")))
    (hk_NoSign : PySem.W.findIn K (.ref C_NoSign) "__getattr__" = some none)
    (hd_NoSign : PySem.W.hasDictIn K C_NoSign = true)
    (ha_NoSign : PySem.W.findIn K (.ref C_NoSign) "__class__" = some (some (.builtin "object.__class__")))
    (hm_NoSign : PySem.W.mroIn K C_NoSign (.type "object") = some true)
    (oC_NoSign : PySem.W.excOver K C_NoSign [.type "ValueError", .type "Exception", .type "BaseException", .type "object"] = true)
    (sa_NoSign : PySem.W.findIn K (.ref C_NoSign) "__setattr__" = some (some (.builtin "object.__setattr__")))
    (hn : PySem.W.specialIn K (.builtin "object.__class__") "__get__" = some (some (.builtin "getset_descriptor.__get__")))
    (ht : PySem.W.takesIn K (.builtin "object.__class__") = some true)
    (w_LookupError : PySem.W.findCls K (.type "LookupError") (.type "type") "__init__" = some (.val (.builtin "LookupError.__init__")))
    (w_ValueError : PySem.W.findCls K (.type "ValueError") (.type "type") "__init__" = some (.val (.builtin "ValueError.__init__")))
    (y_NoNumber_number : PySem.W.findIn K (.ref C_NoNumber) "number" = some none)
    (y_NoSign_place : PySem.W.findIn K (.ref C_NoSign) "place" = some none)
    (f_s1 : PySem.W.subIn K (.ref C_NoSign) (.type "ValueError") = some true)
    (f_s2 : PySem.W.subIn K (.ref C_NoSign) (.type "LookupError") = some false)
    (f_s3 : PySem.W.subIn K (.ref C_NoSign) (.ref C_NoRow) = some false)
    (f_s4 : PySem.W.subIn K (.ref C_NoNumber) (.ref C_NoSign) = some false)
    (f_s5 : PySem.W.subIn K (.ref C_NoNumber) (.type "LookupError") = some true)
    (f_s6 : PySem.W.subIn K (.ref C_NoNumber) (.type "KeyError") = some false)
    (f_s7 : PySem.W.subIn K (.ref C_NoNumber) (.type "IndexError") = some false)
    (a_law_pool : PySem.W.nsIn K mainGlobals "_law_pool" = some (some (.ref f_law_pool)))
    (l_law_pool : K.lookup f_law_pool = some ⟨oc_law_pool, od_law_pool, .func (PySem.W.fnOf "_law_pool" "_law_pool" (defArgs s_law_pool) (defBody s_law_pool) (defScope s_law_pool) .none kV_law_pool dc_law_pool pm_law_pool an_law_pool cd_law_pool ct_law_pool), sl_law_pool⟩)
    (c_law_pool : PySem.W.codeIn K cd_law_pool "_law_pool" = true)
    (k_law_pool : PySem.W.keepIn K (.ref f_law_pool) = true)
    (a_law_take : PySem.W.nsIn K mainGlobals "_law_take" = some (some (.ref f_law_take)))
    (l_law_take : K.lookup f_law_take = some ⟨oc_law_take, od_law_take, .func (PySem.W.fnOf "_law_take" "_law_take" (defArgs s_law_take) (defBody s_law_take) (defScope s_law_take) .none kV_law_take dc_law_take pm_law_take an_law_take cd_law_take ct_law_take), sl_law_take⟩)
    (c_law_take : PySem.W.codeIn K cd_law_take "_law_take" = true)
    (k_law_take : PySem.W.keepIn K (.ref f_law_take) = true)
    (a_law_turned : PySem.W.nsIn K mainGlobals "_law_turned" = some (some (.ref f_law_turned)))
    (l_law_turned : K.lookup f_law_turned = some ⟨oc_law_turned, od_law_turned, .func (PySem.W.fnOf "_law_turned" "_law_turned" (defArgs s_law_turned) (defBody s_law_turned) (defScope s_law_turned) .none kV_law_turned dc_law_turned pm_law_turned an_law_turned cd_law_turned ct_law_turned), sl_law_turned⟩)
    (c_law_turned : PySem.W.codeIn K cd_law_turned "_law_turned" = true)
    (k_law_turned : PySem.W.keepIn K (.ref f_law_turned) = true)
    (a_law_row : PySem.W.nsIn K mainGlobals "_law_row" = some (some (.ref f_law_row)))
    (l_law_row : K.lookup f_law_row = some ⟨oc_law_row, od_law_row, .func (PySem.W.fnOf "_law_row" "_law_row" (defArgs s_law_row) (defBody s_law_row) (defScope s_law_row) .none kV_law_row dc_law_row pm_law_row an_law_row cd_law_row ct_law_row), sl_law_row⟩)
    (c_law_row : PySem.W.codeIn K cd_law_row "_law_row" = true)
    (k_law_row : PySem.W.keepIn K (.ref f_law_row) = true)
    (a_law_sum : PySem.W.nsIn K mainGlobals "_law_sum" = some (some (.ref f_law_sum)))
    (l_law_sum : K.lookup f_law_sum = some ⟨oc_law_sum, od_law_sum, .func (PySem.W.fnOf "_law_sum" "_law_sum" (defArgs s_law_sum) (defBody s_law_sum) (defScope s_law_sum) .none kV_law_sum dc_law_sum pm_law_sum an_law_sum cd_law_sum ct_law_sum), sl_law_sum⟩)
    (c_law_sum : PySem.W.codeIn K cd_law_sum "_law_sum" = true)
    (k_law_sum : PySem.W.keepIn K (.ref f_law_sum) = true)
    (a_is_row_within : PySem.W.nsIn K mainGlobals "is_row_within" = some (some (.ref f_is_row_within)))
    (l_is_row_within : K.lookup f_is_row_within = some ⟨oc_is_row_within, od_is_row_within, .func (PySem.W.fnOf "is_row_within" "is_row_within" (defArgs s_is_row_within) (defBody s_is_row_within) (defScope s_is_row_within) .none kV_is_row_within dc_is_row_within pm_is_row_within an_is_row_within cd_is_row_within ct_is_row_within), sl_is_row_within⟩)
    (c_is_row_within : PySem.W.codeIn K cd_is_row_within "is_row_within" = true)
    (k_is_row_within : PySem.W.keepIn K (.ref f_is_row_within) = true)
    (a_is_row : PySem.W.nsIn K mainGlobals "is_row" = some (some (.ref f_is_row)))
    (l_is_row : K.lookup f_is_row = some ⟨oc_is_row, od_is_row, .func (PySem.W.fnOf "is_row" "is_row" (defArgs s_is_row) (defBody s_is_row) (defScope s_is_row) .none kV_is_row dc_is_row pm_is_row an_is_row cd_is_row ct_is_row), sl_is_row⟩)
    (c_is_row : PySem.W.codeIn K cd_is_row "is_row" = true)
    (k_is_row : PySem.W.keepIn K (.ref f_is_row) = true)
    (a_look_at_row : PySem.W.nsIn K mainGlobals "look_at_row" = some (some (.ref f_look_at_row)))
    (l_look_at_row : K.lookup f_look_at_row = some ⟨oc_look_at_row, od_look_at_row, .func (PySem.W.fnOf "look_at_row" "look_at_row" (defArgs s_look_at_row) (defBody s_look_at_row) (defScope s_look_at_row) .none kV_look_at_row dc_look_at_row pm_look_at_row an_look_at_row cd_look_at_row ct_look_at_row), sl_look_at_row⟩)
    (c_look_at_row : PySem.W.codeIn K cd_look_at_row "look_at_row" = true)
    (k_look_at_row : PySem.W.keepIn K (.ref f_look_at_row) = true)
    (a_is_whole : PySem.W.nsIn K mainGlobals "is_whole" = some (some (.ref f_is_whole)))
    (l_is_whole : K.lookup f_is_whole = some ⟨oc_is_whole, od_is_whole, .func (PySem.W.fnOf "is_whole" "is_whole" (defArgs s_is_whole) (defBody s_is_whole) (defScope s_is_whole) .none kV_is_whole dc_is_whole pm_is_whole an_is_whole cd_is_whole ct_is_whole), sl_is_whole⟩)
    (c_is_whole : PySem.W.codeIn K cd_is_whole "is_whole" = true)
    (k_is_whole : PySem.W.keepIn K (.ref f_is_whole) = true)
    (a_NoNumber___init__ : PySem.W.findIn K (.ref C_NoNumber) "__init__" = some (some (.ref f_NoNumber___init__)))
    (l_NoNumber___init__ : K.lookup f_NoNumber___init__ = some ⟨oc_NoNumber___init__, od_NoNumber___init__, .func (PySem.W.fnOf "__init__" "NoNumber.__init__" (defArgs s_NoNumber___init__) (defBody s_NoNumber___init__) (defScope s_NoNumber___init__) .none kV_NoNumber___init__ dc_NoNumber___init__ pm_NoNumber___init__ an_NoNumber___init__ cd_NoNumber___init__ ct_NoNumber___init__), sl_NoNumber___init__⟩)
    (c_NoNumber___init__ : PySem.W.codeIn K cd_NoNumber___init__ "NoNumber.__init__" = true)
    (k_NoNumber___init__ : PySem.W.keepIn K (.ref f_NoNumber___init__) = true)
    (u_NoNumber___init__ : PySem.W.typeIn K (.ref f_NoNumber___init__) = some (.type "function"))
    (a_look_at_deeds : PySem.W.nsIn K mainGlobals "look_at_deeds" = some (some (.ref f_look_at_deeds)))
    (l_look_at_deeds : K.lookup f_look_at_deeds = some ⟨oc_look_at_deeds, od_look_at_deeds, .func (PySem.W.fnOf "look_at_deeds" "look_at_deeds" (defArgs s_look_at_deeds) (defBody s_look_at_deeds) (defScope s_look_at_deeds) .none kV_look_at_deeds dc_look_at_deeds pm_look_at_deeds an_look_at_deeds cd_look_at_deeds ct_look_at_deeds), sl_look_at_deeds⟩)
    (c_look_at_deeds : PySem.W.codeIn K cd_look_at_deeds "look_at_deeds" = true)
    (k_look_at_deeds : PySem.W.keepIn K (.ref f_look_at_deeds) = true)
    (a_NoSign___init__ : PySem.W.findIn K (.ref C_NoSign) "__init__" = some (some (.ref f_NoSign___init__)))
    (l_NoSign___init__ : K.lookup f_NoSign___init__ = some ⟨oc_NoSign___init__, od_NoSign___init__, .func (PySem.W.fnOf "__init__" "NoSign.__init__" (defArgs s_NoSign___init__) (defBody s_NoSign___init__) (defScope s_NoSign___init__) .none kV_NoSign___init__ dc_NoSign___init__ pm_NoSign___init__ an_NoSign___init__ cd_NoSign___init__ ct_NoSign___init__), sl_NoSign___init__⟩)
    (c_NoSign___init__ : PySem.W.codeIn K cd_NoSign___init__ "NoSign.__init__" = true)
    (k_NoSign___init__ : PySem.W.keepIn K (.ref f_NoSign___init__) = true)
    (u_NoSign___init__ : PySem.W.typeIn K (.ref f_NoSign___init__) = some (.type "function"))
    (a_number_of : PySem.W.nsIn K mainGlobals "number_of" = some (some (.ref f_number_of)))
    (l_number_of : K.lookup f_number_of = some ⟨oc_number_of, od_number_of, .func (PySem.W.fnOf "number_of" "number_of" (defArgs s_number_of) (defBody s_number_of) (defScope s_number_of) (.ref T_number_of) kV_number_of dc_number_of pm_number_of an_number_of cd_number_of ct_number_of), sl_number_of⟩)
    (t_number_of : K.lookup T_number_of = some ⟨tc_number_of, tdd_number_of, .seq #[.int 2 td0_number_of] tn_number_of, ts_number_of⟩)
    (c_number_of : PySem.W.codeIn K cd_number_of "number_of" = true)
    (k_number_of : PySem.W.keepIn K (.ref f_number_of) = true)
    (a_row_at : PySem.W.nsIn K mainGlobals "row_at" = some (some (.ref f_row_at)))
    (l_row_at : K.lookup f_row_at = some ⟨oc_row_at, od_row_at, .func (PySem.W.fnOf "row_at" "row_at" (defArgs s_row_at) (defBody s_row_at) (defScope s_row_at) (.ref T_row_at) kV_row_at dc_row_at pm_row_at an_row_at cd_row_at ct_row_at), sl_row_at⟩)
    (t_row_at : K.lookup T_row_at = some ⟨tc_row_at, tdd_row_at, .seq #[.int 2 td0_row_at] tn_row_at, ts_row_at⟩)
    (c_row_at : PySem.W.codeIn K cd_row_at "row_at" = true)
    (k_row_at : PySem.W.keepIn K (.ref f_row_at) = true)
    (a_law_told : PySem.W.nsIn K mainGlobals "_law_told" = some (some (.ref f_law_told)))
    (l_law_told : K.lookup f_law_told = some ⟨oc_law_told, od_law_told, .func (PySem.W.fnOf "_law_told" "_law_told" (defArgs s_law_told) (defBody s_law_told) (defScope s_law_told) .none kV_law_told dc_law_told pm_law_told an_law_told cd_law_told ct_law_told), sl_law_told⟩)
    (c_law_told : PySem.W.codeIn K cd_law_told "_law_told" = true)
    (k_law_told : PySem.W.keepIn K (.ref f_law_told) = true)
    (a_law : PySem.W.nsIn K mainGlobals "law" = some (some (.ref f_law)))
    (l_law : K.lookup f_law = some ⟨oc_law, od_law, .func (PySem.W.fnOf "law" "law" (defArgs s_law) (defBody s_law) (defScope s_law) .none kV_law dc_law pm_law an_law cd_law ct_law), sl_law⟩)
    (c_law : PySem.W.codeIn K cd_law "law" = true)
    (k_law : PySem.W.keepIn K (.ref f_law) = true) :
    ∃ fd : FuncData, (∀ (s : Shared) (v : Value), BindsTo s fd ⟨[v], []⟩ [("_law_script", v)]) ∧ ∀ base : Heap, K.In base → base.Ns mainGlobals mg → FnG l.prog w K mg base CX0 6 fa fd ["_law_script"] (sp_law K) := by
  have e := hfa.symm.trans (PySem.W.mg_of X G a_law)
  cases e
  have T : Txt K mg C_NoNumber C_NoRow C_NoSign := ⟨PySem.W.mg_none_of X G z_IndexError, PySem.W.mg_none_of X G z_KeyError, PySem.W.mg_none_of X G z_LookupError, PySem.W.mg_none_of X G z_ValueError, PySem.W.mg_none_of X G z_all, PySem.W.mg_none_of X G z_bool, PySem.W.mg_none_of X G z_enumerate, PySem.W.mg_none_of X G z_int, PySem.W.mg_none_of X G z_isinstance, PySem.W.mg_none_of X G z_len, PySem.W.mg_none_of X G z_max, PySem.W.mg_none_of X G z_min, PySem.W.mg_none_of X G z_range, PySem.W.mg_none_of X G z_repr, PySem.W.mg_none_of X G z_str, ⟨_, PySem.W.mg_of X G n_DEEDS, ⟨_, rfl⟩⟩, ⟨_, PySem.W.mg_of X G n_DIGITS, ⟨_, rfl⟩⟩, ⟨_, PySem.W.mg_of X G n_MOST_SIGNS, ⟨_, rfl⟩⟩, ⟨_, PySem.W.mg_of X G n_SIGNS, ⟨_, rfl⟩⟩, w_LookupError, w_ValueError, y_NoNumber_number, y_NoSign_place, ⟨PySem.W.mg_of X G aC_NoNumber, ⟨PySem.F.excBase_LookupError, PySem.F.store_LookupError, xC_NoNumber, oC_NoNumber, hd_NoNumber, sa_NoNumber, bC_NoNumber, tC_NoNumber, kC_NoNumber⟩, iC_NoNumber, sC_NoNumber, ⟨hg_NoNumber, hk_NoNumber, bC_NoNumber, hd_NoNumber, ha_NoNumber, hn, ht, hm_NoNumber⟩, ⟨hg_NoNumber, hk_NoNumber, bC_NoNumber, hd_NoNumber⟩⟩, ⟨PySem.W.mg_of X G aC_NoRow, xC_NoRow, kC_NoRow, bC_NoRow, tC_NoRow, iC_NoRow, sC_NoRow, ⟨hg_NoRow, hk_NoRow, bC_NoRow, hd_NoRow, ha_NoRow, hn, ht, hm_NoRow⟩⟩, ⟨PySem.W.mg_of X G aC_NoSign, ⟨PySem.F.excBase_ValueError, PySem.F.store_ValueError, xC_NoSign, oC_NoSign, hd_NoSign, sa_NoSign, bC_NoSign, tC_NoSign, kC_NoSign⟩, iC_NoSign, sC_NoSign, ⟨hg_NoSign, hk_NoSign, bC_NoSign, hd_NoSign, ha_NoSign, hn, ht, hm_NoSign⟩, ⟨hg_NoSign, hk_NoSign, bC_NoSign, hd_NoSign⟩⟩, f_s1, f_s2, f_s3, f_s4, f_s5, f_s6, f_s7⟩
  have F_law_pool := fun_mk (st := s_law_pool) l_law_pool c_law_pool k_law_pool
  have b_law_pool := F_law_pool.binds (ps := ["_law_script", "_law_k"]) fun _ _ _ _ _ _ us hl => match us, hl with | [_, _], _ => rfl
  have F_law_take := fun_mk (st := s_law_take) l_law_take c_law_take k_law_take
  have b_law_take := F_law_take.binds (ps := ["_law_pool_here", "_law_many"]) fun _ _ _ _ _ _ us hl => match us, hl with | [_, _], _ => rfl
  have F_law_turned := fun_mk (st := s_law_turned) l_law_turned c_law_turned k_law_turned
  have b_law_turned := F_law_turned.binds (ps := ["_law_text"]) fun _ _ _ _ _ _ us hl => match us, hl with | [_], _ => rfl
  have F_law_row := fun_mk (st := s_law_row) l_law_row c_law_row k_law_row
  have b_law_row := F_law_row.binds (ps := ["_law_pool_here", "_law_most", "_law_deeds"]) fun _ _ _ _ _ _ us hl => match us, hl with | [_, _, _], _ => rfl
  have F_law_sum := fun_mk (st := s_law_sum) l_law_sum c_law_sum k_law_sum
  have b_law_sum := F_law_sum.binds (ps := ["_law_row_here", "_law_deeds"]) fun _ _ _ _ _ _ us hl => match us, hl with | [_, _], _ => rfl
  have F_is_row_within := fun_mk (st := s_is_row_within) l_is_row_within c_is_row_within k_is_row_within
  have b_is_row_within := F_is_row_within.binds (ps := ["thing", "most"]) fun _ _ _ _ _ _ us hl => match us, hl with | [_, _], _ => rfl
  have F_is_row := fun_mk (st := s_is_row) l_is_row c_is_row k_is_row
  have b_is_row := F_is_row.binds (ps := ["thing"]) fun _ _ _ _ _ _ us hl => match us, hl with | [_], _ => rfl
  have F_look_at_row := fun_mk (st := s_look_at_row) l_look_at_row c_look_at_row k_look_at_row
  have b_look_at_row := F_look_at_row.binds (ps := ["thing"]) fun _ _ _ _ _ _ us hl => match us, hl with | [_], _ => rfl
  have F_is_whole := fun_mk (st := s_is_whole) l_is_whole c_is_whole k_is_whole
  have b_is_whole := F_is_whole.binds (ps := ["thing"]) fun _ _ _ _ _ _ us hl => match us, hl with | [_], _ => rfl
  have F_NoNumber___init__ := fun_mk (st := s_NoNumber___init__) l_NoNumber___init__ c_NoNumber___init__ k_NoNumber___init__
  have b_NoNumber___init__ := F_NoNumber___init__.binds (ps := ["self", "number"]) fun _ _ _ _ _ _ us hl => match us, hl with | [_, _], _ => rfl
  have F_look_at_deeds := fun_mk (st := s_look_at_deeds) l_look_at_deeds c_look_at_deeds k_look_at_deeds
  have b_look_at_deeds := F_look_at_deeds.binds (ps := ["deeds", "most"]) fun _ _ _ _ _ _ us hl => match us, hl with | [_, _], _ => rfl
  have F_NoSign___init__ := fun_mk (st := s_NoSign___init__) l_NoSign___init__ c_NoSign___init__ k_NoSign___init__
  have b_NoSign___init__ := F_NoSign___init__.binds (ps := ["self", "place"]) fun _ _ _ _ _ _ us hl => match us, hl with | [_, _], _ => rfl
  have F_number_of := funD_mk (st := s_number_of) (its := [.int 2 td0_number_of]) (dvs := [.int 2]) l_number_of c_number_of k_number_of t_number_of rfl (.cons ⟨_, rfl⟩ .nil) (by simp)
  obtain ⟨ds_number_of, v_number_of, b_number_of⟩ := FunD.binds1 F_number_of (ps := ["row", "deeds"]) 2 1 (by simp) rfl fun _ _ _ _ _ _ _ us its hu hi => match us, hu, its, hi with | [_, _], _, [_], _ => ⟨_, rfl, rfl⟩
  obtain ⟨ds_number_of_d1, v_number_of_d1, b_number_of_d1⟩ := FunD.binds1 F_number_of (ps := ["row", "deeds"]) 1 0 (by simp) rfl fun _ _ _ _ _ _ _ us its hu hi => match us, hu, its, hi with | [_], _, [_], _ => ⟨_, rfl, rfl⟩
  have F_row_at := funD_mk (st := s_row_at) (its := [.int 2 td0_row_at]) (dvs := [.int 2]) l_row_at c_row_at k_row_at t_row_at rfl (.cons ⟨_, rfl⟩ .nil) (by simp)
  obtain ⟨ds_row_at, v_row_at, b_row_at⟩ := FunD.binds1 F_row_at (ps := ["number", "deeds"]) 2 1 (by simp) rfl fun _ _ _ _ _ _ _ us its hu hi => match us, hu, its, hi with | [_, _], _, [_], _ => ⟨_, rfl, rfl⟩
  obtain ⟨ds_row_at_d1, v_row_at_d1, b_row_at_d1⟩ := FunD.binds1 F_row_at (ps := ["number", "deeds"]) 1 0 (by simp) rfl fun _ _ _ _ _ _ _ us its hu hi => match us, hu, its, hi with | [_], _, [_], _ => ⟨_, rfl, rfl⟩
  have F_law_told := fun_mk (st := s_law_told) l_law_told c_law_told k_law_told
  have b_law_told := F_law_told.binds (ps := ["_law_door", "_law_thing", "_law_deeds"]) fun _ _ _ _ _ _ us hl => match us, hl with | [_, _, _], _ => rfl
  have F_law := fun_mk (st := s_law) l_law c_law k_law
  refine ⟨PySem.W.fnOf "law" "law" (defArgs s_law) (defBody s_law) (defScope s_law) .none kV_law dc_law pm_law an_law cd_law ct_law, fun s v => .of_eq rfl, fun base _ _ => ?_⟩
  have N_law_pool : KN l.prog w K mg base CX0 1 ["_law_script", "_law_k"] (sp_law_pool K) "_law_pool" [] := ⟨_, _, [], PySem.W.mg_of X G a_law_pool, k_law_pool, .nil, b_law_pool, ok_law_pool F_law_pool T⟩
  have N_law_take : KN l.prog w K mg base CX0 1 ["_law_pool_here", "_law_many"] (sp_law_take) "_law_take" [] := ⟨_, _, [], PySem.W.mg_of X G a_law_take, k_law_take, .nil, b_law_take, ok_law_take F_law_take T⟩
  have N_law_turned : KN l.prog w K mg base CX0 1 ["_law_text"] (sp_law_turned) "_law_turned" [] := ⟨_, _, [], PySem.W.mg_of X G a_law_turned, k_law_turned, .nil, b_law_turned, ok_law_turned F_law_turned T⟩
  have N_law_row : KN l.prog w K mg base CX0 2 ["_law_pool_here", "_law_most", "_law_deeds"] (sp_law_row) "_law_row" [] := ⟨_, _, [], PySem.W.mg_of X G a_law_row, k_law_row, .nil, b_law_row, ok_law_row F_law_row T N_law_take N_law_turned⟩
  have N_law_sum : KN l.prog w K mg base CX0 1 ["_law_row_here", "_law_deeds"] (sp_law_sum) "_law_sum" [] := ⟨_, _, [], PySem.W.mg_of X G a_law_sum, k_law_sum, .nil, b_law_sum, ok_law_sum F_law_sum T⟩
  have N_is_row_within : KN l.prog w K mg base CX0 1 ["thing", "most"] (sp_is_row_within) "is_row_within" [] := ⟨_, _, [], PySem.W.mg_of X G a_is_row_within, k_is_row_within, .nil, b_is_row_within, ok_is_row_within F_is_row_within T⟩
  have N_is_row : KN l.prog w K mg base CX0 2 ["thing"] (sp_is_row) "is_row" [] := ⟨_, _, [], PySem.W.mg_of X G a_is_row, k_is_row, .nil, b_is_row, ok_is_row F_is_row T N_is_row_within⟩
  have N_look_at_row : KN l.prog w K mg base CX0 3 ["thing"] (sp_look_at_row) "look_at_row" [] := ⟨_, _, [], PySem.W.mg_of X G a_look_at_row, k_look_at_row, .nil, b_look_at_row, ok_look_at_row F_look_at_row T N_is_row⟩
  have N_is_whole : KN l.prog w K mg base CX0 1 ["thing"] (sp_is_whole) "is_whole" [] := ⟨_, _, [], PySem.W.mg_of X G a_is_whole, k_is_whole, .nil, b_is_whole, ok_is_whole F_is_whole T⟩
  have N_NoNumber___init__ : KM l.prog w K mg base CX0 1 ["self", "number"] (sp_NoNumber___init__ C_NoNumber) C_NoNumber "__init__" [] := ⟨_, _, [], a_NoNumber___init__, u_NoNumber___init__, .nil, b_NoNumber___init__, ok_NoNumber___init__ F_NoNumber___init__ T⟩
  have N_look_at_deeds : KN l.prog w K mg base (L2.CX l.prog w) 3 ["deeds", "most"] (sp_look_at_deeds C_NoNumber) "look_at_deeds" [] := ⟨_, _, [], PySem.W.mg_of X G a_look_at_deeds, k_look_at_deeds, .nil, b_look_at_deeds, ok_look_at_deeds F_look_at_deeds T N_is_whole N_NoNumber___init__⟩
  have N_NoSign___init__ : KM l.prog w K mg base CX0 1 ["self", "place"] (sp_NoSign___init__ C_NoSign) C_NoSign "__init__" [] := ⟨_, _, [], a_NoSign___init__, u_NoSign___init__, .nil, b_NoSign___init__, ok_NoSign___init__ F_NoSign___init__ T⟩
  have N_number_of : KN l.prog w K mg base (L2.CX l.prog w) 4 ["row", "deeds"] (sp_number_of C_NoSign C_NoNumber) "number_of" [] := ⟨_, _, _, PySem.W.mg_of X G a_number_of, k_number_of, v_number_of, b_number_of, ok_number_of F_number_of T N_look_at_row N_look_at_deeds N_NoSign___init__⟩
  have N_number_of_d1 : KN l.prog w K mg base (L2.CX l.prog w) 4 ["row", "deeds"] (sp_number_of C_NoSign C_NoNumber) "number_of" [.int 2] := ⟨_, _, _, PySem.W.mg_of X G a_number_of, k_number_of, v_number_of_d1, b_number_of_d1, ok_number_of F_number_of T N_look_at_row N_look_at_deeds N_NoSign___init__⟩
  have N_row_at : KN l.prog w K mg base (L2.CX l.prog w) 4 ["number", "deeds"] (sp_row_at C_NoSign C_NoNumber) "row_at" [] := ⟨_, _, _, PySem.W.mg_of X G a_row_at, k_row_at, v_row_at, b_row_at, ok_row_at F_row_at T N_look_at_deeds N_is_whole N_NoNumber___init__⟩
  have N_row_at_d1 : KN l.prog w K mg base (L2.CX l.prog w) 4 ["number", "deeds"] (sp_row_at C_NoSign C_NoNumber) "row_at" [.int 2] := ⟨_, _, _, PySem.W.mg_of X G a_row_at, k_row_at, v_row_at_d1, b_row_at_d1, ok_row_at F_row_at T N_look_at_deeds N_is_whole N_NoNumber___init__⟩
  have N_law_told : KN l.prog w K mg base CX0 5 ["_law_door", "_law_thing", "_law_deeds"] (sp_law_told C_NoSign C_NoNumber) "_law_told" [] := ⟨_, _, [], PySem.W.mg_of X G a_law_told, k_law_told, .nil, b_law_told, ok_law_told F_law_told T N_number_of_d1 N_number_of N_row_at_d1 N_row_at⟩
  exact ok_law F_law T N_law_pool N_law_take N_law_row N_law_sum N_law_told
theorem walk {l : PySem.W.OpenLaw} {q : Program} {loose : List Str} {XP : (Str → Option Value) → Heap → Prop} {YP : World → Heap → Prop} {d : DefRec} {K : Params → PySem.W.Frag} (hn : l.most = some 63) (hdf : d.params.defaults = [])
    (hY : ∀ (w : World) (h : Heap), YP w h → (K w.params).In h)
    (F : ∀ (w : World) (mg : Str → Option Value) (fa : Addr) (h : Heap), (K w.params).In h → h.Ns mainGlobals mg → mg d.name = some (.ref fa) →
      ∃ fd : FuncData, (∀ (s : Shared) (u : Value), BindsTo s fd ⟨[u], []⟩ [("_law_script", u)]) ∧ ∀ base : Heap, (K w.params).In base → base.Ns mainGlobals mg → FnG l.prog w (K w.params) mg base CX0 6 fa fd ["_law_script"] (sp_law (K w.params))) :
    PySem.W.WalkO q loose XP YP l.row.toRowW d [] (fun f vs => PySem.call f vs) :=
  L2.walk_ofG (n := 63) (k := 6) (x := "_law_script") (sp := fun w => sp_law (K w.params)) hn (by decide) hdf ⟨rfl, by decide, by decide⟩ hY F (fun _ _ a ns hl _ hS => ⟨a, ns, rfl, hS, hl, fun _ => rfl⟩)
end Toy

open PySem PySem.W PyProof.Rows in
set_option maxRecDepth 100000 in
set_option maxHeartbeats 0 in
theorem PySem.Challenge.cw_undotrees_k04_rows_by_numbers_holds : PySem.Challenge.rw_undotrees_k04_rows_by_numbers.Holds := by
  w_on; o_law; k_head; (case hw => w_witness2)
  k_fill
  refine Toy.walk (l := PySem.Challenge.rw_undotrees_k04_rows_by_numbers) rfl rfl (fun w h Y => PySem.W.kIn_of Y) ?F
  case F =>
    intro w mg fa h KX G hmg
    refine' Toy.all_mk KX G hmg ?z_IndexError ?z_KeyError ?z_LookupError ?z_ValueError ?z_all ?z_bool ?z_enumerate ?z_int ?z_isinstance ?z_len ?z_max ?z_min ?z_range ?z_repr ?z_str ?n_DEEDS ?n_DIGITS ?n_MOST_SIGNS ?n_SIGNS ?aC_NoNumber ?xC_NoNumber ?kC_NoNumber ?bC_NoNumber ?tC_NoNumber ?iC_NoNumber ?sC_NoNumber ?hg_NoNumber ?hk_NoNumber ?hd_NoNumber ?ha_NoNumber ?hm_NoNumber ?oC_NoNumber ?sa_NoNumber ?aC_NoRow ?xC_NoRow ?kC_NoRow ?bC_NoRow ?tC_NoRow ?iC_NoRow ?sC_NoRow ?hg_NoRow ?hk_NoRow ?hd_NoRow ?ha_NoRow ?hm_NoRow ?aC_NoSign ?xC_NoSign ?kC_NoSign ?bC_NoSign ?tC_NoSign ?iC_NoSign ?sC_NoSign ?hg_NoSign ?hk_NoSign ?hd_NoSign ?ha_NoSign ?hm_NoSign ?oC_NoSign ?sa_NoSign ?hn ?ht ?w_LookupError ?w_ValueError ?y_NoNumber_number ?y_NoSign_place ?f_s1 ?f_s2 ?f_s3 ?f_s4 ?f_s5 ?f_s6 ?f_s7 ?a_law_pool ?l_law_pool ?c_law_pool ?k_law_pool ?a_law_take ?l_law_take ?c_law_take ?k_law_take ?a_law_turned ?l_law_turned ?c_law_turned ?k_law_turned ?a_law_row ?l_law_row ?c_law_row ?k_law_row ?a_law_sum ?l_law_sum ?c_law_sum ?k_law_sum ?a_is_row_within ?l_is_row_within ?c_is_row_within ?k_is_row_within ?a_is_row ?l_is_row ?c_is_row ?k_is_row ?a_look_at_row ?l_look_at_row ?c_look_at_row ?k_look_at_row ?a_is_whole ?l_is_whole ?c_is_whole ?k_is_whole ?a_NoNumber___init__ ?l_NoNumber___init__ ?c_NoNumber___init__ ?k_NoNumber___init__ ?u_NoNumber___init__ ?a_look_at_deeds ?l_look_at_deeds ?c_look_at_deeds ?k_look_at_deeds ?a_NoSign___init__ ?l_NoSign___init__ ?c_NoSign___init__ ?k_NoSign___init__ ?u_NoSign___init__ ?a_number_of ?l_number_of ?t_number_of ?c_number_of ?k_number_of ?a_row_at ?l_row_at ?t_row_at ?c_row_at ?k_row_at ?a_law_told ?l_law_told ?c_law_told ?k_law_told ?a_law ?l_law ?c_law ?k_law
    (case z_IndexError => k_is)
    (case z_KeyError => k_is)
    (case z_LookupError => k_is)
    (case z_ValueError => k_is)
    (case z_all => k_is)
    (case z_bool => k_is)
    (case z_enumerate => k_is)
    (case z_int => k_is)
    (case z_isinstance => k_is)
    (case z_len => k_is)
    (case z_max => k_is)
    (case z_min => k_is)
    (case z_range => k_is)
    (case z_repr => k_is)
    (case z_str => k_is)
    (case n_DEEDS => k_is)
    (case n_DIGITS => k_is)
    (case n_MOST_SIGNS => k_is)
    (case n_SIGNS => k_is)
    (case aC_NoNumber => k_is)
    (case xC_NoNumber => kx_is)
    (case kC_NoNumber => k_is)
    (case bC_NoNumber => k_is)
    (case tC_NoNumber => k_is)
    (case iC_NoNumber => k_is)
    (case sC_NoNumber => first | rfl | k_is)
    (case hg_NoNumber => k_is)
    (case hk_NoNumber => k_is)
    (case hd_NoNumber => k_is)
    (case ha_NoNumber => k_is)
    (case hm_NoNumber => k_is)
    (case oC_NoNumber => kx_is)
    (case sa_NoNumber => k_is)
    (case aC_NoRow => k_is)
    (case xC_NoRow => k_exc)
    (case kC_NoRow => k_is)
    (case bC_NoRow => k_is)
    (case tC_NoRow => k_is)
    (case iC_NoRow => k_is)
    (case sC_NoRow => first | rfl | k_is)
    (case hg_NoRow => k_is)
    (case hk_NoRow => k_is)
    (case hd_NoRow => k_is)
    (case ha_NoRow => k_is)
    (case hm_NoRow => k_is)
    (case aC_NoSign => k_is)
    (case xC_NoSign => kx_is)
    (case kC_NoSign => k_is)
    (case bC_NoSign => k_is)
    (case tC_NoSign => k_is)
    (case iC_NoSign => k_is)
    (case sC_NoSign => first | rfl | k_is)
    (case hg_NoSign => k_is)
    (case hk_NoSign => k_is)
    (case hd_NoSign => k_is)
    (case ha_NoSign => k_is)
    (case hm_NoSign => k_is)
    (case oC_NoSign => kx_is)
    (case sa_NoSign => k_is)
    (case hn => k_is)
    (case ht => k_is)
    (case w_LookupError => k_is)
    (case w_ValueError => k_is)
    (case y_NoNumber_number => k_is)
    (case y_NoSign_place => k_is)
    (case f_s1 => k_is)
    (case f_s2 => k_is)
    (case f_s3 => k_is)
    (case f_s4 => k_is)
    (case f_s5 => k_is)
    (case f_s6 => k_is)
    (case f_s7 => k_is)
    (case a_law_pool => k_is)
    (case l_law_pool => k_is)
    (case c_law_pool => k_is)
    (case k_law_pool => k_is)
    (case a_law_take => k_is)
    (case l_law_take => k_is)
    (case c_law_take => k_is)
    (case k_law_take => k_is)
    (case a_law_turned => k_is)
    (case l_law_turned => k_is)
    (case c_law_turned => k_is)
    (case k_law_turned => k_is)
    (case a_law_row => k_is)
    (case l_law_row => k_is)
    (case c_law_row => k_is)
    (case k_law_row => k_is)
    (case a_law_sum => k_is)
    (case l_law_sum => k_is)
    (case c_law_sum => k_is)
    (case k_law_sum => k_is)
    (case a_is_row_within => k_is)
    (case l_is_row_within => k_is)
    (case c_is_row_within => k_is)
    (case k_is_row_within => k_is)
    (case a_is_row => k_is)
    (case l_is_row => k_is)
    (case c_is_row => k_is)
    (case k_is_row => k_is)
    (case a_look_at_row => k_is)
    (case l_look_at_row => k_is)
    (case c_look_at_row => k_is)
    (case k_look_at_row => k_is)
    (case a_is_whole => k_is)
    (case l_is_whole => k_is)
    (case c_is_whole => k_is)
    (case k_is_whole => k_is)
    (case a_NoNumber___init__ => k_is)
    (case l_NoNumber___init__ => k_is)
    (case c_NoNumber___init__ => k_is)
    (case k_NoNumber___init__ => k_is)
    (case u_NoNumber___init__ => k_is)
    (case a_look_at_deeds => k_is)
    (case l_look_at_deeds => k_is)
    (case c_look_at_deeds => k_is)
    (case k_look_at_deeds => k_is)
    (case a_NoSign___init__ => k_is)
    (case l_NoSign___init__ => k_is)
    (case c_NoSign___init__ => k_is)
    (case k_NoSign___init__ => k_is)
    (case u_NoSign___init__ => k_is)
    (case a_number_of => k_is)
    (case l_number_of => k_is)
    (case t_number_of => k_is)
    (case c_number_of => k_is)
    (case k_number_of => k_is)
    (case a_row_at => k_is)
    (case l_row_at => k_is)
    (case t_row_at => k_is)
    (case c_row_at => k_is)
    (case k_row_at => k_is)
    (case a_law_told => k_is)
    (case l_law_told => k_is)
    (case c_law_told => k_is)
    (case k_law_told => k_is)
    (case a_law => k_is)
    (case l_law => k_is)
    (case c_law => k_is)
    (case k_law => k_is)

