import PyProof.Rows.All
import Wide.All
import OpenK.AllK
import Wide.FinOn
import HandS.ForMost
import HandS.ForExc
import HandS.Walk
import HandS.StrMore
import HandS.Replace
import HandS.IsInst
import HandS.Style
import HandS.Steps
import HandS.Evl
import HandS.Wide
import HandS.Defaults
import HandS.IntHex
import HandS.ExcIs
import HandS.TryMany
import HandS.ExcInit
import HandS.ExcField
import KE.KExcInit
import KE.KExcLine
import KE.KExcIs
import PyProof.ListStr
import PyProof.ReprRoads
import PyProof.StrBlock2
import KE.DataCmp
import KE.GoesZip
import KE.GoesMore
import KE.GoesEnum
import HandS.Ends
import HandS.Codes
import PyProof.CallFns
import PyProof.ReprBulk
import HandS.TupLe
import HandS.WideBits
import HandS.Call
import PySem.Challenge.RW_undotrees_k35_trees_counted
set_option Elab.async false
set_option linter.all false
set_option maxRecDepth 100000
set_option maxHeartbeats 4000000

namespace RowM
/-- the twelve signs, in their order -/
def sgns : List Nat := [97, 65, 98, 66, 99, 67, 100, 68, 101, 69, 102, 70]
def con (c : Nat) : Nat := if 97 ≤ c then c - 32 else c + 32
def ix (c : Nat) : Nat := sgns.idxOf c
def lo (c : Nat) : Nat := if 97 ≤ c then c else c + 32
def up (c : Nat) : Nat := if 97 ≤ c then c - 32 else c
abbrev Row (l : List Nat) : Prop := ∀ c ∈ l, c ∈ sgns
theorem con_mem {c : Nat} (h : c ∈ sgns) : con c ∈ sgns := by
  have : ∀ c ∈ sgns, con c ∈ sgns := by decide
  exact this c h
theorem con_con {c : Nat} (h : c ∈ sgns) : con (con c) = c := by
  have : ∀ c ∈ sgns, con (con c) = c := by decide
  exact this c h
theorem con_ne {c : Nat} (h : c ∈ sgns) : con c ≠ c := by
  have : ∀ c ∈ sgns, con c ≠ c := by decide
  exact this c h
theorem con_inj {a b : Nat} (ha : a ∈ sgns) (hb : b ∈ sgns) (h : con a = con b) : a = b := by
  rw [← con_con ha, h, con_con hb]
/-! ### stacks: the plain row, its last sign first -/
def push (st : List Nat) (c : Nat) : List Nat := match st with
  | [] => [c]
  | d :: r => if d = con c then r else c :: d :: r
theorem push_cons (d c : Nat) (r : List Nat) : push (d :: r) c = if d = con c then r else c :: d :: r := rfl
def act (w st : List Nat) : List Nat := w.foldl push st
def plain (w : List Nat) : List Nat := (act w []).reverse
def turn (w : List Nat) : List Nat := (w.reverse).map con
/-- no sign next to its contrary -/
def Red : List Nat → Prop
  | [] => True
  | [_] => True
  | a :: b :: r => b ≠ con a ∧ Red (b :: r)
theorem Red.tail {a : Nat} {r : List Nat} (h : Red (a :: r)) : Red r := by
  cases r with
  | nil => trivial
  | cons b r => exact h.2
theorem Row.tail {a : Nat} {r : List Nat} (h : Row (a :: r)) : Row r := fun c hc => h c (List.mem_cons_of_mem _ hc)
theorem Row.head {a : Nat} {r : List Nat} (h : Row (a :: r)) : a ∈ sgns := h a List.mem_cons_self
theorem push_row {st : List Nat} {c : Nat} (h : Row st) (hc : c ∈ sgns) : Row (push st c) := by
  cases st with
  | nil => intro d hd; simp [push] at hd; rw [hd]; exact hc
  | cons d r =>
    rw [push_cons]
    by_cases q : d = con c
    · rw [if_pos q]
      exact Row.tail h
    · rw [if_neg q]
      intro e he
      rcases List.mem_cons.mp he with rfl | he
      · exact hc
      · exact h e he
theorem push_red {st : List Nat} {c : Nat} (h : Red st) : Red (push st c) := by
  cases st with
  | nil => simp [push, Red]
  | cons d r =>
    rw [push_cons]
    by_cases q : d = con c
    · rw [if_pos q]
      exact h.tail
    · rw [if_neg q]
      exact ⟨q, h⟩
theorem push_push {st : List Nat} {c : Nat} (h : Red st) (hc : c ∈ sgns) : push (push st c) (con c) = st := by
  cases st with
  | nil => simp [push, con_con hc]
  | cons d r =>
    by_cases e : d = con c
    · simp only [push, if_pos e]
      cases r with
      | nil => simp [e]
      | cons b r =>
        have hb : b ≠ c := by
          intro q
          have := h.1
          rw [e, con_con hc] at this
          exact this q
        simp only [con_con hc, if_neg hb, e]
    · simp only [push, if_neg e, con_con hc, if_pos]
theorem push_push' {st : List Nat} {c : Nat} (h : Red st) (hc : c ∈ sgns) : push (push st (con c)) c = st := by
  have := push_push (c := con c) h (con_mem hc)
  rw [con_con hc] at this
  exact this
theorem act_append (u v st : List Nat) : act (u ++ v) st = act v (act u st) := by simp [act, List.foldl_append]
theorem act_cons (a : Nat) (w st : List Nat) : act (a :: w) st = act w (push st a) := rfl
theorem act_row : ∀ (w st : List Nat), Row w → Row st → Row (act w st)
  | [], _, _, h => h
  | a :: w, st, hw, h => act_row w (push st a) (Row.tail hw) (push_row h (Row.head hw))
theorem act_red : ∀ (w st : List Nat), Red st → Red (act w st)
  | [], _, h => h
  | a :: w, st, h => act_red w (push st a) (push_red h)
theorem turn_cons (a : Nat) (w : List Nat) : turn (a :: w) = turn w ++ [con a] := by simp [turn]
theorem turn_append (u v : List Nat) : turn (u ++ v) = turn v ++ turn u := by simp [turn]
theorem turn_row {w : List Nat} (h : Row w) : Row (turn w) := by
  intro c hc
  simp only [turn, List.mem_map, List.mem_reverse] at hc
  obtain ⟨d, hd, rfl⟩ := hc
  exact con_mem (h d hd)
theorem turn_turn {w : List Nat} (h : Row w) : turn (turn w) = w := by
  unfold turn
  rw [← List.map_reverse, List.reverse_reverse, List.map_map]
  conv => rhs; rw [← List.map_id w]
  exact List.map_congr_left fun c hc => con_con (h c hc)
theorem turn_length (w : List Nat) : (turn w).length = w.length := by simp [turn]
theorem act_turn : ∀ {w st : List Nat}, Row w → Red st → act (turn w) (act w st) = st
  | [], _, _, _ => rfl
  | a :: w, st, hw, h => by
    rw [turn_cons, act_append]
    have e : act (a :: w) st = act w (push st a) := rfl
    rw [e, act_turn (Row.tail hw) (push_red h)]
    exact push_push h (Row.head hw)
theorem act_turn' {w st : List Nat} (hw : Row w) (h : Red st) : act w (act (turn w) st) = st := by
  have := act_turn (turn_row hw) h
  rw [turn_turn hw] at this
  exact this
/-- an unplain pair goes -/
theorem act_pair {c : Nat} {u v st : List Nat} (hc : c ∈ sgns) (h : Red st) : act (u ++ c :: con c :: v) st = act (u ++ v) st := by
  rw [act_append, act_append]
  show act v (push (push (act u st) c) (con c)) = _
  rw [push_push (act_red _ _ h) hc]
theorem act_pair' {c : Nat} {u v st : List Nat} (hc : c ∈ sgns) (h : Red st) : act (u ++ con c :: c :: v) st = act (u ++ v) st := by
  have := act_pair (c := con c) (u := u) (v := v) (con_mem hc) h
  rw [con_con hc] at this
  exact this
theorem Red.snoc_iff : ∀ {l : List Nat} {a b : Nat}, Red (l ++ [a, b]) ↔ Red (l ++ [a]) ∧ b ≠ con a
  | [], a, b => by simp [Red]
  | [x], a, b => by simp [Red, and_assoc]
  | x :: y :: l, a, b => by
    have := Red.snoc_iff (l := y :: l) (a := a) (b := b)
    simp only [List.cons_append] at this ⊢
    simp only [Red]
    constructor
    · rintro ⟨h1, h2⟩
      exact ⟨⟨h1, (this.mp h2).1⟩, (this.mp h2).2⟩
    · rintro ⟨⟨h1, h2⟩, h3⟩
      exact ⟨h1, this.mpr ⟨h2, h3⟩⟩
/-- a plain row as a stack: the same read backwards -/
theorem red_reverse : ∀ {l : List Nat}, Row l → (Red l ↔ Red l.reverse)
  | [], _ => by simp [Red]
  | [a], _ => by simp [Red]
  | a :: b :: r, h => by
    have ih := red_reverse (l := b :: r) (Row.tail h)
    rw [List.reverse_cons, List.reverse_cons, List.append_assoc]
    show Red (a :: b :: r) ↔ Red (r.reverse ++ [b, a])
    rw [Red.snoc_iff]
    rw [List.reverse_cons] at ih
    rw [← ih]
    show (b ≠ con a ∧ Red (b :: r)) ↔ _
    constructor
    · rintro ⟨h1, h2⟩
      refine ⟨h2, fun e => h1 ?_⟩
      rw [e, con_con (Row.head (Row.tail h))]
    · rintro ⟨h1, h2⟩
      refine ⟨fun e => h2 ?_, h1⟩
      rw [e, con_con (Row.head h)]
theorem red_drop : ∀ {l m : List Nat}, Red (l ++ m) → Red m
  | [], _, h => h
  | _ :: l, m, h => red_drop (l := l) (Red.tail h)
theorem act_of_red : ∀ {p st : List Nat}, Red (p.reverse ++ st) → act p st = p.reverse ++ st
  | [], _, _ => by simp [act]
  | a :: p, st, h => by
    have e : (a :: p).reverse ++ st = p.reverse ++ (a :: st) := by simp
    rw [e] at h ⊢
    show act p (push st a) = _
    have hp : push st a = a :: st := by
      cases st with
      | nil => rfl
      | cons d r =>
        have hr : Red (a :: d :: r) := red_drop h
        rw [push_cons, if_neg hr.1]
    rw [hp]
    exact act_of_red h
theorem plain_row {w : List Nat} (h : Row w) : Row (plain w) := fun c hc => act_row _ _ h (fun _ q => (by cases q)) c (List.mem_reverse.mp hc)
theorem plain_red {w : List Nat} (h : Row w) : Red (plain w) := by
  unfold plain
  exact (red_reverse (act_row _ _ h fun _ q => (by cases q))).mp (act_red w _ (by trivial))
theorem plain_of_red {w : List Nat} (h : Row w) (r : Red w) : plain w = w := by
  unfold plain
  rw [act_of_red (by rw [List.append_nil]; exact (red_reverse h).mp r), List.append_nil, List.reverse_reverse]
theorem plain_plain {w : List Nat} (h : Row w) : plain (plain w) = plain w := plain_of_red (plain_row h) (plain_red h)
theorem plain_pair {c : Nat} {u v : List Nat} (hc : c ∈ sgns) : plain (u ++ c :: con c :: v) = plain (u ++ v) := by
  unfold plain
  rw [act_pair hc (by trivial)]
theorem push_plain {w : List Nat} {c : Nat} : act (w ++ [c]) [] = push (act w []) c := by rw [act_append]; rfl
/-- a row and it made plain act alike on plain stacks -/
theorem act_plain_aux : ∀ {w : List Nat}, Row w → ∀ {st : List Nat}, Red st → Row st → act (plain w) st = act w st := by
  intro w
  generalize hn : w.length = n
  induction n generalizing w with
  | zero =>
    intro h st _ _
    have : w = [] := List.eq_nil_of_length_eq_zero hn
    subst this
    rfl
  | succ n ih =>
    intro h st hr hs
    obtain ⟨u, c, rfl⟩ : ∃ u c, w = u ++ [c] := ⟨w.dropLast, w.getLast (by intro e; simp [e] at hn), (List.dropLast_concat_getLast _).symm⟩
    have hu : Row u := fun d hd => h d (List.mem_append_left _ hd)
    have hc : c ∈ sgns := h c (by simp)
    have hl : u.length = n := by simp at hn; exact hn
    have e := ih hl hu hr hs
    rw [act_append]
    show act (plain (u ++ [c])) st = push (act u st) c
    rw [← e]
    unfold plain
    rw [push_plain]
    cases hst : act u [] with
    | nil => simp [push, act]
    | cons d r =>
      by_cases q : d = con c
      · simp only [push, if_pos q]
        have e2 : (d :: r).reverse = r.reverse ++ [d] := by simp
        rw [e2, act_append]
        show _ = push (push (act r.reverse st) d) c
        rw [q, push_push' (act_red _ _ hr) hc]
      · simp only [push, if_neg q]
        have e2 : (c :: d :: r).reverse = (d :: r).reverse ++ [c] := by simp
        rw [e2, act_append]
        rfl
theorem act_plain {w st : List Nat} (h : Row w) (hr : Red st) (hs : Row st) : act (plain w) st = act w st := act_plain_aux h hr hs
theorem nil_row : Row [] := fun _ q => (by cases q)
theorem plain_turn {w : List Nat} (h : Row w) : plain (turn w) = turn (plain w) := by
  have hp := plain_row h
  have rp : Red (turn (plain w)) := by
    unfold turn
    have : ∀ l : List Nat, Row l → Red l → Red (l.map con) := by
      intro l
      induction l with
      | nil => intros; trivial
      | cons a l ih =>
        cases l with
        | nil => intros; trivial
        | cons b l =>
          intro hl hr
          refine ⟨fun e => hr.1 ?_, ih (Row.tail hl) hr.2⟩
          have := con_inj (Row.head (Row.tail hl)) (con_mem (Row.head hl)) e
          exact this
    exact this _ (fun c hc => hp c (List.mem_reverse.mp hc)) ((red_reverse hp).mp (plain_red h))
  have e : act (turn w) [] = act (turn (plain w)) [] := by
    have h1 : act w (act (turn w) []) = [] := act_turn' h (by trivial)
    have r1 : Red (act (turn w) []) := act_red _ _ (by trivial)
    have w1 : Row (act (turn w) []) := act_row _ _ (turn_row h) nil_row
    rw [← act_plain h r1 w1] at h1
    have h2 := act_turn (w := plain w) (st := act (turn w) []) hp r1
    rw [h1] at h2
    exact h2.symm
  have e2 : plain (turn w) = plain (turn (plain w)) := by unfold plain at *; rw [e]
  rw [e2, plain_of_red (turn_row hp) rp]
theorem plain_there_back {u : List Nat} (h : Row u) : plain (u ++ turn u) = [] := by
  unfold plain
  rw [act_append, act_turn h (by trivial)]
  rfl
theorem push_length (st : List Nat) (c : Nat) : (push st c).length ≤ st.length + 1 := by
  cases st with
  | nil => simp [push]
  | cons d r =>
    rw [push_cons]
    by_cases q : d = con c
    · rw [if_pos q]; simp; omega
    · rw [if_neg q]; simp
theorem act_length : ∀ (w st : List Nat), (act w st).length ≤ st.length + w.length
  | [], st => by simp [act]
  | a :: w, st => by
    have := act_length w (push st a)
    have h2 := push_length st a
    show (act w (push st a)).length ≤ _
    simp only [List.length_cons]
    omega
theorem plain_length (w : List Nat) : (plain w).length ≤ w.length := by
  unfold plain
  rw [List.length_reverse]
  simpa using act_length w []
/-! ### the order of rows -/
def lexI : List Nat → List Nat → Bool
  | a :: l, b :: m => if a = b then lexI l m else decide (a < b)
  | _, _ => false
def aheadL : List Nat → List Nat → Bool
  | a :: l, b :: m => if a = b then aheadL l m else if lo a ≠ lo b then decide (lo a < lo b) else decide (97 ≤ a)
  | _, _ => false
def before (l m : List Nat) : Bool := if l.length = m.length then lexI (l.map ix) (m.map ix) else decide (l.length < m.length)
theorem ix_inj {a b : Nat} (ha : a ∈ sgns) (hb : b ∈ sgns) : ix a = ix b ↔ a = b := by
  have : ∀ a ∈ sgns, ∀ b ∈ sgns, (ix a = ix b ↔ a = b) := by decide
  exact this a ha b hb
theorem ix_lt {a b : Nat} (ha : a ∈ sgns) (hb : b ∈ sgns) (h : a ≠ b) : decide (ix a < ix b) = (if lo a ≠ lo b then decide (lo a < lo b) else decide (97 ≤ a)) := by
  have : ∀ a ∈ sgns, ∀ b ∈ sgns, a ≠ b → decide (ix a < ix b) = (if lo a ≠ lo b then decide (lo a < lo b) else decide (97 ≤ a)) := by decide
  exact this a ha b hb h
theorem ahead_lex : ∀ {l m : List Nat}, Row l → Row m → aheadL l m = lexI (l.map ix) (m.map ix)
  | [], _, _, _ => by simp [aheadL, lexI]
  | a :: l, [], _, _ => by simp [aheadL, lexI]
  | a :: l, b :: m, hl, hm => by
    have ih := ahead_lex (Row.tail hl) (Row.tail hm)
    simp only [aheadL, List.map_cons, lexI, ix_inj (Row.head hl) (Row.head hm)]
    by_cases e : a = b
    · rw [if_pos e, if_pos e, ih]
    · rw [if_neg e, if_neg e, ix_lt (Row.head hl) (Row.head hm) e]
theorem lexI_trans : ∀ {l m n : List Nat}, l.length = m.length → m.length = n.length → lexI l m = true → lexI m n = true → lexI l n = true
  | [], _, _, _, _, h, _ => by simp [lexI] at h
  | a :: l, [], _, h, _, _, _ => by simp at h
  | a :: l, b :: m, [], _, h, _, _ => by simp at h
  | a :: l, b :: m, c :: n, h1, h2, h3, h4 => by
    simp only [lexI] at h3 h4 ⊢
    have e1 : l.length = m.length := by simpa using h1
    have e2 : m.length = n.length := by simpa using h2
    by_cases p : a = b
    · subst p
      rw [if_pos rfl] at h3
      by_cases q : a = c
      · subst q
        rw [if_pos rfl] at h4 ⊢
        exact lexI_trans e1 e2 h3 h4
      · rw [if_neg q] at h4 ⊢
        exact h4
    · rw [if_neg p] at h3
      have h3' := of_decide_eq_true h3
      by_cases q : b = c
      · subst q
        rw [if_neg p]
        exact h3
      · rw [if_neg q] at h4
        have h4' := of_decide_eq_true h4
        have : a ≠ c := by omega
        rw [if_neg this]
        exact decide_eq_true (by omega)
theorem before_trans {l m n : List Nat} (h1 : before l m = true) (h2 : before m n = true) : before l n = true := by
  unfold before at *
  by_cases e1 : l.length = m.length
  · rw [if_pos e1] at h1
    by_cases e2 : m.length = n.length
    · rw [if_pos e2] at h2
      rw [if_pos (e1.trans e2)]
      exact lexI_trans (by simpa using e1) (by simpa using e2) h1 h2
    · rw [if_neg e2] at h2
      have := of_decide_eq_true h2
      rw [if_neg (by omega)]
      exact decide_eq_true (by omega)
  · rw [if_neg e1] at h1
    have h1' := of_decide_eq_true h1
    by_cases e2 : m.length = n.length
    · rw [if_neg (by omega)]
      exact decide_eq_true (by omega)
    · rw [if_neg e2] at h2
      have := of_decide_eq_true h2
      rw [if_neg (by omega)]
      exact decide_eq_true (by omega)
end RowM

namespace NumM
open RowM
/-! ### rows by numbers -/
def val (B : Nat) (l : List Nat) : Nat := l.foldl (fun a c => a * B + ix c) 0
def ones (B : Nat) : Nat → Nat
  | 0 => 0
  | n + 1 => ones B n * B + 1
def numR (B : Nat) (l : List Nat) : Nat := ones B l.length + val B l
abbrev Low (B : Nat) (l : List Nat) : Prop := ∀ c ∈ l, ix c < B
theorem Low.head {B a : Nat} {l : List Nat} (h : Low B (a :: l)) : ix a < B := h a List.mem_cons_self
theorem Low.tail {B a : Nat} {l : List Nat} (h : Low B (a :: l)) : Low B l := fun c hc => h c (List.mem_cons_of_mem _ hc)
theorem fold_from (B : Nat) : ∀ (l : List Nat) (a : Nat), l.foldl (fun a c => a * B + ix c) a = a * B ^ l.length + val B l
  | [], a => by simp [val]
  | c :: l, a => by
    have h1 := fold_from B l (a * B + ix c)
    have h2 := fold_from B l (0 * B + ix c)
    have e : val B (c :: l) = l.foldl (fun a c => a * B + ix c) (0 * B + ix c) := rfl
    rw [List.foldl_cons, h1, e, h2, List.length_cons, Nat.pow_succ]
    rw [Nat.zero_mul, Nat.zero_add, Nat.add_mul, Nat.mul_assoc, Nat.mul_comm B, Nat.add_assoc]
theorem val_cons (B c : Nat) (l : List Nat) : val B (c :: l) = ix c * B ^ l.length + val B l := by
  have h := fold_from B l (0 * B + ix c)
  have e : val B (c :: l) = l.foldl (fun a c => a * B + ix c) (0 * B + ix c) := rfl
  rw [e, h, Nat.zero_mul, Nat.zero_add]
theorem val_snoc (B c : Nat) (l : List Nat) : val B (l ++ [c]) = val B l * B + ix c := by
  unfold val
  rw [List.foldl_append]
  rfl
theorem val_lt {B : Nat} : ∀ {l : List Nat}, Low B l → val B l < B ^ l.length
  | [], _ => by simp [val]
  | c :: l, h => by
    have ih := val_lt h.tail
    have hc := h.head
    rw [val_cons, List.length_cons, Nat.pow_succ]
    have : (ix c + 1) * B ^ l.length ≤ B * B ^ l.length := Nat.mul_le_mul_right _ hc
    rw [Nat.add_mul, Nat.one_mul] at this
    rw [Nat.mul_comm (B ^ l.length) B]
    omega
theorem ones_pow (B : Nat) : ∀ n, ones B (n + 1) = ones B n + B ^ n
  | 0 => by simp [ones]
  | n + 1 => by
    have ih := ones_pow B n
    show ones B (n + 1) * B + 1 = ones B (n + 1) + B ^ (n + 1)
    have e : ones B (n + 1) = ones B n * B + 1 := rfl
    rw [ih, Nat.add_mul, Nat.pow_succ]
    omega
theorem ones_mono (B : Nat) : ∀ {m n : Nat}, m ≤ n → ones B m ≤ ones B n
  | m, 0, h => by
    have : m = 0 := by omega
    subst this
    exact Nat.le_refl _
  | m, n + 1, h => by
    by_cases e : m = n + 1
    · rw [e]; exact Nat.le_refl _
    · have := ones_mono B (m := m) (n := n) (by omega)
      rw [ones_pow]
      omega
theorem num_lt_ones {B : Nat} {l : List Nat} (h : Low B l) : numR B l < ones B (l.length + 1) := by
  rw [ones_pow]
  unfold numR
  have := val_lt h
  omega
theorem lex_val {B : Nat} : ∀ {l m : List Nat}, Low B l → Low B m → l.length = m.length → lexI (l.map ix) (m.map ix) = decide (val B l < val B m)
  | [], [], _, _, _ => by simp [lexI, val]
  | [], _ :: _, _, _, h => by simp at h
  | _ :: _, [], _, _, h => by simp at h
  | a :: l, b :: m, hl, hm, h => by
    have e : l.length = m.length := by simpa using h
    have ih := lex_val hl.tail hm.tail e
    have v1 := val_lt hl.tail
    have v2 := val_lt hm.tail
    rw [e] at v1
    simp only [List.map_cons, lexI, val_cons, e]
    by_cases q : ix a = ix b
    · rw [if_pos q, ih, q]
      exact decide_eq_decide.mpr (by omega)
    · rw [if_neg q]
      apply decide_eq_decide.mpr
      have p0 : ∀ x y : Nat, x < y → x * B ^ m.length + B ^ m.length ≤ y * B ^ m.length := fun x y hxy => by
        have := Nat.mul_le_mul_right (B ^ m.length) hxy
        rw [Nat.succ_mul] at this
        exact this
      constructor
      · intro hab
        have := p0 _ _ hab
        omega
      · intro hv
        by_cases hab : ix a < ix b
        · exact hab
        · have := p0 (ix b) (ix a) (by omega)
          omega
theorem before_num {B : Nat} {l m : List Nat} (hl : Low B l) (hm : Low B m) : before l m = decide (numR B l < numR B m) := by
  unfold before
  by_cases e : l.length = m.length
  · rw [if_pos e, lex_val hl hm e]
    unfold numR
    rw [e]
    exact decide_eq_decide.mpr (by omega)
  · rw [if_neg e]
    apply decide_eq_decide.mpr
    constructor
    · intro h
      have h1 := num_lt_ones hl
      have h2 := ones_mono B (show l.length + 1 ≤ m.length by omega)
      unfold numR at *
      omega
    · intro h
      by_cases q : l.length < m.length
      · exact q
      · have h1 := num_lt_ones hm
        have h2 := ones_mono B (show m.length + 1 ≤ l.length by omega)
        unfold numR at *
        omega
theorem val_inj {B : Nat} : ∀ {l m : List Nat}, Row l → Row m → Low B l → Low B m → l.length = m.length → val B l = val B m → l = m
  | [], [], _, _, _, _, _, _ => rfl
  | [], _ :: _, _, _, _, _, h, _ => by simp at h
  | _ :: _, [], _, _, _, _, h, _ => by simp at h
  | a :: l, b :: m, rl, rm, hl, hm, h, hv => by
    have e : l.length = m.length := by simpa using h
    have v1 := val_lt hl.tail
    have v2 := val_lt hm.tail
    rw [e] at v1
    rw [val_cons, val_cons, e] at hv
    have q : ix a = ix b := by
      have p0 : ∀ x y : Nat, x < y → x * B ^ m.length + B ^ m.length ≤ y * B ^ m.length := fun x y hxy => by
        have := Nat.mul_le_mul_right (B ^ m.length) hxy
        rw [Nat.succ_mul] at this
        exact this
      by_cases h1 : ix a < ix b
      · have := p0 _ _ h1; omega
      · by_cases h2 : ix b < ix a
        · have := p0 _ _ h2; omega
        · omega
    rw [q] at hv
    have := val_inj (Row.tail rl) (Row.tail rm) hl.tail hm.tail e (by omega)
    rw [this, (ix_inj (Row.head rl) (Row.head rm)).mp q]
theorem num_inj {B : Nat} {l m : List Nat} (rl : Row l) (rm : Row m) (hl : Low B l) (hm : Low B m) (h : numR B l = numR B m) : l = m := by
  have e : l.length = m.length := by
    have h1 := num_lt_ones hl
    have h2 := num_lt_ones hm
    by_cases a : l.length < m.length
    · have := ones_mono B (show l.length + 1 ≤ m.length by omega)
      unfold numR at *; omega
    · by_cases b : m.length < l.length
      · have := ones_mono B (show m.length + 1 ≤ l.length by omega)
        unfold numR at *; omega
      · omega
  refine val_inj rl rm hl hm e ?_
  unfold numR at h
  rw [e] at h
  omega
theorem num_nil (B : Nat) : numR B [] = 0 := by simp [numR, ones, val]
end NumM
namespace NumM
theorem ones_ge {B : Nat} (h : 2 ≤ B) : ∀ n, ones 2 n ≤ ones B n
  | 0 => Nat.le_refl _
  | n + 1 => by
    have ih := ones_ge h n
    show ones 2 n * 2 + 1 ≤ ones B n * B + 1
    have := Nat.mul_le_mul ih h
    omega
theorem ones_61 {B : Nat} (h : 2 ≤ B) : 2305843009213693951 ≤ ones B 61 := by
  have := ones_ge h 61
  have e : ones 2 61 = 2305843009213693951 := by decide
  omega
end NumM

namespace L2
open PySem PySem.Spec PyProof.Rows
/-! ### rules beside the layer's own -/
section
variable {X : Cx}
/-- a constant of the module -/
theorem pe_globC {x : Str} {v : V} {pos : Pos} (h : ∃ u, X.mg x = some u ∧ RelV v u) (hg : Gl X x := by rfl) (hd : (x == ("__debug__" : Str)) = false := by decide) : PE X (.Name x pos) (tC v) := by
  obtain ⟨u, hm, r⟩ := h
  exact pe_glob hg hm r hd
/-- data that are alike: < -/
def rLtD (K : PySem.W.Frag) : R2 := fun x y H Q => ∃ d e, Dp K H x d ∧ Dp K H y e ∧ PySem.W.alike d e = true ∧ d ≠ .none ∧ min d.depth e.depth ≤ 60 ∧ Q (.bl (PySem.W.dataLt d e)) H
theorem op_ltD (hu : X.A.units + 64 < cLine) : OpR X (compareOp .Lt) (rLtD X.K) := by
  intro pins s σ H x y v u Q I rx ry h
  obtain ⟨d, e, hd, he, al, hn, hz, q⟩ := h
  obtain ⟨as, r1⟩ := Dp.reads I d x v hd rx
  obtain ⟨bs, r2⟩ := Dp.reads I e y u he ry
  exact PySem.W.lt_data r1 r2 al hn (by omega) ⟨.bl _, H, I, rfl, q⟩
/-- text[::-1] -/
def tRevS (te : TE) : TE := fun σ H Q => te σ H fun x H1 => ∃ z : Str, x = .str z ∧ z.length ≤ sizeLine ∧ Q (.str ⟨z.cps.toList.reverse.toArray⟩) H1
theorem pick_rev (z : Str) : ((Builtin.Str.strSliceIndices none none (-1) z.length).filterMap (z.cps[·]?)).toArray = z.cps.toList.reverse.toArray := by
  rw [PyProof.Rows.picked_rev]
  congr 1
  rw [PyProof.Rows.filterMap_get _ _ (fun i hi => by
    simp only [List.mem_map, List.mem_range] at hi
    obtain ⟨k, hk, rfl⟩ := hi
    have : z.length = z.cps.size := rfl
    omega)]
  apply List.ext_getElem
  · simp [Str.length]
  · intro i h1 h2
    simp only [List.length_map, List.length_range, Str.length] at h1
    simp only [List.map_map, List.getElem_map, List.getElem_range, List.getElem_reverse, Function.comp, Str.length, Array.length_toList]
    rw [Array.getD_eq_getD_getElem?]
    rw [Array.getElem?_eq_getElem (by omega)]
    simp
theorem pe_revS {e : Expr} {te : TE} {k : Nat} {p1 p2 p3 pos : Pos} (he : PE X e te) : PE X (.Subscript e (.Slice none none (some (.UnaryOp .USub (.Constant (.int 1) k p1) p2)) p3) pos) (tRevS te) := by
  refine ⟨fun pins s σ H Q I h => ?_⟩
  refine Subscript_ (thn (he.run pins s σ H _ I h) fun v s1 ⟨x, H1, I1, r1, q1⟩ => ?_)
  obtain ⟨z, ex, hz, q⟩ := q1
  subst ex
  obtain ⟨t, rfl⟩ := r1
  have hst : PO X (some (.UnaryOp .USub (.Constant (.int 1) k p1) p2)) (tPart (tUn (rU fun i => .int (-i)) (tC (.int 1)))) := po_some (pe_un un_neg pe_int)
  refine wpAny_Slice (thn (po_none.run pins s1 σ H1 (fun o H2 => o = none ∧ H2 = H1) I1 ⟨rfl, rfl⟩) fun vl s2 ⟨l, H2, I2, pl, el, e2⟩ => ?_)
  subst el e2
  refine thn (po_none.run pins s2 σ H2 (fun o H3 => o = none ∧ H3 = H2) I2 ⟨rfl, rfl⟩) fun vu s3 ⟨u, H3, I3, pu, eu, e3⟩ => ?_
  subst eu e3
  refine thn (hst.run pins s3 σ H3 (fun o H4 => o = some (-1) ∧ H4 = H3) I3 ⟨1, rfl, -1, rfl, rfl, rfl⟩) fun vs s4 ⟨o, H4, I4, ps, eo, e4⟩ => ?_
  subst eo e4
  obtain ⟨l1, rfl, hl1⟩ := IsPart.raw pl
  obtain ⟨u1, rfl, hu1⟩ := IsPart.raw pu
  obtain ⟨w1, rfl, hw1⟩ := IsPart.raw ps
  have I5 : Inv X pins σ H4 { s4 with heap := s4.heap.push { cls := .type "slice", data := .fields #[partValue l1, partValue u1, partValue w1] } } := I4.kept (t' := s4.toks) fun b ob q => Heap.get?_push_of_some _ q
  show wpAny (model X.prog X.w) X.A (subscriptTail e (.Slice none none (some (.UnaryOp .USub (.Constant (.int 1) k p1) p2)) p3) (.str z t) (.ref s4.heap.objs.size)) (EP X pins σ Q) X.xe { s4 with heap := s4.heap.push { cls := .type "slice", data := .fields #[partValue l1, partValue u1, partValue w1] } }
  refine tail_any (ops := [.str z t, .ref s4.heap.objs.size]) (typeIs_str _ _ _) F.slot_str_getitem.lookup ?_ (by with_unfolding_all rfl)
  refine wpAny_getItem_str_slice (l := l1) (u := u1) (st := w1) ⟨_, Heap.get?_push_size _ rfl, rfl, rfl⟩ (by rw [hw1]; rfl) ?_
  have hl : (⟨z.cps.toList.reverse.toArray⟩ : Str).length ≤ sizeLine := by
    show z.cps.toList.reverse.toArray.size ≤ sizeLine
    simpa [Str.length] using hz
  show Made.post (if ((w1.map (·.1)).getD 1 == 1 && (Builtin.Str.strSliceIndices (l1.map (·.1)) (u1.map (·.1)) ((w1.map (·.1)).getD 1) z.length).length == z.length) = true then Made.val (.str z t)
    else Made.str ⟨((Builtin.Str.strSliceIndices (l1.map (·.1)) (u1.map (·.1)) ((w1.map (·.1)).getD 1) z.length).filterMap (z.cps[·]?)).toArray⟩) (EP X pins σ Q) _
  rw [hl1, hu1, hw1]
  show Made.post (if ((-1 : Int) == 1 && (Builtin.Str.strSliceIndices none none (-1) z.length).length == z.length) = true then Made.val (.str z t)
    else Made.str ⟨((Builtin.Str.strSliceIndices none none (-1) z.length).filterMap (z.cps[·]?)).toArray⟩) (EP X pins σ Q) _
  rw [if_neg (by simp), pick_rev]
  exact ⟨hl, .str _, H4, I5.tok _, ⟨_, rfl⟩, q⟩
end
end L2

namespace L2
open PySem PySem.Spec PyProof.Rows
/-! ### zip of two texts -/
def Itzs (x y : Str) : It :=
  ⟨fun i _ => i < x.cps.size ∧ i < y.cps.size,
    fun i H v H' => ∃ T c d, v = .ref T ∧ H T = none ∧ H' = upd H T (.tup [.str ⟨#[c]⟩, .str ⟨#[d]⟩]) ∧ x.cps[i]? = some c ∧ y.cps[i]? = some d,
    fun i _ => (i ≤ x.cps.size ∧ i ≤ y.cps.size) ∧ (i = x.cps.size ∨ i = y.cps.size)⟩
theorem turn_zipS {P : Program} {w : World} {K : PySem.W.Frag} {elts : List Expr} {kk : Nat} {tpos : Pos} {z TI TO i1 i2 : Addr} (S : ZipSep2 z TI TO i1 i2 [i1] [i2]) (x y : Str) (t u : Tok) :
    Turn P w K (.Tuple elts kk tpos) (Itzs x y) [z, TI, TO, i1, i2] z
      (fun i h => IsZip h z TI TO .none ∧ IsTupOf2 h TI (.ref i1) (.ref i2) ∧ (∃ a b, IsTupOf2 h TO a b) ∧ h.IsStrIter i1 (strIterType x) x t i ∧ h.IsStrIter i2 (strIterType y) y u i) where
  mem := by simp
  obj := fun i h st c hc => by
    obtain ⟨hz, hTI, ⟨a, b, hTO⟩, ⟨o1, e1, _, d1⟩, ⟨o2, e2, _, d2⟩⟩ := st
    have e' : c = z ∨ c = TI ∨ c = TO ∨ c = i1 ∨ c = i2 := by simpa using hc
    rcases e' with q | q | q | q | q
    · rw [q]; exact ⟨_, hz, fun v q => nomatch q⟩
    · rw [q]; exact ⟨_, hTI, fun v q => nomatch q⟩
    · rw [q]; exact ⟨_, hTO, fun v q => nomatch q⟩
    · rw [q]; exact ⟨o1, e1, fun v q => by rw [d1] at q; cases q⟩
    · rw [q]; exact ⟨o2, e2, fun v q => by rw [d2] at q; cases q⟩
  keep := fun i h h' st k => by
    obtain ⟨hz, hTI, ⟨a, b, hTO⟩, ⟨o1, e1, r1⟩, ⟨o2, e2, r2⟩⟩ := st
    exact ⟨k z (by simp) _ hz, k TI (by simp) _ hTI, ⟨a, b, k TO (by simp) _ hTO⟩, ⟨o1, k i1 (by simp) _ e1, r1⟩, ⟨o2, k i2 (by simp) _ e2, r2⟩⟩
  item := by
    intro X hP hw hK hc i pins s σ H E I hf st hg
    subst hP hw hK
    obtain ⟨hz, hTI, ⟨a0, b0, hTO⟩, h1, h2⟩ := st
    obtain ⟨g1, g2⟩ := hg
    have hh : X.A.in1.handled = none := I.ok.hd hc
    have hzl : z < s.heap.objs.size := Heap.lt_size hz
    refine wpAny_pyNext_zipD2_item S (Draws.text hh i1 x t) (Draws.text hh i2 y u) hz hTI hTO h1 h2 g1 g2 fun x1 x2 h' tk p1 p2 h1' TO' s1 s2 hT hsz hk => ?_
    obtain ⟨c, tc, hc1, rfl⟩ := p1
    obtain ⟨d, td, hd1, rfl⟩ := p2
    refine ⟨_, rfl, wpAny_letOwnedTupleGo_zip (s := { s with heap := h', toks := tk }) h1' fun h'' z'' sb => ?_⟩
    have hT2 : h''.get? s.heap.objs.size = some { cls := .type "tuple", data := .seq #[Value.str ⟨#[c]⟩ tc, Value.str ⟨#[d]⟩ td] } := (sb.2 _ (Nat.ne_of_gt hzl)).trans hT
    have new : ObjOk X.prog X.w (upd H s.heap.objs.size (.tup [.str ⟨#[c]⟩, .str ⟨#[d]⟩])) h'' s.heap.objs.size (.tup [.str ⟨#[c]⟩, .str ⟨#[d]⟩]) :=
      ⟨by show 2 ≤ sizeLine; decide, [Value.str ⟨#[c]⟩ tc, Value.str ⟨#[d]⟩ td], .cons ⟨tc, rfl⟩ (.cons ⟨td, rfl⟩ .nil), ⟨_, hT2, rfl, _, rfl⟩⟩
    have I1 : Inv X pins σ (upd H s.heap.objs.size (.tup [.str ⟨#[c]⟩, .str ⟨#[d]⟩])) { s with heap := h'', toks := tk } :=
      I.turnedNew (t' := tk) (ch := [z, TI, TO, i1, i2]) (fun c o hb q => (sb.2 c (fun q' => hb (by simp [q']))).trans (hk c o (fun q' => hb (by simp [q'])) (fun q' => hb (by simp [q'])) (fun q' => hb (by simp [q'])) (fun q' => hb (by simp [q'])) q)) hf (Nat.le_refl _) new
    have st1 : h''.IsStrIter i1 (strIterType x) x t (i + 1) := by
      obtain ⟨o, e, r⟩ := s1
      exact ⟨o, (sb.2 _ (fun q => S.zf1 (by rw [← q]; simp))).trans e, r⟩
    have st2 : h''.IsStrIter i2 (strIterType y) y u (i + 1) := by
      obtain ⟨o, e, r⟩ := s2
      exact ⟨o, (sb.2 _ (fun q => S.zf2 (by rw [← q]; simp))).trans e, r⟩
    refine ⟨.ref s.heap.objs.size, _, I1, rfl, ⟨_, c, d, rfl, I.hok.fresh (Nat.le_refl _), rfl, hc1, hd1⟩, ⟨z'', ?_, ⟨.str ⟨#[c]⟩ tc, .str ⟨#[d]⟩ td, ?_⟩, st1, st2⟩, fun b hbm => ?_⟩
    · exact (sb.2 _ S.TIz).trans (hk _ _ S.TIz S.TITO S.TIi1 S.TIi2 hTI)
    · exact (sb.2 _ S.TOz).trans TO'
    · have hlt : b < s.heap.objs.size := by
        have e' : b = z ∨ b = TI ∨ b = TO ∨ b = i1 ∨ b = i2 := by simpa using hbm
        rcases e' with q | q | q | q | q
        · rw [q]; exact hzl
        · rw [q]; exact Heap.lt_size hTI
        · rw [q]; exact Heap.lt_size hTO
        · rw [q]; obtain ⟨_, e1, _⟩ := h1; exact Heap.lt_size e1
        · rw [q]; obtain ⟨_, e2, _⟩ := h2; exact Heap.lt_size e2
      rw [upd_ne (Nat.ne_of_lt hlt)]
      exact (hf b hbm).1
  done := by
    intro X hP hw hK hc i pins s σ H E I hf st hg
    subst hP hw hK
    obtain ⟨hz, hTI, ⟨a0, b0, hTO⟩, h1, h2⟩ := st
    obtain ⟨⟨g1, g2⟩, g3⟩ := hg
    have hh : X.A.in1.handled = none := I.ok.hd hc
    exact wpAny_pyNext_zipD2_end S (Draws.text hh i1 x t) (Draws.text hh i2 y u) hz hTI hTO h1 h2 g1 g2 g3 fun h' tk hk => ⟨rfl, I.turnedL (t' := tk) (ch := [z, TI, TO, i1, i2]) (fun c o hb q =>
      hk c o (fun q' => hb (by simp [q'])) (fun q' => hb (by simp [q'])) (fun q' => hb (by simp [q'])) (fun q' => hb (by simp [q'])) q) hf⟩
  self := fun A i s Q E st h => wpAny_pyIter_zip st.1 h
def iZipS (ta : TA) : TI := fun σ H R => ta σ H fun vs H1 => ∃ x y, vs = [.str x, .str y] ∧ R (Itzs x y) H1
theorem pi_zipS {X : Cx} {e e2 : Expr} {ta : TA} {p pos tpos : Pos} {elts : List Expr} {kk : Nat} (hg : Gl X "zip") (hm : X.mg "zip" = none) (ha : PA X [e, e2] ta)
    (hs : starEach [e, e2] X.env = (false, eval e X.env) :: starEach [e2] X.env := by rfl) (hpl : (backTo pos (starEach [e2] X.env)).any (·.1) = false := by rfl) :
    PI X (.Tuple elts kk tpos) (.Call (.Name "zip" p) [e, e2] [] pos) (iZipS ta) := by
  refine ⟨fun pins s σ H R I h => ?_⟩
  refine Call_ (ld_blt I hg hm PyProof.Rows.boot_zip (PyProof.Rows.callWith_type1 (thn (ha.run pos pins s σ H _ I h) fun us s1 ⟨vs, H1, I1, r1, q1⟩ => ?_) hs hpl))
  obtain ⟨x, y, ex, q⟩ := q1
  subst ex
  cases r1 with
  | cons r rr =>
    cases rr with
    | cons r' rr =>
      cases rr
      obtain ⟨t, rfl⟩ := r
      obtain ⟨u, rfl⟩ := r'
      refine zip_begins2 (begins_text x t) (begins_text y u) trivial trivial fun h' hz hTI hTO h1 h2 hsz hk => wpAny_pyIter_zip hz ?_
      have I2 : Inv X pins σ H1 { s1 with heap := h' } := I1.kept (t' := s1.toks) hk
      have S : ZipSep2 (s1.heap.objs.size + 4) (s1.heap.objs.size + 2) (s1.heap.objs.size + 3) s1.heap.objs.size (s1.heap.objs.size + 1) [s1.heap.objs.size] [s1.heap.objs.size + 1] :=
        zip_sep2 (fp1 := []) (fp2 := []) (fun b hb => by cases hb) (fun b hb => by cases hb)
      refine ⟨s1.heap.objs.size + 4, [s1.heap.objs.size + 4, s1.heap.objs.size + 2, s1.heap.objs.size + 3, s1.heap.objs.size, s1.heap.objs.size + 1], _, _, H1, rfl, I2, turn_zipS S x y t u, ⟨hz, hTI, ⟨_, _, hTO⟩, ⟨_, h1, rfl, rfl⟩, ⟨_, h2, rfl, rfl⟩⟩, fun c hcm => ?_, q⟩
      have e' : c = s1.heap.objs.size + 4 ∨ c = s1.heap.objs.size + 2 ∨ c = s1.heap.objs.size + 3 ∨ c = s1.heap.objs.size ∨ c = s1.heap.objs.size + 1 := by simpa using hcm
      have hle : s1.heap.objs.size ≤ c := by
        rcases e' with z | z | z | z | z
        · rw [z]; exact Nat.le_add_right _ _
        · rw [z]; exact Nat.le_add_right _ _
        · rw [z]; exact Nat.le_add_right _ _
        · rw [z]; exact Nat.le_refl _
        · rw [z]; exact Nat.le_add_right _ _
      exact I1.fpOk hle (I1.hok.fresh hle)
theorem walk_zipS {x y : Str} {n : Nat} (hn : n = min x.cps.size y.cps.size) : Walk (Itzs x y) n (fun _ => True) (fun i H v H' => ∃ T c d, v = .ref T ∧ H T = none ∧ H' = upd H T (.tup [.str ⟨#[c]⟩, .str ⟨#[d]⟩]) ∧ x.cps[i]? = some c ∧ y.cps[i]? = some d) := by
  subst hn
  exact ⟨fun _ _ hi _ => ⟨by omega, by omega⟩, fun _ _ => ⟨⟨by omega, by omega⟩, by omega⟩, fun _ _ _ _ _ _ y => y⟩
end L2

namespace L2
open PySem PySem.Spec PyProof.Rows
/-! ### rules whose readings name the written part, over any context that has it (a comprehension's block too) -/
section
variable {X : Cx} {K : PySem.W.Frag}
theorem ix_listK (h : X.K = K := by rfl) : IxR X (rIxL K) := h ▸ ix_list
theorem ix_tupK (h : X.K = K := by rfl) : IxR X (rIxT K) := h ▸ ix_tup
theorem sl_listK (h : X.K = K := by rfl) : SlR X (rSlL K) := h ▸ sl_list
theorem sl_tupK (h : X.K = K := by rfl) : SlR X (rSlT K) := h ▸ sl_tup
theorem op_inK (h : X.K = K := by rfl) : OpR X (compareOp .In) (rIn K false) := h ▸ op_in_seq
theorem op_notInK (h : X.K = K := by rfl) : OpR X (compareOp .NotIn) (rIn K true) := h ▸ op_notIn_seq
theorem op_eqDK (hu : X.A.units + 64 < cLine) (h : X.K = K := by rfl) : OpR X (compareOp .Eq) (rEqD K) := h ▸ op_eqD hu
theorem op_neDK (hu : X.A.units + 64 < cLine) (h : X.K = K := by rfl) : OpR X (compareOp .NotEq) (rNeD K) := h ▸ op_neD hu
theorem op_ltDK (hu : X.A.units + 64 < cLine) (h : X.K = K := by rfl) : OpR X (compareOp .Lt) (rLtD K) := h ▸ op_ltD hu
/-- len of a list or tuple -/
def rLenK (K : PySem.W.Frag) : List V → Hp → VK → Prop := fun xs H Q => ∃ p ys, xs = [.ref p] ∧ (SqL K H p ys ∨ SqT K H p ys) ∧ Q (.int ys.length) H
theorem call_lenK (h : X.K = K := by rfl) : CallR X (.builtin "len") (rLenK K) := h ▸ call_len_seq
def rListK (K : PySem.W.Frag) : List V → Hp → VK → Prop := fun xs H Q => ∃ p ys, xs = [.ref p] ∧ (SqL K H p ys ∨ SqT K H p ys) ∧ ∀ l, H l = none → Q (.ref l) (upd H l (.lst ys))
theorem call_listK (h : X.K = K := by rfl) : CallR X (.type "list") (rListK K) := h ▸ call_list_of
theorem cr_allK (hc : X.calm = true) (h : X.K = K := by rfl) : CallR X (.builtin "all") (rAll K) := h ▸ cr_all hc
theorem cr_anyK (hc : X.calm = true) (h : X.K = K := by rfl) : CallR X (.builtin "any") (rAny K) := h ▸ cr_any hc
theorem cr_sumK (hc : X.calm = true) (h : X.K = K := by rfl) : CallR X (.builtin "sum") (rSum K) := h ▸ cr_sum hc
theorem call_isiK1 (h : X.K = K := by rfl) : CallR X (.builtin "isinstance") (rIsi K) := h ▸ call_isi
theorem call_isiTK (h : X.K = K := by rfl) : CallR X (.builtin "isinstance") (rIsiT K) := h ▸ call_isiT
/-- sep.join(texts) -/
def rJoinK (K : PySem.W.Frag) : V → List V → Hp → VK → Prop := fun x xs H Q => ∃ a p, ∃ ys : List Str, x = .str a ∧ xs = [.ref p] ∧ (SqL K H p (ys.map V.str) ∨ SqT K H p (ys.map V.str)) ∧ (ys.map (·.length)).sum + ys.length * a.length ≤ 16777216 ∧ Q (.str (Txt.join a ys)) H
theorem mt_joinK (h : X.K = K := by rfl) : MtR X "str.join" (rJoinK K) := h ▸ mt_join
end
end L2

namespace L2
open PySem PySem.Spec PyProof.Rows
/-! ### exceptions that a suite holds, and list(text) -/
section
variable {X : Cx}
/-- the exception at a, of the class cls, its own dict d: an instance of D -/
structure ExAt (K : PySem.W.Frag) (H : Hp) (cls : Value) (d : Option Addr) (D : Addr) : Prop where
  cls : cls = .ref D
  dict : d = none ∨ ∃ dd fs, d = some dd ∧ H dd = some (.xd fs)
  ok : ExcC K D
theorem ExAt.inst {pins : List (Addr × Obj)} {σ : St} {H : Hp} {s : Shared} {cls : Value} {d : Option Addr} {D a : Addr} {oe : Obj} (I : Inv X pins σ H s) (E : ExAt X.K H cls d D) (hz : Zc cls d oe) (hf : ∃ vs, oe.data = .fields vs) (ha : s.heap.get? a = some oe) : ∃ od, PySem.W.InstAt s.heap a oe D od := by
  obtain ⟨vs, hv⟩ := hf
  obtain ⟨oc, odd, oda, osl⟩ := oe
  obtain ⟨h1, h2⟩ := hz
  dsimp only at h1 h2 hv
  have e := E.cls
  subst e h1 h2 hv
  rcases E.dict with rfl | ⟨dd, fs, rfl, hd⟩
  · exact ⟨none, ha, rfl, rfl, trivial⟩
  · obtain ⟨mA, ⟨od, es, ep, e2, _⟩, _⟩ := (show ObjOk X.prog X.w H s.heap dd (.xd fs) from I.hok dd _ hd)
    exact ⟨some od, ha, rfl, rfl, e2⟩
theorem ExcC.kit {K : PySem.W.Frag} {D a : Addr} {oe : Obj} {od : Option Obj} (C : ExcC K D) : PySem.W.KitX K (.ref a) (.ref D) (fun h => PySem.W.InstAt h a oe D od) :=
  PySem.W.kitx_exc (by obtain ⟨cd, hc, _⟩ := PySem.W.any_some C.hd; rw [hc]; rfl) C.hg C.hk C.hs C.ha C.hn C.ht C.hm
/-- isinstance(e, c) -/
def rIsX (K : PySem.W.Frag) (a : Addr) (cls : Value) (d : Option Addr) : List V → Hp → VK → Prop := fun xs H Q => ∃ (D : Addr) (c : V) (cv : Value) (b : Bool), ExAt K H cls d D ∧ xs = [.ref a, c] ∧ ClsV c cv ∧ PySem.W.kitOne K (.ref D) cv = some b ∧ Q (.bl b) H
theorem call_isX {K : PySem.W.Frag} {a : Addr} {cls : Value} {d : Option Addr} {oe : Obj} {pn : List (Addr × Obj)} (hz : Zc cls d oe) (hf : ∃ vs, oe.data = .fields vs) (hK : X.K = K := by rfl) : CallR (X.suite a ((a, oe) :: pn)) (.builtin "isinstance") (rIsX K a cls d) := by
  subst hK
  intro pins s σ H xs us Q I r h
  obtain ⟨D, c, cv, b, E, rfl, hcv, e, q⟩ := h
  obtain ⟨u1, u2, rfl, rx, rt⟩ := vals2 r
  cases rx
  have ec := hcv.eq rt
  subst ec
  obtain ⟨hget, _⟩ := I.pin (a, oe) (List.mem_append.mpr (.inl List.mem_cons_self))
  obtain ⟨od, J⟩ := ExAt.inst (X := X.suite a ((a, oe) :: pn)) I E hz hf hget
  exact PySem.W.kia_one (E.ok.kit) I.kIn J e (fun z => nomatch z) fun tk => ⟨.bl b, H, I.kept (t' := tk) fun _ _ z => z, rfl, q⟩
/-- isinstance(e, (c, ..)) -/
def rIsXT (K : PySem.W.Frag) (a : Addr) (cls : Value) (d : Option Addr) : List V → Hp → VK → Prop := fun xs H Q => ∃ (D tp : Addr) (cs : List V) (us : List Value) (b : Bool), ExAt K H cls d D ∧ xs = [.ref a, .ref tp] ∧ H tp = some (.tup cs) ∧ Paired ClsV cs us ∧ PySem.W.kitAny K (.ref D) us = some b ∧ Q (.bl b) H
theorem call_isXT {K : PySem.W.Frag} {a : Addr} {cls : Value} {d : Option Addr} {oe : Obj} {pn : List (Addr × Obj)} (hz : Zc cls d oe) (hf : ∃ vs, oe.data = .fields vs) (hK : X.K = K := by rfl) : CallR (X.suite a ((a, oe) :: pn)) (.builtin "isinstance") (rIsXT K a cls d) := by
  subst hK
  intro pins s σ H xs us Q I r h
  obtain ⟨D, tp, cs, ws, b, E, rfl, hT, k, e, q⟩ := h
  obtain ⟨u1, u2, rfl, rx, rt⟩ := vals2 r
  cases rx
  cases (show u2 = Value.ref tp from rt)
  obtain ⟨hget, _⟩ := I.pin (a, oe) (List.mem_append.mpr (.inl List.mem_cons_self))
  obtain ⟨od, J⟩ := ExAt.inst (X := X.suite a ((a, oe) :: pn)) I E hz hf hget
  obtain ⟨_, its, rv, o, h1, h2, n, h3⟩ := (show ObjOk X.prog X.w H s.heap tp (.tup cs) from I.hok tp _ hT)
  have e3 := ClsV.all k rv
  subst e3
  obtain ⟨oc, od', dt, sl⟩ := o
  simp only at h2 h3
  subst h2 h3
  exact PySem.W.kia_tup (E.ok.kit) I.kIn J h1 e (fun z => nomatch z) fun tk => ⟨.bl b, H, I.kept (t' := tk) fun _ _ z => z, rfl, q⟩
/-- list(text) -/
def rListS (H : Hp) (z : Str) (Q : VK) : Prop := ∀ l, H l = none → Q (.ref l) (upd H l (.lst (z.cps.toList.map fun c => V.str ⟨#[c]⟩)))
theorem vals_signs : ∀ (l : List Nat) (us : List Value), us.length = l.length → (∀ (i : Nat) (v : Value), us[i]? = some v → ∃ c t, l[i]? = some c ∧ v = .str ⟨#[c]⟩ t) → Vals (l.map fun c => V.str ⟨#[c]⟩) us
  | [], [], _, _ => .nil
  | [], _ :: _, h, _ => by simp at h
  | _ :: _, [], h, _ => by simp at h
  | c :: l, u :: us, h, hv => by
    obtain ⟨c', t, e1, e2⟩ := hv 0 u rfl
    have : c = c' := by simpa using e1
    subst this
    exact .cons ⟨t, e2⟩ (vals_signs l us (by simpa using h) fun i v e => by simpa using hv (i + 1) v (by simpa using e))
theorem call_listS (hc : X.calm = true) : CallR X (.type "list") (fun xs H Q => ∃ z, xs = [.str z] ∧ z.length ≤ sizeLine ∧ rListS H z Q) := by
  intro pins s σ H xs us Q I r h
  obtain ⟨z, rfl, hz, q⟩ := h
  obtain ⟨u, rfl, t, rfl⟩ := vals1 r
  have hh : X.A.handled = none := I.ok.hd hc
  refine call_list_str hh z t (hn := hz) fun h' tk acc' c' hk hS hacc => ?_
  have rv : Vals (z.cps.toList.map fun c => V.str ⟨#[c]⟩) acc'.toList := vals_signs _ _ (by simpa using hacc.1) fun i v e => by
    obtain ⟨c, u, h1, h2⟩ := hacc.2 i v (by simpa using e)
    exact ⟨c, u, by simpa using h1, h2⟩
  refine ⟨.ref s.heap.objs.size, _, I.laid (t' := tk) hk (Nat.le_refl _) (show ObjOk X.prog X.w _ h' _ (.lst _) from ⟨by rw [List.length_map, Array.length_toList]; exact hz, acc'.toList, c', rv, by simpa using hS⟩), rfl, q _ (I.hok.fresh (Nat.le_refl _))⟩
end
end L2
namespace L2
open PySem PySem.Spec PyProof.Rows
/-! ### what the written part says of an own exception class -/
structure ExK (K : PySem.W.Frag) (mg : Str → Option Value) (x : Str) (C : Addr) (bm : List Value) (newId : String) : Prop where
  gC : mg x = some (.ref C)
  xC : PySem.W.excIn K C bm newId = true
  kC : PySem.W.keepIn K (.ref C) = true
  bC : PySem.W.subIn K (.ref C) (.type "BaseException") = some true
  tC : PySem.W.typeIn K (.ref C) = some (.type "type")
  iC : PySem.W.isClsIn K C = true
  sC : PySem.W.subIn K (.ref C) (.ref C) = some true
  ok : ExcC K C
theorem ExK.te {K : PySem.W.Frag} {mg : Str → Option Value} {x : Str} {C : Addr} {bm : List Value} {newId : String} (T : ExK K mg x C bm newId) : PySem.W.exmOne K (.ref C) (.ref C) = some true := by
  have e1 : (PySem.W.subIn K (.ref C) (.type "BaseException") == some true) = true := by rw [T.bC]; rfl
  have e2 : ((PySem.W.clsIn K C).isSome && PySem.W.typeIn K (.ref C) == some (.type "type")) = true := by
    have q : (PySem.W.clsIn K C).isSome = true := T.iC
    rw [q, T.tC]
    rfl
  show (if (PySem.W.subIn K (.ref C) (.type "BaseException") == some true) = true then (if ((PySem.W.clsIn K C).isSome && PySem.W.typeIn K (.ref C) == some (.type "type")) = true then PySem.W.subIn K (.ref C) (.ref C) else none) else none) = some true
  rw [if_pos e1, if_pos e2]
  exact T.sC
section
variable {X : Cx} {CX : CXT} {x : Str} {k : Nat} {f : Addr} {fd : FuncData} {ps : List Str} {sp : Sp} {dvs : List V} {ds : List Value} {E : St → XK} {e : Expr} {es : List Expr} {t : TA} {p pos : Pos}
/-- f(e, ..) in a try's body, defaults behind -/
def tCallSD (sp : Sp) (dvs : List V) (E : St → XK) (t : TA) : TE := fun σ H Q => t σ H fun vs H1 => sp (vs ++ dvs) H1 Q (E σ)
theorem pe_callSD (F : FnOk X.prog X.w X.K X.mg X.base CX k f fd ps sp) (hr : Room k X.A) (hg : Gl X x) (hm : X.mg x = some (.ref f)) (hk : PySem.W.keepIn X.K (.ref f) = true) (hb : Binds X.K fd ps ds) (hd : Vals dvs ds) (hx : ∀ σ, PassesAt CX X σ (E σ))
    (ha : PA X (e :: es) t) (hdb : (x == ("__debug__" : Str)) = false := by decide) (he : starEach (e :: es) X.env = (false, eval e X.env) :: starEach es X.env := by rfl) (hpl : (backTo pos (starEach es X.env)).any (·.1) = false := by rfl) :
    PE X (.Call (.Name x p) (e :: es) [] pos) (tCallSD sp dvs E t) := by
  refine ⟨fun pins s σ H Q I h => ?_⟩
  refine wpAny_Call_Name_kw (ld_glob I hg hm ?_ hdb)
  refine PySem.W.callWith_K (h₀ := X.base) I.ok.mod.kin hk (thn (ha.run pos pins s σ H _ I h) fun us s1 ⟨vs, H1, I1, r, q⟩ => ⟨I1.kIn, ?_⟩) he hpl
  have r2 : Vals (vs ++ dvs) (us ++ ds) := r.append hd
  have hl : (us ++ ds).length = ps.length := by rw [← r2.length]; exact F.len _ _ _ _ q
  refine wpAny_call (codeAny_mono (F.run X.A X.stack s1 H1 ⟨us, []⟩ (us ++ ds) (vs ++ dvs) Q (E σ) hr I1.env0 (hb s1 us I1.kIn hl) r2 q) fun r s' hq => ?_)
  cases r with
  | error er => exact hx σ pins H1 s1 er s' I1 hq
  | ok fl =>
    cases fl with
    | ret u => exact I1.after hq
    | next => exact False.elim hq
    | brk => exact False.elim hq
    | cont => exact False.elim hq
end
end L2

namespace L2
open PySem PySem.Spec PyProof.Rows
/-! ### own exceptions with fields over any built-in base -/
/-- what is asked of such a class C over the built-in class B -/
structure XiC (K : PySem.W.Frag) (C : Addr) (B newId initId : String) (bmB : List Value) : Prop where
  fb : ExcBaseFacts B newId initId bmB
  sf : StoreFacts B bmB "object.__setattr__" "object"
  made : PySem.W.excInitIn K C bmB newId = true
  ov : PySem.W.excOver K C bmB = true
  hd : PySem.W.hasDictIn K C = true
  sa : PySem.W.findIn K (.ref C) "__setattr__" = some (some (.builtin "object.__setattr__"))
  bC : PySem.W.subIn K (.ref C) (.type "BaseException") = some true
  tC : PySem.W.typeIn K (.ref C) = some (.type "type")
  kC : PySem.W.keepIn K (.ref C) = true
section
variable {X : Cx} {pins : List (Addr × Obj)} {σ : St} {H : Hp} {s : Shared} {a C dx : Addr} {f : Str} {y : V} {u : Value} {fs : List (Str × V)} {Q : Unit → Shared → Prop} {E : Value → Shared → Prop} {A : Around} {B ni ii : String} {bm : List Value}
/-- e.f = y, the first field: the exception's dict is made -/
theorem xi_first (T : XiC X.K C B ni ii bm) (I : Inv X pins σ H s) (he : H a = some (exo a C none)) (ht : PySem.W.takerIn X.K C f = some none) (ry : RelV y u)
    (k : ∀ dx s', H dx = none → dx ≠ a → Inv X pins σ (upd (upd (upd H dx (exd dx [])) a (exo a C (some dx))) dx (exd dx [(f, y)])) s' → Q () s') : wpAny (model X.prog X.w) A (setAttr (.ref a) f u) Q E s := by
  obtain ⟨t1, ho⟩ := exo_at I.hok he
  obtain ⟨hp, g, dr, t, os⟩ := s
  obtain ⟨cd, hc, hdct⟩ := PySem.W.any_some T.hd
  have lt : a < hp.objs.size := Heap.lt_size ho
  refine PySem.W.set_plain I.kIn (od := none) ⟨ho, rfl, rfl, trivial⟩ T.sa ?_
  refine PySem.W.osa_openX (od := none) T.sf I.kIn ⟨ho, rfl, rfl, trivial⟩ T.ov ht fun b => ?_
  refine wpAny_bind (wpAny_pure (wpAny_bind (PySem.W.instanceDict_exc ho (PySem.W.looks_clsIn I.kIn hc) hdct ?_)))
  show wpAny _ _ (Builtin.ObjectAttr.storeInDict hp.objs.size _ f u) _ _ _
  have gd : (hp.push (PySem.W.dictOf [] 0)).get? hp.objs.size = some (PySem.W.dictOf [] 0) := Heap.get?_push_size _ rfl
  have ns0 : (hp.push (PySem.W.dictOf [] 0)).Ns1 hp.objs.size (fun _ => none) := Heap.Ns1.of_empty ⟨_, #[], _, gd, rfl, fun e he => absurd he (by simp), fun _ => rfl⟩
  have J1 := I.laid (a := hp.objs.size) (o := exd hp.objs.size []) (h' := hp.push (PySem.W.dictOf [] 0)) (t' := t) (fun _ _ q => Heap.get?_push_of_some _ q) (Nat.le_refl _) (exd_ok ns0 fun _ => True.intro)
  have fr : H hp.objs.size = none := I.hok.fresh (Nat.le_refl _)
  have na : hp.objs.size ≠ a := Nat.ne_of_gt lt
  have gx := Heap.get?_update_self (fun o : Obj => { o with dict := some hp.objs.size }) (Heap.get?_push_of_some (PySem.W.dictOf [] 0) ho) rfl
  have J2 := J1.write (x := a) (e := a) (o := exo a C (some hp.objs.size)) (h' := (hp.push (PySem.W.dictOf [] 0)).update a fun o => { o with dict := some hp.objs.size }) (t' := t)
    (by rw [upd_ne na.symm, he]; exact True.intro) (.inl rfl) (fun b o hb q => (Heap.get?_update_ne _ _ _ _ hb).trans q) ⟨_, gx⟩ (exo_ok gx)
  have ns1 : ((hp.push (PySem.W.dictOf [] 0)).update a fun o => { o with dict := some hp.objs.size }).Ns1 hp.objs.size (fun _ => none) :=
    Heap.Ns1.of_empty ⟨_, #[], _, (Heap.get?_update_ne _ _ _ _ na).trans gd, rfl, fun e he => absurd he (by simp), fun _ => rfl⟩
  refine PySem.OEX.store_in_old (ns := []) ns1 Within.nil (by decide) fun h' tk' hn' sb => ?_
  have ex : ∃ o, h'.get? hp.objs.size = some o := by
    obtain ⟨o, _, _, q, _⟩ := hn'
    exact ⟨o, q⟩
  exact k hp.objs.size _ fr na (J2.write (x := hp.objs.size) (e := hp.objs.size) (o := exd hp.objs.size [(f, y)]) (h' := h') (t' := tk')
    (by rw [upd_ne na, upd_same]; exact True.intro) (.inl rfl) (fun b o hb q => (sb.2 b hb).trans q) ex (exd_ok hn' (relO_put (fs := []) ry fun _ => True.intro)))
/-- e.f = y, a later field -/
theorem xi_later (T : XiC X.K C B ni ii bm) (I : Inv X pins σ H s) (he : H a = some (exo a C (some dx))) (hd : H dx = some (exd dx fs)) (hl : fs.length ≤ 900) (ht : PySem.W.takerIn X.K C f = some none) (ry : RelV y u)
    (k : ∀ s', Inv X pins σ (upd H dx (exd dx ((f, y) :: fs))) s' → Q () s') : wpAny (model X.prog X.w) A (setAttr (.ref a) f u) Q E s := by
  obtain ⟨t1, ho⟩ := exo_at I.hok he
  obtain ⟨mA, ns1, rel⟩ := exd_at I.hok hd
  have wi := within_of rel
  obtain ⟨hp, g, dr, t, os⟩ := s
  obtain ⟨cd, hc, hdct⟩ := PySem.W.any_some T.hd
  obtain ⟨oD, _, _, gD, _, _⟩ := ns1.count wi
  refine PySem.W.set_plain I.kIn (od := some oD) ⟨ho, rfl, rfl, gD⟩ T.sa ?_
  refine PySem.W.osa_openX (od := some oD) T.sf I.kIn ⟨ho, rfl, rfl, gD⟩ T.ov ht fun b => ?_
  refine wpAny_bind (wpAny_pure (wpAny_bind (wpAny_bind (wpAny_loadPart ho (wpAny_bind ((PySem.W.looks_clsIn I.kIn hc).at ?_))))))
  rw [hdct]
  refine wpAny_pure (a := some dx) ?_
  refine PySem.OEX.store_in_old ns1 wi (by rw [List.length_map]; omega) fun h' tk' hn' sb => ?_
  have ex : ∃ o, h'.get? dx = some o := by
    obtain ⟨o, _, _, q, _⟩ := hn'
    exact ⟨o, q⟩
  exact k _ (I.write (x := dx) (e := dx) (o := exd dx ((f, y) :: fs)) (h' := h') (t' := tk') (by rw [hd]; exact True.intro) (.inl rfl) (fun b o hb q => (sb.2 b hb).trans q) ex (exd_ok hn' (relO_put ry rel)))
/-- B.__init__(e, ..): nothing of it is told -/
theorem xi_base {us : List Value} {P : Value → Shared → Prop} (T : XiC X.K C B ni ii bm) (I : Inv X pins σ H s) (he : H a = some (exo a C none)) (hl : us.length ≤ sizeLine) (k : ∀ s', Inv X pins σ H s' → P .none s') :
    wpAny (model X.prog X.w) A (call (.builtin ii) (.ref a :: us)) P E s := by
  obtain ⟨nm, N, q, bs, bm', hdct, sn, sub, ab, col, dd, k0, k1, k2, k3, k5, hC, hT⟩ := PySem.W.excInit_of I.kIn T.made
  obtain ⟨t1, ho⟩ := exo_at I.hok he
  obtain ⟨hp, g, d, t, os⟩ := s
  refine wpAny_call (PySem.HandSPX.init_base T.fb hT hC ho hl fun h' t2 kp hx => ?_)
  have J := I.write (t' := t) (x := a) (e := a) (o := exo a C none) (by rw [he]; exact True.intro) (.inl rfl) kp ⟨_, hx⟩ (exo_ok hx)
  have same : upd H a (exo a C none) = H := funext fun b => by
    by_cases hb : b = a
    · subst hb; rw [upd_same, he]
    · exact upd_ne hb
  rw [same] at J
  exact k _ J
end
/-- B.__init__(self, ..) -/
def tXi (K : PySem.W.Frag) (B ni ii : String) (bm : List Value) (ta : TA) : TE := fun σ H Q => ta σ H fun vs H1 => ∃ (a C : Addr) (ws : List V), vs = .ref a :: ws ∧ ws.length ≤ 1000 ∧ XiC K C B ni ii bm ∧ H1 a = some (exo a C none) ∧ Q .non H1
/-- self.f = e -/
def tXs (K : PySem.W.Frag) (B ni ii : String) (bm : List Value) (f : Str) (to te : TE) : TS := fun D σ H => te σ H fun y H1 => to σ H1 fun x H2 => ∃ a C : Addr, x = .ref a ∧ XiC K C B ni ii bm ∧ PySem.W.takerIn K C f = some none ∧
  ((H2 a = some (exo a C none) ∧ ∀ dx, H2 dx = none → dx ≠ a → D.nx σ (upd (upd (upd H2 dx (exd dx [])) a (exo a C (some dx))) dx (exd dx [(f, y)]))) ∨
    ∃ (dx : Addr) (fs : List (Str × V)), H2 a = some (exo a C (some dx)) ∧ H2 dx = some (exd dx fs) ∧ fs.length ≤ 900 ∧ D.nx σ (upd H2 dx (exd dx ((f, y) :: fs))))
section
variable {X : Cx} {o e : Expr} {es : List Expr} {to te : TE} {ta : TA} {f : Str} {p p' p1 p2 pos : Pos} {B ni ii : String} {bm : List Value}
theorem pe_xi {x : Str} {pl : Sem Bool} (hg : Gl X x) (hm : X.mg x = none) (hv : bootBuiltins x = some (.type B)) (hn : x ≠ "__name__") (hdb : (x == ("__debug__" : Str)) = false) (ty : typeOf (.type B) = pure (.type "type")) (vV : PySem.W.findCls X.K (.type B) (.type "type") "__init__" = some (.val (.builtin ii))) (ha : PA X (e :: es) ta)
    (stub : Manifest.isStub B = false := by decide +kernel) (hnd : PySem.W.handedIn (.builtin ii) = true := by decide +kernel)
    (hc : eval (.Call (.Attribute (.Name x p1) "__init__" p2) (e :: es) [] pos) X.env = (do
      let ov ← eval (.Name x p1) X.env
      standAt p2.atName
      let (f, first) ← holding [ov] (getMethod ov "__init__" pl)
      callWith pos f first (backTo pos (starEach (e :: es) X.env)) (backToKw pos (keywordEach [] X.env))) := by rfl)
    (he : starEach (e :: es) X.env = (false, eval e X.env) :: starEach es X.env := by rfl) (hpl : (backTo pos (starEach es X.env)).any (·.1) = false := by rfl) :
    PE X (.Call (.Attribute (.Name x p1) "__init__" p2) (e :: es) [] pos) (tXi X.K B ni ii bm ta) := by
  refine ⟨fun pins s σ H Q I h => ?_⟩
  refine PySem.W.methodCall_KW (ld_blt I hg hm hv ?_ hn hdb) hc
  obtain ⟨m, fr⟩ := I.fr
  refine PySem.W.method_type fr I.ok.mod.kin ty stub vV hnd ?_
  show wpAny _ _ (callWith pos (Value.builtin ii) [] (backTo pos (starEach (e :: es) X.env)) []) _ _ _
  refine PyProof.Rows.callWith_method1 (thn (ha.run pos pins _ σ H _ (I.tok _) h) fun us s1 z => ?_) he hpl
  obtain ⟨vs, H1, J, r, a, C, ws, rfl, hl, T, ea, q⟩ := z
  cases r with
  | @cons _ u0 _ ur ra rw' =>
    cases (show u0 = Value.ref a from ra)
    exact xi_base T J ea (by rw [← Paired.length rw', sizeLine_eq]; omega) fun s' J' => ⟨.non, H1, J', rfl, q⟩
theorem ps_xs (ho : PE X o to) (he : PE X e te) (hs : swapsWith e (some (.Attribute o f p')) pos.line X.env = pure false := by rfl) : PS X (.Assign [.Attribute o f p'] e pos) (tXs X.K B ni ii bm f to te) := by
  refine ⟨fun pins s σ H D I h => plainObj_wpAny_Assign_Attribute (thn (he.run pins s σ H _ I h) fun v s1 z1 => ?_) hs⟩
  obtain ⟨y, H1, J1, ry, q1⟩ := z1
  refine thn (ho.run pins s1 σ H1 _ J1 q1) fun u s2 z2 => ?_
  obtain ⟨x, H2, J2, rx, a, C, rfl, T, ht, q⟩ := z2
  cases (show u = Value.ref a from rx)
  rcases q with ⟨ea, q⟩ | ⟨dx, fs, ea, ed, hl, q⟩
  · exact xi_first T J2 ea ht ry fun dx s' n ne J => ⟨σ, _, J, q dx n ne⟩
  · exact xi_later T J2 ea ed hl ht ry fun s' J => ⟨σ, _, J, q⟩
/-- C(e, ..), C's own __init__ keeping sp -/
theorem pmk_xi {CX : CXT} {x : Str} {C fI : Addr} {k : Nat} {fd : FuncData} {ps : List Str} {sp : Sp} {ds : List Value} {dvs : List V} (T : XiC X.K C B ni ii bm) (iC : PySem.W.findIn X.K (.ref C) "__init__" = some (some (.ref fI))) (tI : PySem.W.typeIn X.K (.ref fI) = some (.type "function"))
    (F1 : FnOk X.prog X.w X.K X.mg X.base CX k fI fd ps sp) (hr : Room (k + 1) X.A) (hb : Binds X.K fd ps ds) (hd : Vals dvs ds) (hx : Passes CX X (fun _ _ _ => False)) (hg : Gl X x) (hm : X.mg x = some (.ref C)) (ha : PA X (e :: es) ta)
    (hdb : (x == ("__debug__" : Str)) = false := by decide) (he : starEach (e :: es) X.env = (false, eval e X.env) :: starEach es X.env := by rfl) (hpl : (backTo pos (starEach es X.env)).any (·.1) = false := by rfl) :
    PMk X (.Call (.Name x p) (e :: es) [] pos) (tMkO C sp dvs ta) := by
  intro pins s σ H Q I h
  refine wpAny_Call_Name_kw (ld_glob I hg hm ?_ hdb)
  refine PySem.W.callWith_K (h₀ := X.base) I.ok.mod.kin T.kC (thn (ha.run pos pins s σ H _ I h) fun us s1 z => ?_) he hpl
  obtain ⟨vs, H1, J, r, hz, q⟩ := z
  refine ⟨J.kIn, ?_⟩
  show wpAny _ _ (call (.ref C) us) _ _ _
  obtain ⟨nm, N, qn, bs, bm', hdct, sn, sub, ab, col, dd, k0, k1, k2, k3, k5, hC, hT⟩ := PySem.W.excInit_of J.kIn T.made
  obtain ⟨hp, g, dr, tk, os⟩ := s1
  have n1 : hp.objs.size ≤ hp.objs.size + 1 := Nat.le_succ _
  have Z := q (hp.objs.size + 1) (J.hok.fresh n1)
  have kp : ∀ b o, hp.get? b = some o → ((hp.push (PySem.W.kdv_tup us)).push (PySem.HandSPX.excO C hp.objs.size)).get? b = some o := fun _ _ z => Heap.get?_push_of_some _ (Heap.get?_push_of_some _ z)
  have gt : ((hp.push (PySem.W.kdv_tup us)).push (PySem.HandSPX.excO C hp.objs.size)).get? (hp.objs.size + 1) = some (PySem.HandSPX.excO C hp.objs.size) := by heap_get
  have J2 := J.laid (t' := tk) (a := hp.objs.size + 1) (o := exo (hp.objs.size + 1) C none) (h' := (hp.push (PySem.W.kdv_tup us)).push (PySem.HandSPX.excO C hp.objs.size)) kp n1 (exo_ok gt)
  have r2 : Vals (V.ref (hp.objs.size + 1) :: (vs ++ dvs)) (Value.ref (hp.objs.size + 1) :: (us ++ ds)) := .cons rfl (r.append hd)
  have zl : (Value.ref (hp.objs.size + 1) :: us ++ ds).length = ps.length := (r2.length.symm.trans (F1.len _ _ _ _ Z)).symm ▸ rfl
  refine wpAny_call (PySem.HandSPX.call_own T.fb hT hC (PySem.W.looks_findIn J.kIn iC) (fun self => PySem.W.bind_fn J.kIn self tI) (by rw [← Paired.length r, sizeLine_eq]; omega)
    (codeAny_mono (F1.run _ X.stack _ _ ⟨Value.ref (hp.objs.size + 1) :: us, []⟩ (Value.ref (hp.objs.size + 1) :: (us ++ ds)) _ _ (fun _ _ _ => False) (hr.make C us []) (J2.env0.make C us []) (hb _ (Value.ref (hp.objs.size + 1) :: us) J2.kIn zl) r2 Z) fun rs s' z => ?_))
  cases rs with
  | error er => exact hx pins σ _ _ er s' J2 z
  | ok fl =>
    cases fl with
    | ret u =>
      obtain ⟨v, H2, os2, bare2, un2, hok2, rv, ev, d, fs, ea, ed, hd1, q2⟩ := z
      subst ev
      obtain ⟨h2, g2, d2, t2, os'⟩ := s'
      exact ⟨rv, mk_end (raises_own T.bC T.tC) J n1 kp un2 hok2 os2 bare2 ea ed hd1 q2⟩
    | _ => exact False.elim z
end
end L2
namespace L2
open PySem PySem.Spec PyProof.Rows
/-! ### what the written part says of such a class -/
structure ExF (K : PySem.W.Frag) (mg : Str → Option Value) (x : Str) (C : Addr) (B ni ii : String) (bm : List Value) : Prop where
  gC : mg x = some (.ref C)
  xi : XiC K C B ni ii bm
  iC : PySem.W.isClsIn K C = true
  sC : PySem.W.subIn K (.ref C) (.ref C) = some true
  ok : ExcC K C
  xf : XfC K C
section
variable {K : PySem.W.Frag} {mg : Str → Option Value} {x : Str} {C D : Addr} {B ni ii : String} {bm : List Value} {b : Bool} {T : String} {f : Str}
theorem ExF.tC (E : ExF K mg x C B ni ii bm) : PySem.W.typeIn K (.ref C) = some (.type "type") := E.xi.tC
theorem ExF.bC (E : ExF K mg x C B ni ii bm) : PySem.W.subIn K (.ref C) (.type "BaseException") = some true := E.xi.bC
/-- which clause takes an exception -/
theorem exm_of (s : PySem.W.subIn K (.ref C) (.ref D) = some b) (bD : PySem.W.subIn K (.ref D) (.type "BaseException") = some true) (iD : PySem.W.isClsIn K D = true) (tD : PySem.W.typeIn K (.ref D) = some (.type "type")) : PySem.W.exmOne K (.ref C) (.ref D) = some b := by
  have q : (PySem.W.clsIn K D).isSome = true := iD
  show (if (PySem.W.subIn K (.ref D) (.type "BaseException") == some true) = true then (if ((PySem.W.clsIn K D).isSome && PySem.W.typeIn K (.ref D) == some (.type "type")) = true then PySem.W.subIn K (.ref C) (.ref D) else none) else none) = some b
  rw [if_pos (by rw [bD]; rfl), if_pos (by rw [q, tD]; rfl), s]
theorem ExF.te (E : ExF K mg x C B ni ii bm) : PySem.W.exmOne K (.ref C) (.ref C) = some true := exm_of E.sC E.bC E.iC E.tC
theorem kit_exT (s : PySem.W.subIn K (.ref C) (.type T) = some b) (m : PySem.W.kitMeta T = true := by decide +kernel) : PySem.W.kitOne K (.ref C) (.type T) = some b := by
  have n : (Value.ref C == Value.type T) = false := by
    apply beq_eq_false_iff_ne.mpr
    intro z
    cases z
  show (if (Value.ref C == Value.type T) = true then some true else if PySem.W.kitMeta T = true then PySem.W.subIn K (.ref C) (.type T) else none) = some b
  rw [n, if_neg (by decide), if_pos m, s]
theorem kit_exC (s : PySem.W.subIn K (.ref C) (.ref D) = some b) (iD : PySem.W.isClsIn K D = true) (tD : PySem.W.typeIn K (.ref D) = some (.type "type")) (sD : PySem.W.subIn K (.ref D) (.ref D) = some true) : PySem.W.kitOne K (.ref C) (.ref D) = some b := by
  have q : (PySem.W.clsIn K D).isSome = true := iD
  show (if (Value.ref C == Value.ref D) = true then some true else if ((PySem.W.clsIn K D).isSome && PySem.W.typeIn K (.ref D) == some (.type "type")) = true then PySem.W.subIn K (.ref C) (.ref D) else none) = some b
  by_cases e : C = D
  · subst e
    rw [if_pos (by simp)]
    exact sD.symm.trans s
  · rw [if_neg (by simpa using e), if_pos (by rw [q, tD]; rfl), s]
theorem taker_none (h : PySem.W.findIn K (.ref C) f = some none) : PySem.W.takerIn K C f = some none := by
  unfold PySem.W.takerIn
  rw [h]
  rfl
end
/-- what such a class's heap is behind its __init__, once the exception is let go -/
theorem fresh_xd {H : Hp} {a d : Addr} {C : Addr} {fs gs : List (Str × V)} (ha : H a = none) (n : d ≠ a) :
    upd (del (upd (upd (upd (upd H a (exo a C none)) d (exd d gs)) a (exo a C (some d))) d (exd d fs)) a) d (.xd fs) = upd H d (.xd fs) := funext fun b => by
  by_cases h : b = d
  · subst h; rw [upd_same, upd_same]
  · rw [upd_ne h, upd_ne h]
    by_cases h2 : b = a
    · subst h2; rw [del_same, ha]
    · rw [del_ne h2, upd_ne h, upd_ne h2, upd_ne h, upd_ne h2]
end L2

namespace L2
open PySem PySem.Spec PyProof.Rows
/-! ### several except clauses, each with a name or none -/
abbrev Hd := Value × Option Nat × (Addr → Value → Option Addr → TS)
/-- the ends of a suite whose name, slot i, is taken away behind it -/
def outOf (i : Nat) (D : Ends) : Ends := { nx := fun τ G => D.nx (τ.set i none) G, rt := D.rt, bk := fun τ G => D.bk (τ.set i none) G, ct := fun τ G => D.ct (τ.set i none) G }
/-- what the clauses wish of an exception of the body -/
def wLs (K : PySem.W.Frag) (Wout : WX) (D : Ends) : List Hd → WX
  | [] => Wout
  | (c, none, ts) :: r => fun cls d σ H => ∃ b, PySem.W.exmOne K cls c = some b ∧ (b = true → ∀ e, H e = none → ts e cls d D σ H) ∧ (b = false → wLs K Wout D r cls d σ H)
  | (c, some i, ts) :: r => fun cls d σ H => ∃ b, PySem.W.exmOne K cls c = some b ∧ (b = true → ∀ e, H e = none → ts e cls d (outOf i D) (σ.set i (some (.ref e))) H) ∧ (b = false → wLs K Wout D r cls d σ H)
/-- the readings of the clauses -/
inductive HdLs (X : Cx) : List ExceptHandler → List Hd → Prop
  | nil : HdLs X [] []
  | bare {x : Str} {c : Value} {ts : Addr → Value → Option Addr → TS} {st : Stmt} {suite : List Stmt} {np q : Pos} {hds : List ExceptHandler} {l : List Hd} (hc : Names X x c)
      (hs : ∀ (e : Addr) (oe : Obj) (cls : Value) (d : Option Addr) (pn : List (Addr × Obj)), Zc cls d oe → (∃ vs, oe.data = .fields vs) → PSs (X.suite e ((e, oe) :: pn)) (st :: suite) (ts e cls d)) (r : HdLs X hds l) :
      HdLs X (.ExceptHandler (some (.Name x np)) none (st :: suite) q :: hds) ((c, none, ts) :: l)
  | named {x n : Str} {i : Nat} {c : Value} {ts : Addr → Value → Option Addr → TS} {st : Stmt} {suite : List Stmt} {np q : Pos} {hds : List ExceptHandler} {l : List Hd} (hi : X.N[i]? = some n) (hn : X.env.kindOf n = some .local) (hc : Names X x c)
      (hs : ∀ (e : Addr) (oe : Obj) (cls : Value) (d : Option Addr) (pn : List (Addr × Obj)), Zc cls d oe → (∃ vs, oe.data = .fields vs) → PSs (X.suite e ((e, oe) :: pn)) (st :: suite) (ts e cls d)) (r : HdLs X hds l) :
      HdLs X (.ExceptHandler (some (.Name x np)) (some n) (st :: suite) q :: hds) ((c, some i, ts) :: l)
section
variable {X : Cx} {body : List Stmt} {h1 : ExceptHandler} {hds : List ExceptHandler} {l : List Hd} {pos : Pos} {tb : WX → TS} {Wout : WX}
theorem ps_try_ls (nd : X.N.Nodup) (hst : X.stack = X.env :: X.outer) (hfr : X.env.frame = some X.env.locals) (tk : Takes X Wout)
    (hb : ∀ (W : WX) (pn : List (Addr × Obj)) (xe : Value → Shared → Prop), Takes (X.tr pn xe) W → PassesOwn (model X.prog X.w) X.A X.env xe → PSs (X.tr pn xe) body (tb W))
    (hh : HdLs X (h1 :: hds) l) : PS X (.Try body (h1 :: hds) [] [] pos) (fun D σ H => tb (wLs X.K Wout D l) D σ H) := by
  refine ⟨fun pins s σ H D I h => wpAny_Try_except ?_⟩
  have ok := I.ok
  have fA : X.A.frames = some (X.env :: X.outer) := ok.frames.trans (congrArg some hst)
  refine wpAny_mono ((hb (wLs X.K Wout D l) (X.pn ++ pins) (fun e s₁ => wpAny (model X.prog X.w) X.A (noteFrame e X.env) (fun _ s₂ => wpAny (model X.prog X.w) X.A (setFlight e none) (fun _ s₃ =>
    wpAny (model X.prog X.w) X.A (handleBy e X.env (h1 :: hds)) (SP X pins D) X.xe s₃) X.xe s₂) X.xe s₁) (fun u s' z => ?_) PassesOwn.looking).run [] s σ H D (I.toTry _) h) (fun fl s1 z => ?_) (fun _ _ z => z)
  · obtain ⟨x, M, s0, p0, τ, G, cls, d, rfl, J0, nb, up, sky0, nx, os, ag, w⟩ := z
    have J : Inv X pins τ G s0 := J0.ofTry ok
    have sky : Sky M (X.env :: X.outer) x (Zc cls d) X.env.locals s'.heap := hst ▸ sky0
    show wpAny (model X.prog X.w) X.A (noteFrame (.ref x) X.env) _ _ _
    refine Sky.land Zc.steady fA hfr sky fun h3 fl3 up3 => ?_
    have J3 : Inv X pins τ G { s' with heap := h3 } := J.landed nb fl3.1 (up.trans up3) os ag
    obtain ⟨oe3, vs3, ge3, hz3, dd3⟩ := fl3.there
    have nfr : x ∉ frs (X.env :: X.outer) := fun hm => by
      obtain ⟨_, o', e', ne⟩ := fl3.2.2.1.mem hm
      rw [ge3] at e'; cases e'
      exact ne _ dd3
    have nL : x ≠ X.env.locals := fun z => nfr (List.mem_filterMap.mpr ⟨X.env, .head _, by rw [hfr, z]⟩)
    have nF : x ∉ X.fs := fun hm => by
      obtain ⟨v, hv, q⟩ := List.mem_filterMap.mp hm
      exact nfr (List.mem_filterMap.mpr ⟨v, .tail _ hv, q⟩)
    have S3 := J3.suite ge3 dd3 nx nL nF
    have LT : PySem.W.Looks (model X.prog X.w) h3 (typeOf (.ref x)) cls := fun A Q E s k q => wpAny_typeOf_ref (k _ _ ge3) (by rw [hz3.1]; exact q)
    have go : ∀ {us : List ExceptHandler} {m : List Hd}, HdLs X us m → wLs X.K Wout D m cls d τ G → wpAny (model X.prog X.w) X.A (handleBy (.ref x) X.env us) (SP X pins D) X.xe { s' with heap := h3 } := by
      intro us m hk
      have look : ∀ {y : Str} {c : Value} {np : Pos} {Q : Value → Shared → Prop} {E : Value → Shared → Prop}, Names X y c → Q c { s' with heap := h3 } → wpAny (model X.prog X.w) (X.A.mark (some (.ref x))) (eval (.Name y np) X.env) Q E { s' with heap := h3 } := fun {y c np Q E} hc q => by
        obtain ⟨g1, g2, g3 | ⟨g3, g4, g5⟩⟩ := hc
        · exact ld_glob (X := X.suite x ((x, oe3) :: (X.pn ++ pins))) S3 g1 g3 q g2
        · exact ld_blt (X := X.suite x ((x, oe3) :: (X.pn ++ pins))) S3 g1 g3 g4 q g5 g2
      induction hk with
      | nil =>
        intro w
        refine wpAny_handleBy_nil ?_
        obtain ⟨k1, k2, k3, oe, vs, T, oT, ts', he, hz, hd, h1, hr⟩ := id fl3
        unfold PySem.passOn
        refine wpAny_bind (wpAny_field he hd h1 ?_)
        rw [if_neg (show ¬ ((Value.ref T == Value.none) = true) from by simp)]
        have off : wpAny (model X.prog X.w) X.A (setFlight (.ref x) X.env.frame) (fun _ s4 => wpAny (model X.prog X.w) X.A (throw (.ref x) : Sem Flow) (SP X pins D) X.xe s4) X.xe { s' with heap := h3 } := by
          rw [hfr]
          exact HandSPX.setFlight_upZ fl3 fun h4 hh4 up4 => wpAny_throw (tk _ _ ⟨x, M, s0, pins, τ, G, cls, d, rfl, J, nb, (up.trans up3).trans up4, .inr (.inr (by rw [hst]; exact hh4)), nx, os, ag, w⟩)
        first | exact wpAny_bind (wpAny_pure (wpAny_bind off)) | exact wpAny_bind off
      | @bare y c ts st suite np q us2 m2 hc hs r ih =>
        intro w
        obtain ⟨b, hm, hyes, hno⟩ := w
        refine wpAny_handleBy_cons (codeAny_handlers_test (look hc ((PySem.W.exm_one (M := model X.prog X.w) J3.kIn LT hm).here ?_))) (fun z => nomatch z)
        cases b with
        | false => exact ih (hno rfl)
        | true =>
          refine codeAny_handlers_suite (HandSPX.lands_againZ fl3 fun h4 fl4 up4 => ?_)
          obtain ⟨oe4, vs4, ge4, hz4, dd4⟩ := fl4.there
          have S4 := (J.landed nb fl4.1 ((up.trans up3).trans up4) os ag : Inv X pins τ G { s' with heap := h4 }).suite ge4 dd4 nx nL nF
          refine wpAny_mono ((hs x oe4 cls d (X.pn ++ pins) hz4 ⟨_, dd4⟩).run [] _ _ G _ S4 (hyes rfl x nx)) (fun f s6 z => ?_) (fun _ _ z => z.elim)
          cases f with
          | ret u => exact let ⟨v6, τ6, G6, S6, r6, q6⟩ := z; ⟨v6, τ6, G6, S6.unsuite ok, r6, q6⟩
          | _ => exact let ⟨τ6, G6, S6, q6⟩ := z; ⟨τ6, G6, S6.unsuite ok, q6⟩
      | @named y n i c ts st suite np q us2 m2 hi hn hc hs r ih =>
        intro w
        obtain ⟨b, hm, hyes, hno⟩ := w
        refine wpAny_handleBy_cons (codeAny_handlers_test (look hc ((PySem.W.exm_one (M := model X.prog X.w) J3.kIn LT hm).here ?_))) (fun z => nomatch z)
        cases b with
        | false => exact ih (hno rfl)
        | true =>
          refine codeAny_handlers_suite_as (HandSPX.lands_againZ fl3 fun h4 fl4 up4 => ?_)
          obtain ⟨oe4, vs4, ge4, hz4, dd4⟩ := fl4.there
          have S4 := (J.landed nb fl4.1 ((up.trans up3).trans up4) os ag : Inv X pins τ G { s' with heap := h4 }).suite ge4 dd4 nx nL nF
          refine store_ok (X := X.suite x ((x, oe4) :: (X.pn ++ pins))) (v := .ref x) S4 nd hi (.inl hn) rfl (fun s5 S5 => ?_) (.inr hn)
          refine wpAny_mono ((hs x oe4 cls d (X.pn ++ pins) hz4 ⟨_, dd4⟩).run [] s5 _ G _ S5 (hyes rfl x nx)) (fun f s6 z => ?_) (fun _ _ z => z.elim)
          have away : ∀ {τ6 : St} {G6 : Hp} {Q : Shared → Prop}, Inv (X.suite x ((x, oe4) :: (X.pn ++ pins))) [] τ6 G6 s6 → (∀ s7, Inv X pins (τ6.set i none) G6 s7 → Q s7) →
              wpAny (model X.prog X.w) X.A (do bindName X.env n .none; unbindBehindTheSuite X.env n q) (fun _ s7 => Q s7) X.xe s6 := fun {τ6 G6 Q} S6 hq => gone_ok (S6.unsuite ok) nd hi hn hq
          cases f with
          | ret u => exact let ⟨v6, τ6, G6, S6, r6, q6⟩ := z; away S6 fun s7 J7 => ⟨v6, _, _, J7, r6, q6⟩
          | _ => exact let ⟨τ6, G6, S6, q6⟩ := z; away S6 fun s7 J7 => ⟨_, _, J7, q6⟩
    exact go hh w
  · cases fl with
    | next => exact let ⟨τ, G, J, q⟩ := z; wpAny_execs_nil ⟨τ, G, J.ofTry ok, q⟩
    | ret u => exact let ⟨v, τ, G, J, r, q⟩ := z; ⟨v, τ, G, J.ofTry ok, r, q⟩
    | _ => exact let ⟨τ, G, J, q⟩ := z; ⟨τ, G, J.ofTry ok, q⟩
end
end L2

namespace L2
open PySem PySem.Spec PyProof.Rows
/-! ### defs that ask what is being shown: called where no repr is under way -/
/-- no repr is under way -/
def NoRp (A : Around) : Prop := A.guards = some []
/-- a def's promise where no repr is under way -/
structure FnG (P : Program) (w : World) (K : PySem.W.Frag) (mg : Str → Option Value) (base : Heap) (CX : CXT) (k : Nat) (f : Addr) (fd : FuncData) (ps : List Str) (sp : Sp) : Prop where
  len : ∀ vs H Q E, sp vs H Q E → vs.length = ps.length
  run : ∀ (A : Around) (outer : List Env) (s : Shared) (H : Hp) (as : Args) (us : List Value) (vs : List V) (Q : VK) (E : XK), NoRp A → Room k A → Env0 P w K mg base A outer s H → BindsTo s fd as (ps.zip us) → Vals vs us → sp vs H Q E →
    codeAny (model P w) A (.call (.ref f) as) (CR CX outer P w H s Q E) s
theorem fn_ofG {CX : CXT} {P : Program} {w : World} {K : PySem.W.Frag} {mg : Str → Option Value} {base : Heap} {k : Nat} {f : Addr} {nm ql : Str} {params : Arguments} {body : List Stmt} {scope : Scope} {dV kV doc pm cdv ct oc : Value} {an od : Option Addr}
    {osl : Array (Option Value)} {N ps : List Str} {sp : Sp} (lk : K.lookup f = some ⟨oc, od, .func (PySem.W.fnOf nm ql params body scope dV kV doc pm an cdv ct), osl⟩) (hcd : PySem.W.codeIn K cdv ql = true) (S : FnScope N ps scope)
    (len : ∀ vs H Q E, sp vs H Q E → vs.length = ps.length)
    (go : ∀ (A : Around) (outer : List Env) (s : Shared) (H : Hp) (vs : List V) (Q : VK) (E : XK), NoRp A → Room k (A.deeper (envOfC ql scope s.heap.objs.size f cdv)) → sp vs H Q E →
      ∃ t, PSs (cxOf CX P w K mg base N ql scope f cdv A outer s H E) body t ∧ t { nx := fun _ H' => Q .non H', rt := Q } (start N vs) H) :
    FnG P w K mg base CX (k + 1) f (PySem.W.fnOf nm ql params body scope dV kV doc pm an cdv ct) ps sp := by
  refine ⟨len, fun A outer s H as us vs Q E g room e0 hb r z => ?_⟩
  have inK : K.In s.heap := e0.mod.kin.keeps fun b o e => (e0.bs b o e).1
  have noLim : s.heap.NoLimit := e0.mod.nolimit.keeps fun b o e => (e0.bs b o e).1
  have kinds : ∀ y ∈ ps.zip us, scope.names.lookup y.1 = some .local ∨ (scope.names.lookup y.1 = some .cell ∧ ((cellsFrom (s.heap.objs.size + 1) scope.names []).lookup y.1).isSome = true) := fun y hy => by
    obtain ⟨n, v⟩ := y
    exact (S.par n (List.of_mem_zip hy).1).imp id fun q => ⟨q, PySem.W.cellsFrom_some _ _ _ (.inl q)⟩
  refine codeAny_call_function room.depth (inK _ _ lk) rfl S.co S.gen rfl (PySem.W.codeRec_of inK hcd) (hb _ _ _ _ ?_)
  refine wpAny_newFunctionEnv_cells S.kind kinds fun env he s1 x => ?_
  subst he
  refine ⟨noLim.keeps x.toInCall.keep, codeAny_func ?_⟩
  obtain ⟨t, ht, q⟩ := go A outer s H vs Q E g (room.deeper _) z
  have I := inv_start (CX := CX) (E := E) S room.hd e0 (len _ _ _ _ z) r x
  refine wpAny_mono (ht.run [] s1 (start N vs) H _ I q) (fun fl s' hs => ?_) fun _ _ hs => hs
  cases fl with
  | ret u => exact let ⟨v, σ', H', J, rv, q⟩ := hs; ⟨v, H', J.os, J.bare, J.base, J.hok, rv, q⟩
  | next => exact let ⟨σ', H', J, q⟩ := hs; ⟨V.non, H', J.os, J.bare, J.base, J.hok, rfl, q⟩
  | brk => exact let ⟨_, _, _, q⟩ := hs; False.elim q
  | cont => exact let ⟨_, _, _, q⟩ := hs; False.elim q
section
variable {P : Program} {w : World} {K : PySem.W.Frag} {mg : Str → Option Value} {base : Heap}
theorem Fun.okG {x ql : Str} {st : Stmt} {f : Addr} {fd : FuncData} {N ps : List Str} {k : Nat} {sp : Sp} (F : Fun K x ql st f fd) (S : FnScope N ps (defScope st)) (len : ∀ vs H Q E, sp vs H Q E → vs.length = ps.length)
    (go : ∀ (cdv : Value) (A : Around) (outer : List Env) (s : Shared) (H : Hp) (vs : List V) (Q : VK) (E : XK), NoRp A → Room k (A.deeper (envOfC ql (defScope st) s.heap.objs.size f cdv)) → sp vs H Q E →
      ∃ t, PSs (cxOf CX0 P w K mg base N ql (defScope st) f cdv A outer s H E).nox (defBody st) t ∧ t { nx := fun _ H' => Q .non H', rt := Q } (start N vs) H) : FnG P w K mg base CX0 (k + 1) f fd ps sp := by
  obtain ⟨oc, od, kV, doc, pm, an, cdv, ct, osl, rfl, lk, hcd⟩ := F.ex
  refine fn_ofG lk hcd S len fun A outer s H vs Q E g room z => ?_
  obtain ⟨t, h, q⟩ := go cdv A outer s H vs Q E g room z
  exact ⟨t, h.nox, q⟩
end
section
variable {X : Cx} {CX : CXT} {x : Str} {k : Nat} {f : Addr} {fd : FuncData} {ps : List Str} {sp : Sp} {dvs : List V} {ds : List Value} {E : XK} {e : Expr} {es : List Expr} {t : TA} {p pos : Pos}
/-- f(e, ..) where f is such a def -/
theorem pe_callG (F : FnG X.prog X.w X.K X.mg X.base CX k f fd ps sp) (g : NoRp X.A) (hr : Room k X.A) (hg : Gl X x) (hm : X.mg x = some (.ref f)) (hk : PySem.W.keepIn X.K (.ref f) = true) (hb : Binds X.K fd ps ds) (hd : Vals dvs ds) (hx : Passes CX X E)
    (ha : PA X (e :: es) t) (hdb : (x == ("__debug__" : Str)) = false := by decide) (he : starEach (e :: es) X.env = (false, eval e X.env) :: starEach es X.env := by rfl) (hpl : (backTo pos (starEach es X.env)).any (·.1) = false := by rfl) :
    PE X (.Call (.Name x p) (e :: es) [] pos) (tCall sp dvs E t) := by
  refine ⟨fun pins s σ H Q I h => wpAny_Call_Name_kw (ld_glob I hg hm ?_ hdb)⟩
  refine PySem.W.callWith_K (h₀ := X.base) I.ok.mod.kin hk (thn (ha.run pos pins s σ H _ I h) fun us s1 z => ?_) he hpl
  obtain ⟨vs, H1, J, r, q⟩ := z
  have rr : Vals (vs ++ dvs) (us ++ ds) := r.append hd
  refine ⟨J.kIn, wpAny_call (codeAny_mono (F.run X.A X.stack s1 H1 ⟨us, []⟩ (us ++ ds) (vs ++ dvs) Q E g hr J.env0 (hb s1 us J.kIn (rr.length.symm.trans (F.len _ _ _ _ q))) rr q) fun r s' z => ?_)⟩
  cases r with
  | error er => exact hx pins σ H1 s1 er s' J z
  | ok fl =>
    cases fl with
    | ret u => exact J.after z
    | _ => exact False.elim z
/-- repr(e) of data -/
def rRepr (K : PySem.W.Frag) : List V → Hp → VK → Prop := fun vs H Q => ∃ (a : Addr) (d : PyData), vs = [.ref a] ∧ Dp K H (.ref a) d ∧ d.showable = true ∧ d.hasDict = false ∧ d.shown.length ≤ sizeLine ∧ d.depth ≤ 60 ∧ Q (.str d.shown) H
theorem call_reprD {K : PySem.W.Frag} (g : NoRp X.A) (hu : X.A.units + 64 < cLine) (hK : X.K = K := by rfl) : CallR X (.builtin "repr") (rRepr K) := by
  subst hK
  intro pins s σ H xs us Q I r h
  obtain ⟨a, d, rfl, hd, h1, h2, h3, h4, q⟩ := h
  obtain ⟨u, rfl, ru⟩ := vals1 r
  obtain ⟨as, rd⟩ := Dp.reads I d _ u hd ru
  cases (show u = Value.ref a from ru)
  exact repr_of_reads' rd h1 (PyData.noDict_hsm h2) g (by omega) (fun _ _ e => e) (fun h' u tk kp => ⟨.str d.shown, H, I.kept (t' := tk) kp, ⟨_, rfl⟩, q⟩) h3
end
/-! ### the head of a law that is such a def -/
theorem law_callG {P : Program} {w : World} {K : PySem.W.Frag} {mg mb : Str → Option Value} {k : Nat} {fa a : Addr} {fd : FuncData} {x : Str} {sp : Sp} {s : Shared} {vs : List Value} {ns : List Int}
    (inK : K.In s.heap) (hns : s.heap.Ns mainGlobals mg) (hb : s.heap.Ns builtinsNs mb) (hbb : ∀ x : Str, x ≠ "__name__" → mb x = bootBuiltins x) (hlim : s.heap.NoLimit) (hg : s.gens = #[])
    (ha : s.heap.get? a = some { cls := .type "list", data := .seq vs.toArray }) (hi : IntsAre vs ns) (hl : ns.length ≤ sizeLine) (hr : Room k callerA)
    (F : ∀ base : Heap, K.In base → base.Ns mainGlobals mg → FnG P w K mg base CX0 k fa fd [x] sp) (bind : ∀ (s : Shared) (u : Value), BindsTo s fd ⟨[u], []⟩ [(x, u)])
    (hsp : ∀ H : Hp, Only H → SqL K H a (ns.map V.int) → sp [.ref a] H (fun v _ => v = .bl true) fun _ _ _ => False) :
    codeAny (model P w) callerA (.call (.ref fa) ⟨[.ref a], []⟩) (fun r s' => r = .ok (.ret (.bool true)) ∧ OldK s.heap s'.heap ∧ s'.os = s.os ∧ AllBare s'.gens) s := by
  have main : ∀ H : Hp, Only H → SqL K H a (ns.map V.int) → HOk P w H s.heap → (∀ b, H b ≠ none → b = a) → (H a ≠ none → K.lookup a = none) →
      codeAny (model P w) callerA (.call (.ref fa) ⟨[.ref a], []⟩) (fun r s' => r = .ok (.ret (.bool true)) ∧ OldK s.heap s'.heap ∧ s'.os = s.os ∧ AllBare s'.gens) s := by
    intro H only sq ok hA hK
    have free : ∀ {b : Addr} {o : Obj} {es : Array DictEntry} {ep : Nat}, s.heap.get? b = some o → o.data = .dict es ep → H b = none := fun {b o es ep} e d => Classical.byContradiction fun nn => by
      rw [hA b nn, ha] at e
      injection e with e
      rw [← e] at d
      exact nomatch d
    have ns' : ∀ {b : Addr} {m : Str → Option Value}, s.heap.Ns b m → (hidT s.heap H).Ns b m := fun {b m} z => let ⟨o, es, ep, e, d, r⟩ := z; ⟨o, es, ep, hidT_get e (free e d), d, r⟩
    have inB : K.In (hidT s.heap H) := fun b o e => hidT_get (inK b o e) (Classical.byContradiction fun nn => by
      have eb := hA b nn
      subst eb
      rw [hK nn] at e
      cases e)
    have mod : Mod K mg (hidT s.heap H) := ⟨inB, ns' hns, ⟨mb, ns' hb, hbb⟩, let ⟨mc, z1, z2⟩ := hlim; ⟨mc, ns' z1, z2⟩⟩
    have e0 : Env0 P w K mg (hidT s.heap H) callerA [] s H := ⟨rfl, mod, fun b o e => of_hidT e, Nat.le_of_eq (hidT_size _ _), trivial, fun b z => (List.not_mem_nil (show b ∈ ([] : List Addr) from z)).elim, ok, .of_eq hg⟩
    refine codeAny_mono ((F _ inB (ns' hns)).run callerA [] s H ⟨[.ref a], []⟩ [.ref a] [.ref a] _ _ rfl hr e0 (bind s (.ref a)) (.cons rfl .nil) (hsp H only sq)) fun r s' z => ?_
    rcases r with e | (_ | _ | _ | u)
    · exact z.elim
    all_goals first | exact False.elim z | skip
    obtain ⟨v, H', os, bare, un, ok', rv, q⟩ := z
    cases (show v = .bl true from q)
    cases (show u = Value.bool true from rv)
    refine ⟨rfl, OldK.of_keep fun b o e => ?_, os, bare⟩
    rcases only b with n | ⟨ob, xs, y⟩
    · exact un.keep b o e n (fun z => (List.not_mem_nil (show b ∈ ([] : List Addr) from z)).elim) (by simp)
    · obtain ⟨g1, _⟩ := ok b _ y
      obtain ⟨g2, _⟩ := ok' b _ (un.frzs b ob _ y)
      rw [e] at g1
      cases g1
      exact g2
  have rv := vals_ints hi
  by_cases hk : K.lookup a = none
  · let H0 : Hp := fun b => if b = a then some (.frz { cls := .type "list", data := .seq vs.toArray } (.lst (ns.map V.int))) else none
    have at_a : H0 a = some (.frz { cls := .type "list", data := .seq vs.toArray } (.lst (ns.map V.int))) := if_pos rfl
    have off : ∀ {b}, b ≠ a → H0 b = none := fun h => if_neg h
    refine main H0 (fun b => ?_) (.inl (.inr ⟨_, at_a⟩)) (fun b u z => ?_) (fun b z => Classical.byContradiction fun h => z (off h)) fun _ => hk
    · by_cases h : b = a
      · subst h; exact .inr ⟨_, _, at_a⟩
      · exact .inl (off h)
    · by_cases h : b = a
      · subst h
        rw [at_a] at z
        cases z
        exact ⟨ha, by rw [List.length_map]; exact hl, vs, _, rv, ha⟩
      · rw [off h] at z
        cases z
  · obtain ⟨o, ho⟩ := Option.ne_none_iff_exists'.mp hk
    have e := inK a o ho
    rw [ha] at e
    cases e
    exact main (fun _ => none) (fun _ => .inl rfl) (.inr ⟨_, vs.toArray, _, ho, rfl, rfl, rfl, by rw [List.size_toArray, hi.length]; exact hl, by simpa using rv⟩) (fun b u z => nomatch (show (none : Option HO) = some u from z)) (fun b z => absurd rfl z) fun z => absurd rfl z
theorem walk_ofG {l : PySem.W.OpenLaw} {n k : Nat} {q : Program} {loose : List Str} {XP : (Str → Option Value) → Heap → Prop} {YP : World → Heap → Prop} {d : DefRec} {K : Params → PySem.W.Frag} {sp : World → Sp} {x : Str}
    (hn : l.most = some n) (hn2 : n ≤ sizeLine) (hdf : d.params.defaults = []) (hr : Room k callerA) (hY : ∀ (w : World) (h : Heap), YP w h → (K w.params).In h)
    (F : ∀ (w : World) (mg : Str → Option Value) (fa : Addr) (h : Heap), (K w.params).In h → h.Ns mainGlobals mg → mg d.name = some (.ref fa) →
      ∃ fd : FuncData, (∀ (s : Shared) (u : Value), BindsTo s fd ⟨[u], []⟩ [(x, u)]) ∧ ∀ base : Heap, (K w.params).In base → base.Ns mainGlobals mg → FnG l.prog w (K w.params) mg base CX0 k fa fd [x] (sp w))
    (hsp : ∀ (w : World) (H : Hp) (a : Addr) (ns : List Int), ns.length ≤ n → Only H → SqL (K w.params) H a (ns.map V.int) → sp w [.ref a] H (fun v _ => v = .bl true) fun _ _ _ => False) :
    PySem.W.WalkO q loose XP YP l.row.toRowW d [] (fun f vs => PySem.call f vs) := by
  refine Att.attach_call hn hdf fun w s₀ s₁ mg mb fa o pm cd doc a vs ns G Y ho hd hcd hmg hobj hints hlen hg => ?_
  obtain ⟨fd, hb, hF⟩ := F w mg fa _ (hY w _ Y) G.T.g hmg
  exact law_callG (hY w _ Y) G.T.g G.T.b G.T.builtins G.T.nolimit hg hobj hints (Nat.le_trans hlen hn2) hr hF hb fun H hO hS => hsp w H a ns hlen hO hS
end L2

namespace L2
open PySem PySem.Spec PyProof.Rows
/-! ### text * number -/
section
variable {X : Cx}
theorem op_repS : OpR X (binaryOp .Mult) (fun x y H Q => ∃ (z : Str) (n : Int), x = .str z ∧ y = .int n ∧ MulOk z n ∧ Q (.str (Txt.mul z n)) H) := by
  intro pins s σ H x y v u Q I rx ry h
  obtain ⟨z, n, rfl, rfl, ok, q⟩ := h
  obtain ⟨t, rfl⟩ := rx
  obtain ⟨t', rfl⟩ := ry
  exact SB.mul ok fun t' tk => ⟨.str (Txt.mul z n), H, I.tok _, ⟨_, rfl⟩, q⟩
end
theorem rep_one (c : Nat) : ∀ (n : Nat) (a : Array Nat), ((List.replicate n (#[c] : Array Nat)).foldl (· ++ ·) a) = a ++ (List.replicate n c).toArray
  | 0, a => by simp
  | n + 1, a => by
    rw [List.replicate_succ, List.foldl_cons, rep_one c n, List.replicate_succ]
    apply Array.ext'
    simp
theorem mul_one {c n : Nat} (h : 2 ≤ n) : Txt.mul (⟨#[c]⟩ : Str) (n : Int) = ⟨(List.replicate n c).toArray⟩ := by
  unfold Txt.mul
  have e2 : ((n : Int) == 1 || (⟨#[c]⟩ : Str).length == 0) = false := by
    have : ((n : Int) == 1) = false := beq_eq_false_iff_ne.mpr (by omega)
    rw [this]
    rfl
  rw [if_neg (by omega), e2, if_neg (by decide), Int.toNat_natCast, rep_one]
  simp
end L2

namespace L2
open PySem PySem.Spec PyProof.Rows
/-- a def with defaults that lets nothing out -/
theorem FunD.ok0 {P : Program} {w : World} {K : PySem.W.Frag} {mg : Str → Option Value} {base : Heap} {x qual : Str} {st : Stmt} {dvs : List V} {f : Addr} {fd : FuncData} {N ps : List Str} {k : Nat} {sp : Sp}
    (F : FunD K x qual (defArgs st) (defBody st) (defScope st) dvs [] f fd) (S : FnScope N ps (defScope st)) (len : ∀ vs H Q E, sp vs H Q E → vs.length = ps.length)
    (hbody : ∀ (cdv : Value) (A : Around) (outer : List Env) (s : Shared) (H : Hp) (vs : List V) (Q : VK) (E : XK), Room k (A.deeper (envOfC qual (defScope st) s.heap.objs.size f cdv)) → sp vs H Q E →
      ∃ t, PSs (cxOf CX0 P w K mg base N qual (defScope st) f cdv A outer s H E).nox (defBody st) t ∧ t { nx := fun _ H' => Q .non H', rt := Q } (start N vs) H) : FnOk P w K mg base CX0 (k + 1) f fd ps sp :=
  F.ok S len fun cdv A outer s H vs Q E hr hsp => by
    obtain ⟨t, h, q⟩ := hbody cdv A outer s H vs Q E hr hsp
    exact ⟨t, h.nox, q⟩
theorem funD_mk {K : PySem.W.Frag} {x qual : Str} {st : Stmt} {f T : Addr} {oc : Value} {od an : Option Addr} {osl : Array (Option Value)} {kV doc pm cdv ct : Value} {o : Obj} {its : List Value} {n : Nat} {dvs : List V}
    (l : K.lookup f = some ⟨oc, od, .func (PySem.W.fnOf x qual (defArgs st) (defBody st) (defScope st) (.ref T) kV doc pm an cdv ct), osl⟩)
    (c : PySem.W.codeIn K cdv qual = true) (k : PySem.W.keepIn K (.ref f) = true) (lT : K.lookup T = some o) (oT : o.data = .seq its.toArray n) (hv : Vals dvs its) (hd : dvs ≠ []) :
    FunD K x qual (defArgs st) (defBody st) (defScope st) dvs [] f (PySem.W.fnOf x qual (defArgs st) (defBody st) (defScope st) (.ref T) kV doc pm an cdv ct) :=
  ⟨⟨oc, od, .ref T, kV, doc, pm, an, cdv, ct, osl, rfl, l, c, .inr ⟨hd, T, o, its, n, rfl, lT, oT, hv⟩, .inl rfl⟩, k⟩
end L2

namespace Evl
open PySem L2
/-! ### what evaluates to what: texts -/
section
variable {K : PySem.W.Frag} {σ : L2.St} {H H' : Hp} {ta tb te tl : TE} {t : TT} {x y z v : V}
theorem ev_m0 {C : Str → Prop} {g : Str → V} {a : Str} (h : Ev te σ H (.str a)) (c : C a) : Ev (tM0 (fun x xs H Q => ∃ a, x = .str a ∧ xs = [] ∧ C a ∧ Q (g a) H) te) σ H (g a) := fun H1 e Q q =>
  h H1 e _ fun H2 e2 => ⟨⟨a, rfl⟩, a, rfl, rfl, c, q H2 e2⟩
theorem ev_m1 {g : Str → Str → V} {a b : Str} (h : Ev te σ H (.str a)) (h2 : Ev ta σ H (.str b)) : Ev (tM1 (fun x xs H Q => ∃ a b, x = .str a ∧ xs = [.str b] ∧ Q (g a b) H) te ta) σ H (g a b) := fun H1 e Q q =>
  h H1 e _ fun H2 e2 => ⟨⟨a, rfl⟩, h2 H2 (e.trans e2) _ fun H3 e3 => ⟨a, b, rfl, rfl, q H3 (e2.trans e3)⟩⟩
theorem ev_join {a : Str} {ys : List Str} (h : Ev te σ H (.str a)) (h2 : EvL tl σ H (ys.map V.str)) (hz : (ys.map (·.length)).sum + ys.length * a.length ≤ 16777216) :
    Ev (tM1 (rJoinK K) te tl) σ H (.str (Txt.join a ys)) := fun H1 e Q q =>
  h H1 e _ fun H2 e2 => ⟨⟨a, rfl⟩, h2 H2 (e.trans e2) _ fun p H3 _ e3 h3 => ⟨a, p, ys, rfl, rfl, .inl (sq_of h3), hz, q H3 (e2.trans e3)⟩⟩
theorem rv_addS {a b : Str} (h : a.length + b.length ≤ 100000) : RV (fun x y H Q => ∃ i j, x = .str i ∧ y = .str j ∧ i.length + j.length ≤ sizeLine ∧ Q (.str (i ++ j)) H) (.str a) (.str b) H (.str (a ++ b)) := fun H1 _ _ q => ⟨a, b, rfl, rfl, sz_of h, q H1 (Ex.refl H1)⟩
theorem rv_inS {c : Nat} {z : Str} : RV (fun x y H Q => ∃ (c : Nat) (z : Str), x = .str ⟨#[c]⟩ ∧ y = .str z ∧ Q (.bl (decide (c ∈ z.cps.toList))) H) (.str ⟨#[c]⟩) (.str z) H (.bl (decide (c ∈ z.cps.toList))) := fun H1 _ _ q => ⟨c, z, rfl, rfl, q H1 (Ex.refl H1)⟩
theorem rv_niS {c : Nat} {z : Str} : RV (fun x y H Q => ∃ (c : Nat) (z : Str), x = .str ⟨#[c]⟩ ∧ y = .str z ∧ Q (.bl (!decide (c ∈ z.cps.toList))) H) (.str ⟨#[c]⟩) (.str z) H (.bl (!decide (c ∈ z.cps.toList))) := fun H1 _ _ q => ⟨c, z, rfl, rfl, q H1 (Ex.refl H1)⟩
theorem rv_ltS {a b : Str} : RV (fun x y H Q => ∃ i j, x = .str i ∧ y = .str j ∧ Q (.bl (decide (i.cps.toList < j.cps.toList))) H) (.str a) (.str b) H (.bl (decide (a.cps.toList < b.cps.toList))) := fun H1 _ _ q => ⟨a, b, rfl, rfl, q H1 (Ex.refl H1)⟩
theorem ev_revS {a : Str} (h : Ev te σ H (.str a)) (hz : a.length ≤ 100000) : Ev (tRevS te) σ H (.str ⟨a.cps.toList.reverse.toArray⟩) := fun H1 e Q q => h H1 e _ fun H2 e2 => ⟨a, rfl, sz_of hz, q H2 e2⟩
theorem ev_slS {a : Str} {t1 t2 : TO} {lo hi : Option Int} (h : Ev te σ H (.str a)) (h1 : EvO t1 σ H lo) (h2 : EvO t2 σ H hi) (hz : a.length ≤ 100000) : Ev (tSl rSlS te t1 t2) σ H (.str (cutS a lo hi)) := fun H1 e Q q =>
  h H1 e _ fun H2 e2 => h1 H2 (e.trans e2) _ fun H3 e3 => h2 H3 ((e.trans e2).trans e3) _ fun H4 e4 => ⟨a, rfl, sz_of hz, q H4 ((e2.trans e3).trans e4)⟩
theorem ev_lenS {a : Str} (h : Ev te σ H (.str a)) (hz : a.length ≤ 100000) : Ev (tCB (fun xs H Q => ∃ z, xs = [.str z] ∧ z.length ≤ sizeLine ∧ Q (.int z.length) H) (tCons te tNil)) σ H (.int a.length) := fun H1 e Q q =>
  h H1 e _ fun H2 e2 => ⟨a, rfl, sz_of hz, q H2 e2⟩
theorem ev_intB {b : Bool} (h : Ev te σ H (.bl b)) : Ev (tCB (fun xs H Q => (∃ i, xs = [.int i] ∧ Q (.int i) H) ∨ ∃ k, xs = [.bl k] ∧ Q (.int (if k then 1 else 0)) H) (tCons te tNil)) σ H (.int (if b then 1 else 0)) := fun H1 e Q q =>
  h H1 e _ fun H2 e2 => .inr ⟨b, rfl, q H2 e2⟩
theorem ev_ixNew {xs : List V} {i : Int} (ha : EvL ta σ H xs) (hb : ∀ H1, Ex H H1 → Ev tb σ H1 (.int i)) (hi : atI xs i = some v) : Ev (tOp (rIxL K) ta tb) σ H v := ev_opL1 ha hb fun p H1 hp e => rv_ixL (sq_of hp) hi
theorem ev_isi {tc : TE} {c : V} {ty u : Value} {b : Bool} (h : Ev te σ H x) (h2 : Ev tc σ H c) (hc : ClsV c u) (hx : ∀ H1, Ex H H1 → TyX K H1 x ty) (hb : PySem.W.kitOne K ty u = some b) : Ev (tCB (rIsi K) (tCons te (tCons tc tNil))) σ H (.bl b) := fun H1 e Q q =>
  h H1 e _ fun H2 e2 => h2 H2 (e.trans e2) _ fun H3 e3 => ⟨x, c, ty, u, b, rfl, hc, hx H3 ((e.trans e2).trans e3), hb, q H3 (e2.trans e3)⟩
theorem ev_isiN {tc : TE} {c : V} {xs : List V} {ty u : Value} {b : Bool} (h : EvL te σ H xs) (h2 : ∀ H1, Ex H H1 → Ev tc σ H1 c) (hc : ClsV c u) (hx : ∀ p H1, H1 p = some (.lst xs) → TyX K H1 (.ref p) ty) (hb : PySem.W.kitOne K ty u = some b) : Ev (tCB (rIsi K) (tCons te (tCons tc tNil))) σ H (.bl b) := fun H1 e Q q =>
  h H1 e _ fun p H2 _ e2 hp => h2 H2 (e.trans e2) H2 (Ex.refl H2) _ fun H3 e3 => ⟨.ref p, c, ty, u, b, rfl, hc, hx p H3 (e3 _ _ hp), hb, q H3 (e2.trans e3)⟩
theorem ev_allN {bs : List Bool} (h : EvL te σ H (bs.map V.bl)) : Ev (tCB (rAll K) (tCons te tNil)) σ H (.bl (bs.all id)) := fun H1 e Q q =>
  h H1 e _ fun p H2 _ e2 hp => ⟨p, bs, rfl, sq_of hp, q H2 e2⟩
theorem ev_ifv {b : Bool} {v w : V} (h : EvT t σ H b) (h1 : b = true → Ev ta σ H v) (h2 : b = false → Ev tb σ H w) : Ev (tIf t ta tb) σ H (if b = true then v else w) := by
  refine ev_if h (fun e => ?_) (fun e => ?_)
  · rw [if_pos e]; exact h1 e
  · rw [if_neg (by rw [e]; decide)]; exact h2 e
theorem et_yes : EvT tYes σ H true := fun H1 _ _ q => q H1 (Ex.refl H1)
theorem given_all (n : Nat) (v : Nat → V) : given n (fun _ => true) v = (List.range n).map v := by
  unfold given
  congr 1
  exact List.filter_eq_self.mpr fun _ _ => rfl
theorem range_map {α : Type} (l : List α) (g : α → V) (d : α) : (List.range l.length).map (fun i => g (l.getD i d)) = l.map g := by
  apply List.ext_getElem
  · simp
  · intro i h1 h2
    simp at h1
    simp [List.getD, h1]
/-- [e for sign in text] -/
theorem el_lcS {s : Str} {j : Nat} {vs : List Nat} (f : Nat → Bool) (v : Nat → V) (h : Ev tl σ H (.str s)) (hz : s.length ≤ 40000) (hw : ∀ x, wipe ((wipe σ vs).set j (some x)) vs = wipe σ vs)
    (ht : ∀ (i c : Nat) H1, Ex H H1 → s.cps.toList[i]? = some c → EvT t ((wipe σ vs).set j (some (.str ⟨#[c]⟩))) H1 (f i))
    (he : ∀ (i c : Nat) H1, Ex H H1 → s.cps.toList[i]? = some c → f i = true → Ev te ((wipe σ vs).set j (some (.str ⟨#[c]⟩))) H1 (v i)) :
    EvL (tLc (iStr tl) (gName j) t te vs) σ H (given s.length f v) := fun H0 e Q q => h H0 e _ fun H1 e1 => ⟨s, rfl, fun Dl hD =>
  lc_it walk_str (Cw H1 f v Dl) ⟨hD, Ex.new hD, upd_same⟩ (fun _ _ _ _ => trivial) (fun i x H2 H' hi p hy => by
    obtain ⟨rfl, c, hc, rfl⟩ := hy
    have hc' : s.cps.toList[i]? = some c := by rw [Array.getElem?_toList]; exact hc
    exact ⟨hw _, cw_turn p (by have : s.length = s.cps.size := rfl; omega) (ht i c H1 (e.trans e1) hc') (fun hf => he i c H1 (e.trans e1) hc' hf)⟩)
    (fun H' p => q Dl H' (fresh_back e1 p.1) (e1.trans p.2.1) p.2.2)⟩
theorem el_mapS {s : Str} {j : Nat} {vs : List Nat} (g : Nat → V) (h : Ev tl σ H (.str s)) (hz : s.length ≤ 40000) (hw : ∀ x, wipe ((wipe σ vs).set j (some x)) vs = wipe σ vs)
    (he : ∀ (c : Nat) H1, Ex H H1 → c ∈ s.cps.toList → Ev te ((wipe σ vs).set j (some (.str ⟨#[c]⟩))) H1 (g c)) :
    EvL (tLc (iStr tl) (gName j) tYes te vs) σ H (s.cps.toList.map g) := by
  have := el_lcS (te := te) (t := tYes) (fun _ => true) (fun i => g (s.cps.toList.getD i 0)) h hz hw (fun _ _ _ _ _ => et_yes) (fun i c H1 e hc _ => by
    have : s.cps.toList.getD i 0 = c := by rw [List.getD_eq_getElem?_getD, hc]; rfl
    rw [this]
    exact he c H1 e (List.mem_of_getElem? hc))
  rw [given_all] at this
  have e2 : s.length = s.cps.toList.length := rfl
  rw [e2, range_map] at this
  exact this
end
end Evl

namespace L2
open PySem PySem.Spec PyProof.Rows
/-! ### repr of any data -/
section
variable {X : Cx}
def rReprV (K : PySem.W.Frag) : List V → Hp → VK → Prop := fun vs H Q => ∃ (x : V) (d : PyData), vs = [x] ∧ Dp K H x d ∧ d.showable = true ∧ d.hasDict = false ∧ d.shown.length ≤ sizeLine ∧ d.depth ≤ 60 ∧ Q (.str d.shown) H
theorem call_reprV {K : PySem.W.Frag} (g : NoRp X.A) (hu : X.A.units + 64 < cLine) (hK : X.K = K := by rfl) : CallR X (.builtin "repr") (rReprV K) := by
  subst hK
  intro pins s σ H xs us Q I r h
  obtain ⟨x, d, rfl, hd, h1, h2, h3, h4, q⟩ := h
  obtain ⟨u, rfl, ru⟩ := vals1 r
  have ref : ∀ a, u = .ref a → wpAny (model X.prog X.w) X.A (call (.builtin "repr") [u]) (EP X pins σ Q) X.xe s := fun a e => by
    obtain ⟨as, rd⟩ := Dp.reads I d _ u hd ru
    subst e
    exact repr_of_reads' rd h1 (PyData.noDict_hsm h2) g (by omega) (fun _ _ e => e) (fun h' u tk kp => ⟨.str d.shown, H, I.kept (t' := tk) kp, ⟨_, rfl⟩, q⟩) h3
  cases hd with
  | non => cases (show u = Value.none from ru); exact PySem.P.repr_of_none ⟨.str "None", H, I.tok _, ⟨_, rfl⟩, q⟩
  | bl b => cases (show u = Value.bool b from ru); exact PySem.P.repr_of_bool ⟨.str (if b then "True" else "False"), H, I.tok _, ⟨_, rfl⟩, q⟩
  | int i => obtain ⟨t, rfl⟩ := ru; exact PySem.P.repr_of_int (of_decide_eq_true h1) ⟨.str (toString i), H, I.tok _, ⟨_, rfl⟩, q⟩
  | str z => obtain ⟨t, rfl⟩ := ru; exact PySem.P.repr_of_str ⟨.str (reprText z), H, I.tok _, ⟨_, rfl⟩, q⟩ h3
  | lst _ _ => exact ref _ ru
  | tup _ _ => exact ref _ ru
end
end L2


namespace L2
open PySem PySem.Spec PyProof.Rows
/-- two keywords, told the other way about -/
def swapK : List Value → List Value → List Value
  | [], [a, b] => [b, a]
  | _, _ => []
def swapV : List V → List V → List V
  | [], [a, b] => [b, a]
  | _, _ => []
theorem swap_rel {vs : List V} {us : List Value} {zs : List V} {ws : List Value} (h : Vals vs us) (k : Vals zs ws) : Vals (swapV vs zs) (swapK us ws) := by
  cases h with
  | cons _ _ => exact .nil
  | nil =>
    cases k with
    | nil => exact .nil
    | cons r1 k =>
      cases k with
      | nil => exact .nil
      | cons r2 k =>
        cases k with
        | nil => exact .cons r2 (.cons r1 .nil)
        | cons _ _ => exact .nil
theorem swap_binds {K : PySem.W.Frag} {x qual : Str} {params : Arguments} {body : List Stmt} {scope : Scope} {dvs : List V} {kws : List (Str × V)} {f : Addr} {fd : FuncData} {ps ks : List Str} (F : FunD K x qual params body scope dvs kws f fd) (hd : dvs ≠ []) (hp : ps.length = 2)
    (h : ∀ (T : Addr) (kV doc pm : Value) (an : Option Addr) (cdv ct : Value) (a b : Value) (its : List Value), its.length = dvs.length →
      ∃ k, bindArgs (PySem.W.fnOf x qual params body scope (.ref T) kV doc pm an cdv ct) ⟨[], ks.zip [a, b]⟩ = seqItems? (.ref T) >>= k ∧ k (some its.toArray) = pure (ps.zip [b, a])) : KBinds K fd ps ks swapK swapV := by
  refine ⟨fun s us ws X hlen => ?_, swap_rel⟩
  obtain ⟨oc, od, dV, kV, doc, pm, an, cdv, ct, osl, rfl, lk, hcd, hD, hK⟩ := F.ex
  rcases hD with ⟨e, _⟩ | ⟨_, T, o, its, m, rfl, lT, oT, rT⟩
  · exact absurd e hd
  · rw [hp] at hlen
    match us, ws, hlen with
    | [], [a, b], _ =>
      obtain ⟨k, e1, e2⟩ := h T kV doc pm an cdv ct a b its rT.length.symm
      refine BindsTo.of_looks fun M => ?_
      rw [e1]
      exact looks_items X lT oT (.of_pure e2)
    | [], [], hl => cases hl
    | [], [_], hl => cases hl
    | [], _ :: _ :: _ :: _, hl => cases hl
    | _ :: _, _, hl => cases hl
section
variable {X : Cx} {CX : CXT} {k : Nat} {f : Addr} {fd : FuncData} {ps ks : List Str} {sp : Sp} {E : XK} {x : Str} {p pos : Pos} {kws : List Keyword} {tk : TA} {g : List Value → List Value → List Value} {gV : List V → List V → List V}
/-- f(k = v, ..), all by keywords -/
theorem pe_callK0 (F : FnOk X.prog X.w X.K X.mg X.base CX k f fd ps sp) (hr : Room k X.A) (hg : Gl X x) (hm : X.mg x = some (.ref f)) (hk : PySem.W.keepIn X.K (.ref f) = true) (hb : KBinds X.K fd ps ks g gV) (hx : Passes CX X E)
    (hkw : PK X kws tk) (hall : (backToKw pos (keywordEach kws X.env)).all (·.1.isSome) = true := by rfl) (hks : (backToKw pos (keywordEach kws X.env)).filterMap (·.1) = ks := by rfl)
    (hdb : (x == ("__debug__" : Str)) = false := by decide)
    (hpl : ((backTo pos (starEach [] X.env)).any (·.1) || (backToKw pos (keywordEach kws X.env)).any (·.1.isNone)) = false := by rfl) :
    PE X (.Call (.Name x p) [] kws pos) (tCallK sp gV E tNil tk) := by
  refine ⟨fun pins s σ H Q I h => ?_⟩
  refine wpAny_Call_Name_kw (ld_glob I hg hm ?_ hdb)
  refine PySem.W.callWith_KW0 (h₀ := X.base) I.ok.mod.kin hk hall ?_ hpl
  refine thn (hkw.run pos pins s σ H _ I h) fun ws s2 ⟨zs, H2, I2, rz, q2⟩ => ⟨I2.kIn, ?_⟩
  rw [hks]
  exact run_fnk F hr hb hx I2 .nil rz q2
end
end L2

namespace Toy
open PySem L2

def top (i : Nat) : Stmt := PySem.Challenge.pw_undotrees_k35_trees_counted.main.body.getD i (.Pass ⟨0, 0, 0, 0⟩)
abbrev s_is_whole : Stmt := top 3
abbrev s_NoNumber___init__ : Stmt := inClass (top 1) 0
abbrev s_look_at_deeds : Stmt := top 4
abbrev s_is_between : Stmt := top 8
abbrev s_look_at_number : Stmt := top 9
abbrev s_ones_in : Stmt := top 10
abbrev s_blocks : Stmt := top 13
abbrev s_chosen_many : Stmt := top 11
abbrev s_ways_on : Stmt := top 12
abbrev s_trees_many : Stmt := top 14
abbrev s_law_chosen : Stmt := top 18
abbrev s_law_due : Stmt := top 19
abbrev s_law_pool : Stmt := top 16
abbrev s_law_take : Stmt := top 17
abbrev s_law_refused : Stmt := top 20
abbrev s_law : Stmt := top 21
open RowM (sgns con ix Row)
open TL
/-- the reading, as far as it goes by itself -/
local macro_rules | `(tactic| walk_at "rd") => `(tactic| repeat (first
  | refine ⟨_, rfl, ?_⟩
  | refine ⟨_, _, rfl, rfl, ?_⟩
  | refine ⟨rfl, ?_⟩
  | refine ⟨(by show (0 : Int) < _; omega), ?_⟩
  | refine ⟨⟨by omega, by omega⟩, ?_⟩
  | refine ⟨(by decide), ?_⟩
  | refine ⟨(by omega), ?_⟩))
/-- the text of a list of signs' numbers -/
abbrev S (l : List Nat) : Str := ⟨l.toArray⟩
/-- all but the object at p is as it was -/
def Off (p : Addr) (H H' : Hp) : Prop := ∀ b o, b ≠ p → H b = some o → H' b = some o
theorem Off.refl (p : Addr) (H : Hp) : Off p H H := fun _ _ _ h => h
theorem Off.trans {p : Addr} {H H1 H2 : Hp} (a : Off p H H1) (b : Off p H1 H2) : Off p H H2 := fun c o n h => b c o n (a c o n h)
theorem off_of {p : Addr} {H H' : Hp} (a : Same H H') : Off p H H' := fun c o _ h => a c o h
theorem Off.upd {p : Addr} {H H' : Hp} {o : HO} (a : Off p H H') : Off p H (upd H' p o) := fun c u n h => by
  rw [upd_ne n]
  exact a c u n h
/-- the law's own pool of draws -/
def Pool (H : Hp) (p : Addr) : Prop := ∃ c n : Int, H p = some (.lst [.int c, .int n]) ∧ 0 ≤ n ∧ n < 2147483647
theorem Pool.same {H H' : Hp} {p : Addr} (h : Pool H p) (s : Same H H') : Pool H' p := by
  obtain ⟨c, n, e, r⟩ := h
  exact ⟨c, n, s _ _ e, r⟩
theorem Same.new {H : Hp} {p : Addr} {o : HO} (h : H p = none) : Same H (upd H p o) := fun b u e => by
  rw [upd_ne (ne_of_none e h)]
  exact e
theorem atI0 {α : Type} {a : α} {l : List α} : atI (a :: l) 0 = some a := atI_nat (xs := a :: l) (j := 0) rfl
theorem atI1 {α : Type} {a b : α} {l : List α} : atI (a :: b :: l) 1 = some b := atI_nat (xs := a :: b :: l) (j := 1) rfl
theorem one_le {c : Nat} : (⟨#[c]⟩ : Str).length ≤ 5592405 := by show 1 ≤ _; decide
/-! ### signs -/
open RowM (lo up)
theorem low1 : ∀ c ∈ sgns, Txt.lower (S [c]) = S [lo c] := by decide +kernel
theorem up1 : ∀ c ∈ sgns, Txt.upper (S [c]) = S [up c] := by decide +kernel
theorem isup1 : ∀ c ∈ sgns, Txt.isupper (S [c]) = decide (c < 97) := by decide +kernel
theorem islo1 : ∀ c ∈ sgns, Txt.islower (S [c]) = decide (97 ≤ c) := by decide +kernel
theorem six1 : ∀ c ∈ sgns, ∃ r, Builtin.Str.occurrences "aAbBcCdDeEfF" (S [c]) 0 12 1 = ix c :: r := by
  intro c hc
  have h : ∀ c ∈ sgns, (Builtin.Str.occurrences "aAbBcCdDeEfF" (S [c]) 0 12 1).head? = some (ix c) := by decide +kernel
  have := h c hc
  cases e : Builtin.Str.occurrences "aAbBcCdDeEfF" (S [c]) 0 12 1 with
  | nil => rw [e] at this; cases this
  | cons a r => rw [e] at this; cases this; exact ⟨r, rfl⟩
theorem sgns_at : ∀ i : Nat, i < 12 → ∃ c, (Str.ofString "aAbBcCdDeEfF").cps.toList[i]? = some c ∧ c ∈ sgns ∧ ix c = i := by
  have h : ∀ i ∈ List.range 12, (Str.ofString "aAbBcCdDeEfF").cps.toList[i]? = sgns[i]? ∧ (sgns[i]?).isSome = true ∧ ix (sgns.getD i 0) = i := by decide +kernel
  intro i hi
  obtain ⟨h1, h2, h3⟩ := h i (List.mem_range.mpr hi)
  have h4 : i < sgns.length := hi
  refine ⟨sgns[i], by rw [h1, List.getElem?_eq_getElem h4], List.getElem_mem _, ?_⟩
  rw [List.getD_eq_getElem?_getD, List.getElem?_eq_getElem h4] at h3
  exact h3
theorem sgns_mem : ∀ c : Nat, (c ∈ (Str.ofString "aAbBcCdDeEfF").cps.toList) = (c ∈ sgns) := by
  have h : (Str.ofString "aAbBcCdDeEfF").cps.toList = sgns := by decide +kernel
  intro c
  rw [h]
theorem sign_of_at {i : Int} {z : Str} (h0 : 0 ≤ i) (h1 : i < 12) (hz : z = Str.ofString "aAbBcCdDeEfF") : ∃ c, atI z.cps.toList i = some c ∧ c ∈ sgns ∧ (ix c : Int) = i := by
  subst hz
  obtain ⟨c, e, hc, hi⟩ := sgns_at i.toNat (by omega)
  refine ⟨c, ?_, hc, by omega⟩
  have : i = (i.toNat : Int) := by omega
  rw [this]
  exact atI_nat e
theorem el_is {te : TE} {σ : L2.St} {H : Hp} {xs ys : List V} (h : Evl.EvL te σ H xs) (e : xs = ys) : Evl.EvL te σ H ys := e ▸ h
theorem len_S (l : List Nat) : (S l).length = l.length := by simp [S, Str.length]
theorem add_S (l m : List Nat) : S l ++ S m = S (l ++ m) := ext_tl (by rw [tl_append])
theorem joinL_nil : ∀ ps : List (List Nat), joinL [] ps = ps.flatten
  | [] => rfl
  | [p] => by simp [joinL]
  | p :: q :: r => by rw [joinL, joinL_nil (q :: r)]; simp
theorem join_S (a : Str) (ha : tl a = []) (l : List Nat) : Txt.join a (l.map fun c => S [c]) = S l := by
  refine ext_tl ?_
  rw [join_eq, tl_join, ha, joinL_nil]
  show _ = l
  induction l with
  | nil => rfl
  | cons c l ih => simp [tl] at ih ⊢; exact ih
theorem sum_ones (l : List Nat) : ((l.map fun c => S [c]).map (·.length)).sum = l.length := by
  induction l with
  | nil => rfl
  | cons c l ih => simp only [List.map_cons, List.sum_cons, List.length_cons, ih, len_S]; simp; omega
section
open Evl
variable {K : PySem.W.Frag} {σ : L2.St} {H : Hp} {te tl' to : TE} {j : Nat} {vs : List Nat}
/-- "".join([e for sign in text]), each e a sign -/
theorem ev_joinMap {a s : Str} (g : Nat → Nat) (ho : Ev to σ H (.str a)) (ha : tl a = []) (h : Ev tl' σ H (.str s)) (hz : s.length ≤ 40000) (hw : ∀ x, wipe ((wipe σ vs).set j (some x)) vs = wipe σ vs)
    (he : ∀ (c : Nat) H1, Ex H H1 → c ∈ s.cps.toList → Ev te ((wipe σ vs).set j (some (.str ⟨#[c]⟩))) H1 (.str (S [g c]))) :
    Ev (tM1 (rJoinK K) to (tLc (iStr tl') (gName j) tYes te vs)) σ H
      (.str (S (s.cps.toList.map g))) := by
  have e1 : s.cps.toList.map (fun c => V.str (S [g c])) = ((s.cps.toList.map g).map fun c => S [c]).map V.str := by simp [List.map_map, Function.comp]
  have e2 : a.length = 0 := by rw [len_tl, ha]; rfl
  have z : s.cps.toList.length = s.length := rfl
  refine ev_is (ev_join ho (el_is (el_mapS (fun c => .str (S [g c])) h hz hw he) e1) ?_) (by rw [join_S a ha])
  rw [sum_ones, e2, List.length_map, z]
  omega
end
/-- [sign.upper(), sign.lower()][int(sign.isupper())] -/
theorem at_turn {c : Nat} (hc : c ∈ sgns) : atI [V.str (Txt.upper (S [c])), V.str (Txt.lower (S [c]))] (if Txt.isupper (S [c]) then 1 else 0) = some (.str (S [con c])) := by
  rw [up1 c hc, low1 c hc, isup1 c hc]
  unfold con up lo
  by_cases h : c < 97
  · have h2 : ¬ 97 ≤ c := by omega
    rw [if_neg h2, if_neg h2, if_neg h2, decide_eq_true h]
    exact atI1
  · have h2 : 97 ≤ c := by omega
    rw [if_pos h2, if_pos h2, if_pos h2, decide_eq_false h]
    exact atI0
theorem sz_str {l m : List Nat} (h1 : l.length < 40000) (h2 : m.length < 40000) : (S l).length + (S m).length ≤ sizeLine := by
  rw [len_S, len_S]
  exact Nat.le_trans (by omega : _ ≤ 100000) (by decide)
theorem row_snoc {l : List Nat} {c : Nat} (h : Row l) (hc : c ∈ sgns) : Row (l ++ [c]) := fun d hd => by
  rcases List.mem_append.mp hd with q | q
  · exact h d q
  · rw [List.mem_singleton.mp q]; exact hc
theorem all_snoc {P : Nat → Prop} {l : List Nat} {c : Nat} (h : ∀ d ∈ l, P d) (hc : P c) : ∀ d ∈ l ++ [c], P d := fun d hd => by
  rcases List.mem_append.mp hd with q | q
  · exact h d q
  · rw [List.mem_singleton.mp q]; exact hc
theorem at_last {m : List Nat} {d : Nat} : atI (S (m ++ [d])).cps.toList (-(1 : Int)) = some d := by
  show atI (m ++ [d]) (-1) = some d
  unfold atI ixN
  have h : -(((m ++ [d]).length : Nat) : Int) ≤ -1 := by simp; omega
  rw [if_neg (by decide), if_pos h]
  have e : ((-1 : Int) + ((m ++ [d]).length : Nat)).toNat = m.length := by simp; omega
  rw [e]
  simp
theorem cut_S (l : List Nat) (lo hi : Option Int) : cutS (S l) lo hi = S ((l.drop (HT.sIx l.length 0 lo)).take (HT.sIx l.length l.length hi - HT.sIx l.length 0 lo)) := by
  unfold cutS
  rw [len_S]
theorem cut_last {m : List Nat} {d : Nat} : cutS (S (m ++ [d])) none (some (-1)) = S m := by
  rw [cut_S, HT.sIx_none]
  have e : HT.sIx (m ++ [d]).length (m ++ [d]).length (some (-1)) = m.length := by
    show (if (-1 : Int) < 0 then ((-1 : Int) + ((m ++ [d]).length : Nat)).toNat else min (-1 : Int).toNat (m ++ [d]).length) = _
    rw [if_pos (by decide)]
    simp
    omega
  rw [e, List.drop_zero, Nat.sub_zero]
  simp
theorem sz_of' {n : Nat} (h : n ≤ 100000) : n ≤ sizeLine := Nat.le_trans h (by decide)
theorem exists_snoc {α : Type} {m : List α} (h : m ≠ []) : ∃ l d, m = l ++ [d] := ⟨m.dropLast, m.getLast h, (List.dropLast_concat_getLast h).symm⟩
theorem ix_con {c : Nat} (h : c ∈ sgns) : ix (con c) / 2 = ix c / 2 := by
  have : ∀ c ∈ sgns, ix (con c) / 2 = ix c / 2 := by decide
  exact this c h
/-! ### the rank of a row, as data -/
def intsD (xs : List Nat) : List PyData := xs.map fun (c : Nat) => .int (c : Int)
def rankD (l : List Nat) : PyData := .tuple [.int l.length, .list (intsD (l.map ix))]
theorem alike_ints : ∀ xs ys : List Nat, PySem.W.alikeAll (intsD xs) (intsD ys) = true
  | [], _ => by simp [intsD, PySem.W.alikeAll]
  | _ :: _, [] => by simp [intsD, PySem.W.alikeAll]
  | x :: xs, y :: ys => by
    have ih := alike_ints xs ys
    simp only [intsD] at ih ⊢
    simp [PySem.W.alikeAll, PySem.W.alike, ih]
theorem alike_rank (l m : List Nat) : PySem.W.alike (rankD l) (rankD m) = true := by
  simp [rankD, PySem.W.alike, PySem.W.alikeAll, alike_ints]
theorem eqv_int (a b : Int) : PyData.eqv (.int a) (.int b) = decide (a = b) := by
  simp [PyData.eqv]
  by_cases h : a = b <;> simp [h]
theorem lex_ints : ∀ xs ys : List Nat, xs.length = ys.length → PyProof.Rows.lexLt PyProof.Rows.itemOrd (PySem.W.keyToksAll (intsD xs)) (PySem.W.keyToksAll (intsD ys)) = RowM.lexI xs ys
  | [], [], _ => by decide
  | [], _ :: _, h => by simp at h
  | _ :: _, [], h => by simp at h
  | x :: xs, y :: ys, h => by
    have ih := lex_ints xs ys (by simpa using h)
    show PyProof.Rows.lexLt PyProof.Rows.itemOrd (PySem.W.keyToksAll (.int (x : Int) :: intsD xs)) (PySem.W.keyToksAll (.int (y : Int) :: intsD ys)) = _
    by_cases e : x = y
    · rw [PySem.W.dataLt_all_yes rfl (by rw [eqv_int]; simp [e]), ih, RowM.lexI, if_pos e]
    · rw [PySem.W.dataLt_all_no rfl (by rw [eqv_int]; simp; omega), PySem.W.dataLt_int, RowM.lexI, if_neg e]
      congr 1
      simp
theorem eqv_list_len : ∀ xs ys : List Nat, PyData.eqvAll (intsD xs) (intsD ys) = true → xs = ys
  | [], [], _ => rfl
  | [], _ :: _, h => by simp [intsD, PyData.eqvAll] at h
  | _ :: _, [], h => by simp [intsD, PyData.eqvAll] at h
  | x :: xs, y :: ys, h => by
    have h2 : PyData.eqvAll (.int (x : Int) :: intsD xs) (.int (y : Int) :: intsD ys) = true := h
    rw [PySem.W.eqv_all_cons, Bool.and_eq_true, eqv_int] at h2
    have := eqv_list_len xs ys h2.2
    have e := of_decide_eq_true h2.1
    rw [this]
    congr 1
    omega
theorem lt_rank {l m : List Nat} : PySem.W.dataLt (rankD l) (rankD m) = RowM.before l m := by
  unfold rankD
  rw [PySem.W.dataLt_tuple]
  unfold RowM.before
  by_cases e : l.length = m.length
  · rw [if_pos e, PySem.W.dataLt_all_yes rfl (by rw [eqv_int]; simp [e])]
    by_cases q : PyData.eqv (.list (intsD (l.map ix))) (.list (intsD (m.map ix))) = true
    · rw [PySem.W.dataLt_all_yes (by rw [PySem.W.alike]; exact alike_ints _ _) q]
      have : l.map ix = m.map ix := eqv_list_len _ _ (by simpa [PyData.eqv] using q)
      rw [this]
      have z : ∀ n : List Nat, RowM.lexI n n = false := by
        intro n
        induction n with
        | nil => rfl
        | cons a n ih => simp [RowM.lexI, ih]
      rw [z]
      decide
    · rw [PySem.W.dataLt_all_no (by rw [PySem.W.alike]; exact alike_ints _ _) (by simpa using q), PySem.W.dataLt_list, lex_ints _ _ (by simpa using e)]
  · rw [if_neg e, PySem.W.dataLt_all_no rfl (by rw [eqv_int]; simp; omega), PySem.W.dataLt_int]
    congr 1
    simp
section
variable {K : PySem.W.Frag} {H : Hp}
theorem dp_ints : ∀ xs : List Nat, DpAll K H (xs.map fun (c : Nat) => V.int (c : Int)) (intsD xs)
  | [] => .nil
  | x :: xs => .cons (.int _) (dp_ints xs)
theorem dp_rank {t q : Addr} {l : List Nat} (ht : H t = some (.tup [.int l.length, .ref q])) (hq : H q = some (.lst (l.map fun c => V.int (ix c : Nat)))) : Dp K H (.ref t) (rankD l) :=
  .tup (SqT.of ht) (.cons (.int _) (.cons (.lst (SqL.of hq) (by
    have := dp_ints (K := K) (H := H) (l.map ix)
    rw [List.map_map] at this
    exact this)) .nil))
end
theorem depth_ints : ∀ xs : List Nat, PyData.depthAll (intsD xs) = 0
  | [] => rfl
  | x :: xs => by
    have := depth_ints xs
    simp only [intsD, List.map_cons, PyData.depthAll, PyData.depth] at this ⊢
    omega
theorem depth_rank (l : List Nat) : (rankD l).depth ≤ 60 := by
  simp [rankD, PyData.depth, PyData.depthAll, depth_ints]
def isRow (l : List Nat) : Bool := decide (l.length ≤ 60) && l.all fun c => decide (c ∈ sgns)
theorem isRow_iff {l : List Nat} : isRow l = true ↔ l.length ≤ 60 ∧ Row l := by
  simp [isRow, RowM.Row]
theorem turns_ok (x t : Int) (h : 1 ≤ t) : 1 ≤ (if (if t < x then t else x) > 1 then (if t < x then t else x) else 1) ∧ (if (if t < x then t else x) > 1 then (if t < x then t else x) else 1) ≤ t := by
  by_cases a : t < x
  · rw [if_pos a]
    by_cases b : t > 1
    · rw [if_pos b]; omega
    · rw [if_neg b]; omega
  · rw [if_neg a]
    by_cases b : x > 1
    · rw [if_pos b]; omega
    · rw [if_neg b]; omega
theorem at2 {α : Type} {a b : α} {v : Int} (h0 : 0 ≤ v) (h1 : v < 2) : ∃ x, atI [a, b] v = some x ∧ (x = a ∨ x = b) := by
  have : v = 0 ∨ v = 1 := by omega
  rcases this with rfl | rfl
  · exact ⟨a, atI0, .inl rfl⟩
  · exact ⟨b, atI1, .inr rfl⟩
theorem cut_to {l : List Nat} {k : Nat} (h : k ≤ l.length) : cutS (S l) none (some (k : Int)) = S (l.take k) := by
  rw [cut_S, HT.sIx_none, HT.sIx_nat, Nat.min_eq_left h, List.drop_zero, Nat.sub_zero]
theorem cut_from {l : List Nat} {k : Nat} : cutS (S l) (some (k : Int)) none = S (l.drop k) := by
  rw [cut_S, HT.sIx_none, HT.sIx_nat]
  congr 1
  by_cases h : k ≤ l.length
  · rw [Nat.min_eq_left h]
    have : (l.drop k).length = l.length - k := List.length_drop ..
    rw [← this, List.take_length]
  · have h2 : l.length ≤ k := by omega
    rw [Nat.min_eq_right h2, List.drop_eq_nil_of_le h2, Nat.sub_self, List.take_zero]
theorem str_dec {c d : Nat} : decide (V.str (S [c]) = V.str (S [d])) = decide (c = d) := by
  apply decide_eq_decide.mpr
  constructor
  · intro h
    have h1 := congrArg (fun v => match v with | V.str z => z.cps.toList | _ => []) h
    simpa using h1
  · intro h; rw [h]
theorem row_sub {l m : List Nat} (h : Row l) (s : ∀ c ∈ m, c ∈ l) : Row m := fun c hc => h c (s c hc)
theorem row_app {l m : List Nat} (h : Row l) (h2 : Row m) : Row (l ++ m) := fun c hc => by
  rcases List.mem_append.mp hc with q | q
  · exact h c q
  · exact h2 c q
theorem at2of3 {α : Type} {a b c : α} {l : List α} : atI (a :: b :: c :: l) 2 = some c := atI_nat (xs := a :: b :: c :: l) (j := 2) rfl
theorem at3 {α : Type} {a b c : α} {v : Int} (h0 : 0 ≤ v) (h1 : v < 3) : ∃ x, atI [a, b, c] v = some x ∧ (x = a ∨ x = b ∨ x = c) := by
  have : v = 0 ∨ v = 1 ∨ v = 2 := by omega
  rcases this with rfl | rfl | rfl
  · exact ⟨a, atI0, .inl rfl⟩
  · exact ⟨b, atI1, .inr (.inl rfl)⟩
  · exact ⟨c, at2of3, .inr (.inr rfl)⟩
theorem at4 {α : Type} {a b c d : α} {v : Int} (h0 : 0 ≤ v) (h1 : v < 4) : ∃ x, atI [a, b, c, d] v = some x ∧ (x = a ∨ x = b ∨ x = c ∨ x = d) := by
  have : v = 0 ∨ v = 1 ∨ v = 2 ∨ v = 3 := by omega
  rcases this with rfl | rfl | rfl | rfl
  · exact ⟨a, atI0, .inl rfl⟩
  · exact ⟨b, atI1, .inr (.inl rfl)⟩
  · exact ⟨c, at2of3, .inr (.inr (.inl rfl))⟩
  · exact ⟨d, atI_nat (xs := [a, b, c, d]) (j := 3) rfl, .inr (.inr (.inr rfl))⟩
theorem Pool.ne {H : Hp} {p d : Addr} (h : Pool H p) (hd : H d = none) : p ≠ d := fun e => by
  obtain ⟨_, _, q, _⟩ := h
  rw [e, hd] at q
  cases q
theorem Pool.new {H : Hp} {p d : Addr} {o : HO} (h : Pool H p) (hd : H d = none) : Pool (upd H d o) p := h.same (Same.new hd)
/-- what stood ahead of the pool stands -/
theorem Off.same {H0 H H' : Hp} {p : Addr} (hp : H0 p = none) (s : Same H0 H) (o : Off p H H') : Same H0 H' := fun b u e => o b u (fun q => by rw [q, hp] at e; cases e) (s b u e)
/-! ### what is refused -/
/-- an exception with one field, made -/
theorem made1 {H : Hp} {a C : Addr} {f : Str} {v : V} {E : XK} (ha : H a = none) (k : ∀ (d : Addr) (H' : Hp), Same H H' → H' d = some (.xd [(f, v)]) → E (.ref C) (some d) H') (d : Addr) (hd : (upd H a (exo a C none)) d = none) (ne : d ≠ a) :
    V.non = .non ∧ ∃ (d' : Addr) (fs : List (Str × V)), (upd (upd (upd (upd H a (exo a C none)) d (exd d [])) a (exo a C (some d))) d (exd d [(f, v)])) a = some (exo a C (some d')) ∧ (upd (upd (upd (upd H a (exo a C none)) d (exd d [])) a (exo a C (some d))) d (exd d [(f, v)])) d' = some (exd d' fs) ∧
      H d' = none ∧ E (.ref C) (some d') (upd (del (upd (upd (upd (upd H a (exo a C none)) d (exd d [])) a (exo a C (some d))) d (exd d [(f, v)])) a) d' (.xd fs)) := by
  have h0 : H d = none := by rw [upd_ne ne] at hd; exact hd
  refine ⟨rfl, d, [(f, v)], by rw [upd_ne ne.symm, upd_same], upd_same, h0, ?_⟩
  rw [fresh_xd ha ne]
  exact k d _ (Same.new h0) upd_same
/-- what is no whole number -/
def NotInt (H : Hp) (x : V) : Prop := x = .non ∨ (∃ b, x = .bl b) ∨ (∃ s, x = .str s) ∨ ∃ a, x = .ref a ∧ ((∃ ns : List Int, H a = some (.lst (ns.map V.int))) ∨ ∃ ns : List Int, H a = some (.tup (ns.map V.int)))
theorem NotInt.same {H H' : Hp} {x : V} (h : NotInt H x) (s : Same H H') : NotInt H' x := by
  rcases h with h | h | h | ⟨a, e, ⟨xs, h⟩ | ⟨xs, h⟩⟩
  · exact .inl h
  · exact .inr (.inl h)
  · exact .inr (.inr (.inl h))
  · exact .inr (.inr (.inr ⟨a, e, .inl ⟨xs, s _ _ h⟩⟩))
  · exact .inr (.inr (.inr ⟨a, e, .inr ⟨xs, s _ _ h⟩⟩))
theorem NotInt.ty {K : PySem.W.Frag} {H : Hp} {x : V} (h : NotInt H x) : ∃ t : String, TyX K H x (.type t) ∧ ((kitB t "int" = some false) ∨ (kitB t "int" = some true ∧ kitB t "bool" = some true)) := by
  rcases h with rfl | ⟨b, rfl⟩ | ⟨s, rfl⟩ | ⟨a, rfl, ⟨xs, h⟩ | ⟨xs, h⟩⟩
  · exact ⟨_, .base .non, .inl (by decide +kernel)⟩
  · exact ⟨_, .base (.bl _), .inr ⟨by decide +kernel, by decide +kernel⟩⟩
  · exact ⟨_, .base (.str _), .inl (by decide +kernel)⟩
  · exact ⟨_, .base (.lst h), .inl (by decide +kernel)⟩
  · exact ⟨_, .base (.tup h), .inl (by decide +kernel)⟩
def IntOr (H : Hp) (x : V) (r : Bool) : Prop := (∃ i : Int, x = .int i ∧ r = true) ∨ (NotInt H x ∧ r = false)
/-- a number of deeds, or none -/
def Deeds (H : Hp) (x : V) (most : Int) (r : Bool) : Prop := (∃ i : Int, x = .int i ∧ r = decide (1 ≤ i ∧ i ≤ most)) ∨ (NotInt H x ∧ r = false)
theorem Deeds.same {H H' : Hp} {x : V} {m : Int} {r : Bool} (h : Deeds H x m r) (s : Same H H') : Deeds H' x m r := h.imp id fun h => ⟨h.1.same s, h.2⟩
theorem Deeds.yes {H : Hp} {x : V} (h : Deeds H x 6 true) : ∃ d : Nat, x = .int (d : Int) ∧ 1 ≤ d ∧ d ≤ 6 := by
  rcases h with ⟨i, rfl, e⟩ | ⟨_, h⟩
  · have := of_decide_eq_true e.symm
    exact ⟨i.toNat, by congr 1; omega, by omega, by omega⟩
  · cases h
theorem dp_zs {K : PySem.W.Frag} {H : Hp} : ∀ ns : List Int, DpAll K H (ns.map V.int) (ns.map PyData.int)
  | [] => .nil
  | n :: ns => .cons (.int n) (dp_zs ns)
theorem shaped_tup (ns : List Int) : SeqAt.shaped (.tuple (ns.map PyData.int)) = true := by
  have h1 : ∀ ns : List Int, PyData.canLayAll0 (ns.map PyData.int) = true := by
    intro ns
    induction ns with
    | nil => rfl
    | cons n ns ih => simp [PyData.canLayAll0, PyData.canLay0, ih]
  have h2 : ∀ ns : List Int, PyData.depthAll (ns.map PyData.int) = 0 := by
    intro ns
    induction ns with
    | nil => rfl
    | cons n ns ih => simp [PyData.depthAll, PyData.depth, ih]
  simp [SeqAt.shaped, PyData.canLay0, h1, PyData.depth, h2]
theorem shaped_lst (ns : List Int) : SeqAt.shaped (.list (ns.map PyData.int)) = true := by
  have h := shaped_tup ns
  simpa [SeqAt.shaped, PyData.canLay0, PyData.depth] using h
def Odd (K : PySem.W.Frag) (H : Hp) (x : V) (dx : PyData) : Prop := (∀ H', Same H H' → Dp K H' x dx) ∧ dx.showable = true ∧ dx.hasDict = false ∧ dx.shown.length ≤ 2000 ∧ dx.depth ≤ 1
theorem odd_int {K : PySem.W.Frag} {H : Hp} {i : Int} (h : i.natAbs.log2 < 1900) : Odd K H (.int i) (.int i) :=
  ⟨fun _ _ => .int i, decide_eq_true (by omega), rfl, Nat.le_trans (PyProof.Rows.int_text_len_1921 (by omega)) (by decide), by simp [PyData.depth]⟩
theorem odd_bl {K : PySem.W.Frag} {H : Hp} (b : Bool) : Odd K H (.bl b) (.bool b) := ⟨fun _ _ => .bl b, rfl, rfl, by cases b <;> decide +kernel, by simp [PyData.depth]⟩
theorem odd_non {K : PySem.W.Frag} {H : Hp} : Odd K H .non .none := ⟨fun _ _ => .non, rfl, rfl, by decide +kernel, by simp [PyData.depth]⟩
theorem odd_str {K : PySem.W.Frag} {H : Hp} (s : Str) (h : (reprText s).length ≤ 2000) : Odd K H (.str s) (.str s) := ⟨fun _ _ => .str s, rfl, rfl, h, by simp [PyData.depth]⟩
theorem odd_lst {K : PySem.W.Frag} {H : Hp} {b : Addr} (h : H b = some (.lst [])) : Odd K H (.ref b) (.list []) := ⟨fun _ s => .lst (Evl.sq_of (s _ _ h)) .nil, rfl, rfl, by decide +kernel, by simp [PyData.depth, PyData.depthAll]⟩
theorem odd_lst0 {K : PySem.W.Frag} {H : Hp} {b : Addr} (h : H b = some (.lst [.int 0])) : Odd K H (.ref b) (.list [.int 0]) := ⟨fun _ s => .lst (Evl.sq_of (s _ _ h)) (.cons (.int 0) .nil), by decide +kernel, rfl, by decide +kernel, by simp [PyData.depth, PyData.depthAll]⟩
theorem odd_tup {K : PySem.W.Frag} {H : Hp} {b : Addr} (h : H b = some (.tup [])) : Odd K H (.ref b) (.tuple []) := ⟨fun _ s => .tup (Evl.st_of (s _ _ h)) .nil, rfl, rfl, by decide +kernel, by simp [PyData.depth, PyData.depthAll]⟩
theorem Odd.mono {K : PySem.W.Frag} {H H' : Hp} {x : V} {dx : PyData} (h : Odd K H x dx) (s : Same H H') : Odd K H' x dx := ⟨fun H2 s2 => h.1 H2 (Same.trans s s2), h.2⟩
/-! ### trees counted -/
/-- in how many ways some of many are chosen -/
def chN (m : Nat) : Nat → Nat
  | 0 => 1
  | k + 1 => chN m k * (m - k) / (k + 1)
/-- how many bits are set -/
def onesN (m : Nat) : Nat := ((List.range 6).map fun i => m / 2 ^ i % 2).sum
def totN (s : Nat) (row : List Nat) (d l : Nat) : Nat := ((List.range (min s (l - d) + 1)).map fun more => chN s more * row.getD (d + more) 0).sum
/-- of so many to come, in how many ways, so many being due -/
def rowN (s : Nat) : Nat → List Nat
  | 0 => [1]
  | l + 1 => 0 :: (List.range (l + 1)).map fun d => totN s (rowN s l) d l
def blockN (s n : Nat) (row : List Nat) (mark : Nat) : Nat := if onesN mark < n then row.getD (onesN mark) 0 else 0
def treesN (n d : Nat) : Nat := ((List.range (2 ^ (2 * d))).map (blockN (2 * d - 1) n (rowN (2 * d - 1) (n - 1)))).sum
def dueN (n d : Nat) : Nat := 2 * d * chN ((2 * d - 1) * n) (n - 1) / ((2 * d - 2) * n + 2)
theorem trees_due : ∀ n < 41, 1 ≤ n → treesN n 1 = dueN n 1 ∧ treesN n 2 = dueN n 2 ∧ treesN n 3 = dueN n 3 ∧ treesN n 1 = n := by decide +kernel
/-- the rows of ways in the heap -/
structure RowsAt (H : Hp) (rs : List Addr) (s n : Nat) : Prop where
  len : rs.length = n
  get : ∀ (i : Nat) (a : Addr), rs[i]? = some a → H a = some (.lst ((rowN s i).map fun x : Nat => V.int (x : Int)))
theorem RowsAt.same {H H' : Hp} {rs : List Addr} {s n : Nat} (h : RowsAt H rs s n) (q : Same H H') : RowsAt H' rs s n := ⟨h.len, fun i a e => q _ _ (h.get i a e)⟩
theorem ones_sum : ∀ m : Nat, m < 64 → ((List.range (Builtin.Int.intBits (m : Int))).map fun j => Builtin.bitAnd ((m : Int) / 2 ^ j) 1).sum = (onesN m : Int) := by decide +kernel
theorem ones_le : ∀ m : Nat, m < 64 → onesN m ≤ 6 := by decide +kernel
theorem ch_small : ∀ s < 6, ∀ k < 7, chN s k ≤ 10 := by decide +kernel
theorem rowN_len (s : Nat) : ∀ l, (rowN s l).length = l + 1
  | 0 => rfl
  | l + 1 => by
    show (0 :: (List.range (l + 1)).map _).length = _
    rw [List.length_cons, List.length_map, List.length_range]
theorem sum_int (xs : List Nat) : (xs.map fun x : Nat => (x : Int)).sum = ((xs.sum : Nat) : Int) := by
  induction xs with
  | nil => rfl
  | cons x xs ih => rw [List.map_cons, List.sum_cons, ih, List.sum_cons]; omega
theorem ch_step {m i : Nat} (h : i ≤ m) : (chN m i : Int) * ((m : Int) - (0 + (i : Int))) / ((0 + (i : Int)) + 1) = ((chN m (i + 1) : Nat) : Int) := by
  have e1 : (m : Int) - (0 + (i : Int)) = ((m - i : Nat) : Int) := by omega
  have e2 : (0 + (i : Int)) + 1 = ((i + 1 : Nat) : Int) := by omega
  rw [e1, e2, ← Int.natCast_mul, ← Int.natCast_ediv]
  rfl
theorem row_at {H : Hp} {rs : List Addr} {s n i j : Nat} (h : RowsAt H rs s n) (hi : i < n) (hj : j ≤ i) : ∃ a, (rs.map V.ref)[i]? = some (.ref a) ∧ H a = some (.lst ((rowN s i).map fun x : Nat => V.int (x : Int))) ∧ ((rowN s i).map fun x : Nat => V.int (x : Int))[j]? = some (.int (((rowN s i).getD j 0 : Nat) : Int)) := by
  have hl : i < rs.length := by rw [h.len]; exact hi
  refine ⟨rs[i], by rw [List.getElem?_map, List.getElem?_eq_getElem hl]; rfl, h.get i _ (List.getElem?_eq_getElem hl), ?_⟩
  have hz : j < (rowN s i).length := by rw [rowN_len]; omega
  rw [List.getElem?_map, List.getElem?_eq_getElem hz, List.getD_eq_getElem?_getD, List.getElem?_eq_getElem hz]
  rfl
def partN (s : Nat) (row : List Nat) (d m : Nat) : Nat := ((List.range m).map fun more => chN s more * row.getD (d + more) 0).sum
theorem partN_succ (s : Nat) (row : List Nat) (d m : Nat) : partN s row d (m + 1) = partN s row d m + chN s m * row.getD (d + m) 0 := by
  unfold partN
  rw [List.range_succ, List.map_append, List.sum_append]
  simp
theorem RowsAt.more {H : Hp} {rs : List Addr} {s n : Nat} {R F : Addr} {o : HO} (h : RowsAt H rs s n) (hR : ∃ xs : List Addr, H R = some (.lst (xs.map V.ref)) ∧ 0 < xs.length) (gF : H F = some (.lst ((rowN s n).map fun x : Nat => V.int (x : Int)))) : RowsAt (upd H R o) (rs ++ [F]) s (n + 1) := by
  obtain ⟨xs, hR, hx⟩ := hR
  have ne : ∀ (a : Addr) (ys : List Nat), H a = some (.lst (ys.map fun x : Nat => V.int (x : Int))) → a ≠ R := fun a ys g e => by
    rw [e, hR] at g
    injection g with g
    injection g with g
    cases xs with
    | nil => cases hx
    | cons x xs =>
      cases ys with
      | nil => cases g
      | cons y ys =>
        injection g with g
        cases g
  refine ⟨by rw [List.length_append, h.len]; rfl, fun i a e => ?_⟩
  by_cases q : i < rs.length
  · rw [List.getElem?_append_left q] at e
    have g := h.get i a e
    rw [upd_ne (ne a _ g)]
    exact g
  · have hl := h.len
    have il := (List.getElem?_eq_some_iff.mp e).1
    rw [List.length_append] at il
    have il : i < rs.length + 1 := il
    have ei : i = n := by omega
    subst ei
    rw [List.getElem?_append_right (by omega), show i - rs.length = 0 by omega] at e
    injection e with e
    subst e
    rw [upd_ne (ne F _ gF)]
    exact gF
theorem tree_due {n d : Nat} (n1 : 1 ≤ n) (n40 : n ≤ 40) (d1 : 1 ≤ d) (d3 : d ≤ 3) : treesN n d = dueN n d := by
  obtain ⟨e1, e2, e3, _⟩ := trees_due n (by omega) n1
  match d, d1, d3 with
  | 1, _, _ => exact e1
  | 2, _, _ => exact e2
  | 3, _, _ => exact e3
theorem at_in10 {L : List V} {z : Int} (h0 : 0 ≤ z) (h1 : z < (L.length : Int)) : ∃ y, atI L z = some y ∧ y ∈ L := by
  obtain ⟨n, rfl⟩ : ∃ n : Nat, z = (n : Int) := ⟨z.toNat, by omega⟩
  have hn : n < L.length := by omega
  exact ⟨L[n], atI_nat (List.getElem?_eq_getElem hn), List.getElem_mem _⟩
def oddsA (l t : Addr) : List V := [.int 0, .int (-1), .bl true, .non, .str (Str.ofString "2"), .ref l, .int ((10 : Int) ^ (20 : Int).toNat), .ref t, .bl false, .int 41]
def oddsB (l t : Addr) : List V := [.int 0, .int 4, .bl true, .non, .str (Str.ofString "1"), .ref l, .int (-1), .int ((10 : Int) ^ (20 : Int).toNat), .ref t, .int 7]
theorem odd_l1 {K : PySem.W.Frag} {H : Hp} {b : Addr} (i : Int) (h : H b = some (.lst [.int i])) (e : (PyData.list [.int i]).shown.length ≤ 2000) (g : (PyData.list [.int i]).showable = true) : Odd K H (.ref b) (.list [.int i]) := ⟨fun _ s => .lst (Evl.sq_of (s _ _ h)) (.cons (.int i) .nil), g, rfl, e, by simp [PyData.depth, PyData.depthAll]⟩
theorem odd_t1 {K : PySem.W.Frag} {H : Hp} {b : Addr} (i : Int) (h : H b = some (.tup [.int i])) (e : (PyData.tuple [.int i]).shown.length ≤ 2000) (g : (PyData.tuple [.int i]).showable = true) : Odd K H (.ref b) (.tuple [.int i]) := ⟨fun _ s => .tup (Evl.st_of (s _ _ h)) (.cons (.int i) .nil), g, rfl, e, by simp [PyData.depth, PyData.depthAll]⟩
theorem oddsA_ok {K : PySem.W.Frag} {H : Hp} {l t : Addr} {y : V} (hl : H l = some (.lst [.int 1])) (ht : H t = some (.tup [.int 1])) (hy : y ∈ oddsA l t) : Deeds H y 40 false ∧ ∃ dz, Odd K H y dz := by
  simp only [oddsA, List.mem_cons, List.not_mem_nil, or_false] at hy
  rcases hy with rfl | rfl | rfl | rfl | rfl | rfl | rfl | rfl | rfl | rfl
  · exact ⟨.inl ⟨_, rfl, by decide⟩, _, odd_int (by decide)⟩
  · exact ⟨.inl ⟨_, rfl, by decide⟩, _, odd_int (by decide)⟩
  · exact ⟨.inr ⟨.inr (.inl ⟨_, rfl⟩), rfl⟩, _, odd_bl _⟩
  · exact ⟨.inr ⟨.inl rfl, rfl⟩, _, odd_non⟩
  · exact ⟨.inr ⟨.inr (.inr (.inl ⟨_, rfl⟩)), rfl⟩, _, odd_str _ (by decide +kernel)⟩
  · exact ⟨.inr ⟨.inr (.inr (.inr ⟨_, rfl, .inl ⟨[1], hl⟩⟩)), rfl⟩, _, odd_l1 1 hl (by decide +kernel) (by decide +kernel)⟩
  · exact ⟨.inl ⟨_, rfl, by decide⟩, _, odd_int (by decide)⟩
  · exact ⟨.inr ⟨.inr (.inr (.inr ⟨_, rfl, .inr ⟨[1], ht⟩⟩)), rfl⟩, _, odd_t1 1 ht (by decide +kernel) (by decide +kernel)⟩
  · exact ⟨.inr ⟨.inr (.inl ⟨_, rfl⟩), rfl⟩, _, odd_bl _⟩
  · exact ⟨.inl ⟨_, rfl, by decide⟩, _, odd_int (by decide)⟩
theorem oddsB_ok {K : PySem.W.Frag} {H : Hp} {l t : Addr} {y : V} (hl : H l = some (.lst [.int 2])) (ht : H t = some (.tup [.int 3])) (hy : y ∈ oddsB l t) : Deeds H y 3 false ∧ ∃ dz, Odd K H y dz := by
  simp only [oddsB, List.mem_cons, List.not_mem_nil, or_false] at hy
  rcases hy with rfl | rfl | rfl | rfl | rfl | rfl | rfl | rfl | rfl | rfl
  · exact ⟨.inl ⟨_, rfl, by decide⟩, _, odd_int (by decide)⟩
  · exact ⟨.inl ⟨_, rfl, by decide⟩, _, odd_int (by decide)⟩
  · exact ⟨.inr ⟨.inr (.inl ⟨_, rfl⟩), rfl⟩, _, odd_bl _⟩
  · exact ⟨.inr ⟨.inl rfl, rfl⟩, _, odd_non⟩
  · exact ⟨.inr ⟨.inr (.inr (.inl ⟨_, rfl⟩)), rfl⟩, _, odd_str _ (by decide +kernel)⟩
  · exact ⟨.inr ⟨.inr (.inr (.inr ⟨_, rfl, .inl ⟨[2], hl⟩⟩)), rfl⟩, _, odd_l1 2 hl (by decide +kernel) (by decide +kernel)⟩
  · exact ⟨.inl ⟨_, rfl, by decide⟩, _, odd_int (by decide)⟩
  · exact ⟨.inl ⟨_, rfl, by decide⟩, _, odd_int (by decide)⟩
  · exact ⟨.inr ⟨.inr (.inr (.inr ⟨_, rfl, .inr ⟨[3], ht⟩⟩)), rfl⟩, _, odd_t1 3 ht (by decide +kernel) (by decide +kernel)⟩
  · exact ⟨.inl ⟨_, rfl, by decide⟩, _, odd_int (by decide)⟩
theorem nat_of {n m : Nat} (e : V.int (n : Int) = V.int (m : Int)) : n = m := by
  injection e with e
  omega
theorem deeds_ok {H : Hp} {n : Nat} {m : Int} (h1 : 1 ≤ n) (h2 : (n : Int) ≤ m) : Deeds H (.int (n : Int)) m true := .inl ⟨(n : Int), rfl, (decide_eq_true ⟨by omega, h2⟩).symm⟩
theorem nat_of2 {i : Int} {n m : Nat} (hn : (n : Int) = i) (e : V.int i = V.int (m : Int)) : n = m := by
  injection e with e
  omega
theorem eqv_two (a b : Int) : PyData.eqv (.list ([a, b].map PyData.int)) (.list ([a, b].map PyData.int)) = true := by
  simp [PyData.eqv, PyData.eqvAll]

/-- a def that the caller knows: where it stands, how its arguments bind, what it promises -/
def KN (P : Program) (w : World) (K : PySem.W.Frag) (mg : Str → Option Value) (base : Heap) (CX : CXT) (k : Nat) (ps : List Str) (sp : Sp) (x : Str) (dvs : List V) : Prop :=
  ∃ (f : Addr) (fd : FuncData) (ds : List Value), mg x = some (.ref f) ∧ PySem.W.keepIn K (.ref f) = true ∧ Vals dvs ds ∧ Binds K fd ps ds ∧ FnOk P w K mg base CX k f fd ps sp
/-- a def that asks for reprs -/
def KNG (P : Program) (w : World) (K : PySem.W.Frag) (mg : Str → Option Value) (base : Heap) (CX : CXT) (k : Nat) (ps : List Str) (sp : Sp) (x : Str) (dvs : List V) : Prop :=
  ∃ (f : Addr) (fd : FuncData) (ds : List Value), mg x = some (.ref f) ∧ PySem.W.keepIn K (.ref f) = true ∧ Vals dvs ds ∧ Binds K fd ps ds ∧ FnG P w K mg base CX k f fd ps sp
/-- a method that the caller knows -/
def KM (P : Program) (w : World) (K : PySem.W.Frag) (mg : Str → Option Value) (base : Heap) (CX : CXT) (k : Nat) (ps : List Str) (sp : Sp) (C : Addr) (n : Str) (dvs : List V) : Prop :=
  ∃ (f : Addr) (fd : FuncData) (ds : List Value), PySem.W.findIn K (.ref C) n = some (some (.ref f)) ∧ PySem.W.typeIn K (.ref f) = some (.type "function") ∧ PySem.W.isFn K (.ref f) = true ∧ PySem.W.keepIn K (.ref f) = true ∧ Vals dvs ds ∧ Binds K fd ps ds ∧ FnOk P w K mg base CX k f fd ps sp
/-- a def that the caller calls by keywords -/
def KNK (P : Program) (w : World) (K : PySem.W.Frag) (mg : Str → Option Value) (base : Heap) (CX : CXT) (k : Nat) (ps : List Str) (sp : Sp) (x : Str) (ks : List Str) : Prop :=
  ∃ (f : Addr) (fd : FuncData), mg x = some (.ref f) ∧ PySem.W.keepIn K (.ref f) = true ∧ KBinds K fd ps ks swapK swapV ∧ FnOk P w K mg base CX k f fd ps sp
structure Txt (K : PySem.W.Frag) (mg : Str → Option Value) (C_NoNumber : Addr) : Prop where
  b_LookupError : mg "LookupError" = none
  b_bool : mg "bool" = none
  b_int : mg "int" = none
  b_isinstance : mg "isinstance" = none
  b_len : mg "len" = none
  b_max : mg "max" = none
  b_min : mg "min" = none
  b_range : mg "range" = none
  b_repr : mg "repr" = none
  b_sum : mg "sum" = none
  g_MOST_DEEDS : ∃ u, mg "MOST_DEEDS" = some u ∧ RelV (.int 3) u
  g_MOST_TREE : ∃ u, mg "MOST_TREE" = some u ∧ RelV (.int 40) u
  v_LookupError : PySem.W.findCls K (.type "LookupError") (.type "type") "__init__" = some (.val (.builtin "LookupError.__init__"))
  y_NoNumber_number : PySem.W.findIn K (.ref C_NoNumber) "number" = some none
  x_NoNumber : ExF K mg "NoNumber" C_NoNumber "LookupError" "LookupError.__new__" "LookupError.__init__" [.type "LookupError", .type "Exception", .type "BaseException", .type "object"]
  s5 : PySem.W.subIn K (.ref C_NoNumber) (.type "LookupError") = some true
def sp_is_whole : Sp := fun vs H Q E => ∃ (x : V) (r : Bool), vs = [x] ∧ (IntOr H x r) ∧ ∀ H' : Hp, Same H H' → Q (.bl r) H'
def sp_NoNumber___init__ (C_NoNumber : Addr) : Sp := fun vs H Q E => ∃ (a : Addr) (v : V), vs = [.ref a, v] ∧ (H a = some (exo a C_NoNumber none)) ∧ ∀ d : Addr, H d = none → d ≠ a → Q .non (upd (upd (upd H d (exd d [])) a (exo a C_NoNumber (some d))) d (exd d [(Str.ofString "number", v)]))
def sp_look_at_deeds (C_NoNumber : Addr) : Sp := fun vs H Q E => ∃ (y : V) (m : Int) (r : Bool), vs = [y, .int m] ∧ (Deeds H y m r) ∧ (r = true → ∀ H' : Hp, Same H H' → Q .non H') ∧ (r = false → ∀ (d : Addr) (H' : Hp), Same H H' → H' d = some (.xd [(Str.ofString "number", y)]) → E (.ref C_NoNumber) (some d) H')
def sp_is_between : Sp := fun vs H Q E => ∃ (x : V) (m : Int) (r : Bool), vs = [x, .int 1, .int m] ∧ (Deeds H x m r) ∧ ∀ H' : Hp, Same H H' → Q (.bl r) H'
def sp_look_at_number (C_NoNumber : Addr) : Sp := fun vs H Q E => ∃ (y : V) (m : Int) (r : Bool), vs = [y, .int 1, .int m] ∧ (Deeds H y m r) ∧ (r = true → ∀ H' : Hp, Same H H' → Q .non H') ∧ (r = false → ∀ (d : Addr) (H' : Hp), Same H H' → H' d = some (.xd [(Str.ofString "number", y)]) → E (.ref C_NoNumber) (some d) H')
def sp_ones_in (K : PySem.W.Frag) : Sp := fun vs H Q E => ∃ (m : Nat), vs = [.int (m : Int)] ∧ (m < 64) ∧ ∀ H' : Hp, Same H H' → Q (.int (onesN m : Nat)) H'
def sp_blocks (K : PySem.W.Frag) : Sp := fun vs H Q E => ∃ (R : Addr) (rs : List Addr) (s d n : Nat), vs = [.ref R, .int ((2 * d : Nat) : Int), .int 1, .int (n : Int)] ∧ (H R = some (.lst (rs.map V.ref))) ∧ (RowsAt H rs s (n + 1)) ∧ (1 ≤ d) ∧ (d ≤ 3) ∧ (1 ≤ n) ∧ (n ≤ 40) ∧ ∀ (L : Addr) (H' : Hp), Same H H' → H' L = some (.lst (((List.range (2 ^ (2 * d))).map (blockN s n (rowN s (n - 1)))).map fun x : Nat => V.int (x : Int))) → Q (.ref L) H'
def sp_chosen_many : Sp := fun vs H Q E => ∃ (m s : Nat), vs = [.int (m : Int), .int (s : Int)] ∧ (s ≤ m + 1) ∧ (s ≤ 1000) ∧ (m ≤ 100000) ∧ ∀ H' : Hp, Same H H' → Q (.int (chN m s : Nat)) H'
def sp_ways_on (K : PySem.W.Frag) : Sp := fun vs H Q E => ∃ (n d : Nat), vs = [.int (n : Int), .int (d : Int)] ∧ (n ≤ 40) ∧ (1 ≤ d) ∧ (d ≤ 3) ∧ ∀ (R : Addr) (rs : List Addr) (H' : Hp), Same H H' → H' R = some (.lst (rs.map V.ref)) → RowsAt H' rs (2 * d - 1) (n + 1) → Q (.ref R) H'
def sp_trees_many (K : PySem.W.Frag) (C_NoNumber : Addr) : Sp := fun vs H Q E => ∃ (x y : V) (rx ry : Bool), vs = [x, y] ∧ (Deeds H x 40 rx) ∧ (Deeds H y 3 ry) ∧ (∀ n d : Nat, x = .int (n : Int) → y = .int (d : Int) → rx = true → ry = true → ∀ H' : Hp, Same H H' → Q (.int (treesN n d : Nat)) H') ∧ (ry = false → ∀ (d : Addr) (H' : Hp), Same H H' → H' d = some (.xd [(Str.ofString "number", y)]) → E (.ref C_NoNumber) (some d) H') ∧ (ry = true → rx = false → ∀ (d : Addr) (H' : Hp), Same H H' → H' d = some (.xd [(Str.ofString "number", x)]) → E (.ref C_NoNumber) (some d) H')
def sp_law_chosen : Sp := fun vs H Q E => ∃ (m s : Nat), vs = [.int (m : Int), .int (s : Int)] ∧ (s ≤ m + 1) ∧ (s ≤ 1000) ∧ (m ≤ 100000) ∧ ∀ H' : Hp, Same H H' → Q (.int (chN m s : Nat)) H'
def sp_law_due : Sp := fun vs H Q E => ∃ (n d : Nat), vs = [.int (n : Int), .int (d : Int)] ∧ (1 ≤ n) ∧ (n ≤ 40) ∧ (1 ≤ d) ∧ (d ≤ 3) ∧ ∀ H' : Hp, Same H H' → Q (.int (dueN n d : Nat)) H'
def sp_law_pool (K : PySem.W.Frag) : Sp := fun vs H Q E => ∃ (a : Addr) (ns : List Int) (i : Int), vs = [.ref a, .int i] ∧ (SqL K H a (ns.map V.int)) ∧ (0 ≤ i) ∧ (i < 1000) ∧ ∀ (p : Addr) (H' : Hp), H p = none → Same H H' → Pool H' p → Q (.ref p) H'
def sp_law_take : Sp := fun vs H Q E => ∃ (p : Addr) (m : Int), vs = [.ref p, .int m] ∧ (Pool H p) ∧ (0 < m) ∧ (m < 1267650600228229401496703205376) ∧ ∀ (v : Int) (H' : Hp), 0 ≤ v → v < m → Off p H H' → Pool H' p → Q (.int v) H'
def sp_law_refused (K : PySem.W.Frag) (C_NoNumber : Addr) : Sp := fun vs H Q E => ∃ (x y z : V) (dz : PyData) (rx ry : Bool), vs = [x, y, z] ∧ (Deeds H x 40 rx) ∧ (Deeds H y 3 ry) ∧ ((ry = false ∧ z = y) ∨ (ry = true ∧ rx = false ∧ z = x)) ∧ (Odd K H z dz) ∧ ∀ H' : Hp, Same H H' → Q (.bl true) H'
def sp_law (K : PySem.W.Frag) : Sp := fun vs H Q E => ∃ (a : Addr) (ns : List Int), vs = [.ref a] ∧ (SqL K H a (ns.map V.int)) ∧ (ns.length ≤ 63) ∧ ∀ H', Q (.bl true) H'
section
variable {P : Program} {w : World} {K : PySem.W.Frag} {mg : Str → Option Value} {base : Heap} {C_NoNumber : Addr}
theorem sc_is_whole : FnScope ["thing"] ["thing"] (defScope s_is_whole) := ⟨rfl, rfl, rfl, by decide +kernel, rfl, by decide +kernel, by decide +kernel⟩
theorem ok_is_whole {f : Addr} {fd : FuncData} (F : Fun K "is_whole" "is_whole" s_is_whole f fd) (T : Txt K mg C_NoNumber) : FnOk P w K mg base CX0 1 f fd ["thing"] (sp_is_whole) := by
  refine F.ok sc_is_whole (fun vs H Q E h => ?_) (fun cdv A outer s H vs Q E hr h => ?_)
  · obtain ⟨x, r, rfl, _⟩ := h
    all_goals rfl
  · obtain ⟨x, r, rfl, hx, k⟩ := h
    refine ⟨_, (pss_one (ps_ret (pe_and (pe_callB (call_isiK1 (K := K)) (by rfl) T.b_isinstance (by decide +kernel) (pa_cons (pv 0) (pa_cons (pe_bltn (v := .ty "int") (by rfl) T.b_int (by decide +kernel) rfl) pa_nil))) (pe_one (pe_not (pe_callB (call_isiK1 (K := K)) (by rfl) T.b_isinstance (by decide +kernel) (pa_cons (pv 0) (pa_cons (pe_bltn (v := .ty "bool") (by rfl) T.b_bool (by decide +kernel) rfl) pa_nil)))))))), ?_⟩
    rcases hx with ⟨i, rfl, rfl⟩ | ⟨hx, rfl⟩
    · refine Evl.s_ret (Evl.ev_andV (a := true) (b := true) (Evl.ev_isi (Evl.ev_var rfl) Evl.ev_c (.ty "int") (fun _ _ => .base (.int _)) (kit_ty (r := true) (by decide +kernel)))
        (fun _ => Evl.ev_notV (a := false) (Evl.ev_isi (Evl.ev_var rfl) Evl.ev_c (.ty "bool") (fun _ _ => .base (.int _)) (kit_ty (r := false) (by decide +kernel))))) fun H1 e => k H1 e
    · obtain ⟨t, ht, hk | ⟨hk, hk2⟩⟩ := hx.ty (K := K)
      · exact ⟨_, rfl, x, _, _, _, false, rfl, .ty "int", ht, kit_ty hk, false, rfl, k H (Same.refl H)⟩
      · exact ⟨_, rfl, x, _, _, _, true, rfl, .ty "int", ht, kit_ty hk, true, rfl, ⟨_, rfl, x, _, _, _, true, rfl, .ty "bool", ht, kit_ty hk2, true, rfl, k H (Same.refl H)⟩⟩
theorem sc_NoNumber___init__ : FnScope ["self", "number"] ["self", "number"] (defScope s_NoNumber___init__) := ⟨rfl, rfl, rfl, by decide +kernel, rfl, by decide +kernel, by decide +kernel⟩
theorem ok_NoNumber___init__ {f : Addr} {fd : FuncData} (F : Fun K "__init__" "NoNumber.__init__" s_NoNumber___init__ f fd) (T : Txt K mg C_NoNumber) : FnOk P w K mg base CX0 1 f fd ["self", "number"] (sp_NoNumber___init__ C_NoNumber) := by
  refine F.ok sc_NoNumber___init__ (fun vs H Q E h => ?_) (fun cdv A outer s H vs Q E hr h => ?_)
  · obtain ⟨a, v, rfl, _⟩ := h
    all_goals rfl
  · obtain ⟨a, v, rfl, ha, k⟩ := h
    refine ⟨_, (pss_cons (ps_expr (pe_xi (B := "LookupError") (ni := "LookupError.__new__") (ii := "LookupError.__init__") (bm := [.type "LookupError", .type "Exception", .type "BaseException", .type "object"]) rfl T.b_LookupError (by rfl) (by decide) (by decide) (by kernel_rfl) T.v_LookupError (pa_cons (pv 0) (pa_cons pe_str pa_nil))))
    (pss_one (ps_xs (B := "LookupError") (ni := "LookupError.__new__") (ii := "LookupError.__init__") (bm := [.type "LookupError", .type "Exception", .type "BaseException", .type "object"]) (pv 0) (pv 1)))), ?_⟩
    refine ⟨_, rfl, a, C_NoNumber, [_], rfl, (by show 1 ≤ 1000; decide), T.x_NoNumber.xi, ha, ?_⟩
    exact ⟨_, rfl, _, rfl, a, C_NoNumber, rfl, T.x_NoNumber.xi, taker_none T.y_NoNumber_number, .inl ⟨ha, fun d hd ne => k d hd ne⟩⟩
theorem sc_look_at_deeds : FnScope ["deeds", "most"] ["deeds", "most"] (defScope s_look_at_deeds) := ⟨rfl, rfl, rfl, by decide +kernel, rfl, by decide +kernel, by decide +kernel⟩
theorem ok_look_at_deeds {f : Addr} {fd : FuncData} (F : Fun K "look_at_deeds" "look_at_deeds" s_look_at_deeds f fd) (T : Txt K mg C_NoNumber) (kn_is_whole : KN P w K mg base CX0 1 ["thing"] (sp_is_whole) "is_whole" []) (kn_NoNumber___init__ : KM P w K mg base CX0 1 ["self", "number"] (sp_NoNumber___init__ C_NoNumber) C_NoNumber "__init__" []) : FnOk P w K mg base (L2.CX P w) 3 f fd ["deeds", "most"] (sp_look_at_deeds C_NoNumber) := by
  obtain ⟨f_is_whole, fd_is_whole, ds_is_whole, m_is_whole, k_is_whole, v_is_whole, b_is_whole, G_is_whole⟩ := kn_is_whole
  obtain ⟨f_NoNumber___init__, fd_NoNumber___init__, ds_NoNumber___init__, i_NoNumber___init__, t_NoNumber___init__, fn_NoNumber___init__, k_NoNumber___init__, v_NoNumber___init__, b_NoNumber___init__, G_NoNumber___init__⟩ := kn_NoNumber___init__
  refine F.okX sc_look_at_deeds (fun vs H Q E h => ?_) (fun cdv A outer s H vs Q E hr h => ?_)
  · obtain ⟨y, m, r, rfl, _⟩ := h
    all_goals rfl
  · obtain ⟨y, m, r, rfl, hy, k⟩ := h
    refine ⟨_, (pss_one (ps_if (PW.pt (pw_or (pt_not (pt_val (pe_call G_is_whole (hr.mono (by decide)) rfl m_is_whole k_is_whole b_is_whole v_is_whole pass0 (pa_cons (pv 0) pa_nil)))) (pw_or1 (pt_not (pt_chain op_le op_le pe_int (pv 0) (pv 1)))))) (pss_one (ps_raise rfl (takes_of rfl rfl rfl rfl) (pmk_xi T.x_NoNumber.xi i_NoNumber___init__ t_NoNumber___init__ G_NoNumber___init__ (hr.mono (by decide)) b_NoNumber___init__ v_NoNumber___init__ pass0 rfl T.x_NoNumber.gC (pa_cons (pv 0) pa_nil)))) pss_nil)), ?_⟩
    obtain ⟨k1, k2⟩ := k
    have no : ∀ H1, Same H H1 → r = false → (tMkO C_NoNumber (sp_NoNumber___init__ C_NoNumber) [] (tCons (tVar 0) tNil)) [some y, some (.int m)] H1 E := fun H1 s1 hr => by
      refine ⟨_, rfl, (by show 1 ≤ 1000; decide), fun a ha => ⟨a, y, rfl, upd_same, fun d hd ne => made1 ha (fun d' H' s' h' => k2 hr d' H' (Same.trans s1 s') h') d hd ne⟩⟩
    rcases hy with ⟨i, rfl, rfl⟩ | ⟨hy, rfl⟩
    · refine ⟨_, rfl, _, true, rfl, .inl ⟨i, rfl, rfl⟩, fun H1 s1 => ⟨true, rfl, iteF ?_⟩⟩
      refine ⟨_, rfl, _, _, rfl, rfl, _, rfl, ?_⟩
      by_cases q : 1 ≤ i
      · rw [decide_eq_true q]
        refine iteT ⟨_, rfl, _, _, rfl, rfl, _, rfl, ?_⟩
        by_cases q2 : i ≤ m
        · rw [decide_eq_true q2]
          exact iteF (k1 (decide_eq_true ⟨q, q2⟩) H1 s1)
        · rw [decide_eq_false q2]
          exact iteT (no H1 s1 (decide_eq_false fun z => q2 z.2))
      · rw [decide_eq_false q]
        exact iteF ⟨false, rfl, iteT (no H1 s1 (decide_eq_false fun z => q z.1))⟩
    · exact ⟨_, rfl, _, false, rfl, .inr ⟨hy, rfl⟩, fun H1 s1 => ⟨false, rfl, iteT (no H1 s1 rfl)⟩⟩
theorem sc_is_between : FnScope ["thing", "least", "most"] ["thing", "least", "most"] (defScope s_is_between) := ⟨rfl, rfl, rfl, by decide +kernel, rfl, by decide +kernel, by decide +kernel⟩
theorem ok_is_between {f : Addr} {fd : FuncData} (F : Fun K "is_between" "is_between" s_is_between f fd) (T : Txt K mg C_NoNumber) (kn_is_whole : KN P w K mg base CX0 1 ["thing"] (sp_is_whole) "is_whole" []) : FnOk P w K mg base CX0 2 f fd ["thing", "least", "most"] (sp_is_between) := by
  obtain ⟨f_is_whole, fd_is_whole, ds_is_whole, m_is_whole, k_is_whole, v_is_whole, b_is_whole, G_is_whole⟩ := kn_is_whole
  refine F.ok sc_is_between (fun vs H Q E h => ?_) (fun cdv A outer s H vs Q E hr h => ?_)
  · obtain ⟨x, m, r, rfl, _⟩ := h
    all_goals rfl
  · obtain ⟨x, m, r, rfl, hx, k⟩ := h
    refine ⟨_, (pss_one (ps_ret (pe_and (pe_call G_is_whole (hr.mono (by decide)) rfl m_is_whole k_is_whole b_is_whole v_is_whole pass0 (pa_cons (pv 0) pa_nil)) (pe_one (pe_chain op_le op_le (pv 1) (pv 0) (pv 2)))))), ?_⟩
    rcases hx with ⟨i, rfl, rfl⟩ | ⟨hx, rfl⟩
    · refine ⟨_, rfl, _, true, rfl, .inl ⟨i, rfl, rfl⟩, fun H1 s1 => ⟨true, rfl, iteT ?_⟩⟩
      refine ⟨_, rfl, _, rfl, _, _, rfl, rfl, _, rfl, ?_⟩
      by_cases q : 1 ≤ i
      · rw [decide_eq_true q]
        refine iteT ⟨_, rfl, _, _, rfl, rfl, ?_⟩
        have k := k H1 s1
        rw [show decide (1 ≤ i ∧ i ≤ m) = decide (i ≤ m) from decide_eq_decide.mpr ⟨fun h => h.2, fun h => ⟨q, h⟩⟩] at k
        exact k
      · rw [decide_eq_false q]
        have k := k H1 s1
        rw [decide_eq_false (fun h : 1 ≤ i ∧ i ≤ m => q h.1)] at k
        exact iteF k
    · exact ⟨_, rfl, _, false, rfl, .inr ⟨hx, rfl⟩, fun H1 s1 => ⟨false, rfl, iteF (k H1 s1)⟩⟩
theorem sc_look_at_number : FnScope ["thing", "least", "most"] ["thing", "least", "most"] (defScope s_look_at_number) := ⟨rfl, rfl, rfl, by decide +kernel, rfl, by decide +kernel, by decide +kernel⟩
theorem ok_look_at_number {f : Addr} {fd : FuncData} (F : Fun K "look_at_number" "look_at_number" s_look_at_number f fd) (T : Txt K mg C_NoNumber) (kn_is_between : KN P w K mg base CX0 2 ["thing", "least", "most"] (sp_is_between) "is_between" []) (kn_NoNumber___init__ : KM P w K mg base CX0 1 ["self", "number"] (sp_NoNumber___init__ C_NoNumber) C_NoNumber "__init__" []) : FnOk P w K mg base (L2.CX P w) 3 f fd ["thing", "least", "most"] (sp_look_at_number C_NoNumber) := by
  obtain ⟨f_is_between, fd_is_between, ds_is_between, m_is_between, k_is_between, v_is_between, b_is_between, G_is_between⟩ := kn_is_between
  obtain ⟨f_NoNumber___init__, fd_NoNumber___init__, ds_NoNumber___init__, i_NoNumber___init__, t_NoNumber___init__, fn_NoNumber___init__, k_NoNumber___init__, v_NoNumber___init__, b_NoNumber___init__, G_NoNumber___init__⟩ := kn_NoNumber___init__
  refine F.okX sc_look_at_number (fun vs H Q E h => ?_) (fun cdv A outer s H vs Q E hr h => ?_)
  · obtain ⟨y, m, r, rfl, _⟩ := h
    all_goals rfl
  · obtain ⟨y, m, r, rfl, hy, k⟩ := h
    refine ⟨_, (pss_one (ps_if (pt_not (pt_val (pe_call G_is_between (hr.mono (by decide)) rfl m_is_between k_is_between b_is_between v_is_between pass0 (pa_cons (pv 0) (pa_cons (pv 1) (pa_cons (pv 2) pa_nil)))))) (pss_one (ps_raise rfl (takes_of rfl rfl rfl rfl) (pmk_xi T.x_NoNumber.xi i_NoNumber___init__ t_NoNumber___init__ G_NoNumber___init__ (hr.mono (by decide)) b_NoNumber___init__ v_NoNumber___init__ pass0 rfl T.x_NoNumber.gC (pa_cons (pv 0) pa_nil)))) pss_nil)), ?_⟩
    obtain ⟨k1, k2⟩ := k
    have no : ∀ H1, Same H H1 → r = false → (tMkO C_NoNumber (sp_NoNumber___init__ C_NoNumber) [] (tCons (tVar 0) tNil)) [some y, some (.int 1), some (.int m)] H1 E := fun H1 s1 hr => by
      refine ⟨_, rfl, (by show 1 ≤ 1000; decide), fun a ha => ⟨a, y, rfl, upd_same, fun d hd ne => made1 ha (fun d' H' s' h' => k2 hr d' H' (Same.trans s1 s') h') d hd ne⟩⟩
    refine ⟨_, rfl, _, rfl, _, rfl, y, m, r, rfl, hy, fun H1 s1 => ⟨_, rfl, ?_⟩⟩
    cases r with
    | true => exact iteF (k1 rfl H1 s1)
    | false => exact iteT (no H1 s1 rfl)
theorem sc_ones_in : FnScope ["mark", "at"] ["mark"] (defScope s_ones_in) := ⟨rfl, rfl, rfl, by decide +kernel, rfl, by decide +kernel, by decide +kernel⟩
theorem ok_ones_in {f : Addr} {fd : FuncData} (F : Fun K "ones_in" "ones_in" s_ones_in f fd) (T : Txt K mg C_NoNumber) : FnOk P w K mg base CX0 1 f fd ["mark"] (sp_ones_in K) := by
  refine F.ok sc_ones_in (fun vs H Q E h => ?_) (fun cdv A outer s H vs Q E hr h => ?_)
  · obtain ⟨m, rfl, _⟩ := h
    all_goals rfl
  · obtain ⟨m, rfl, hm, k⟩ := h
    refine ⟨_, (pss_one (ps_ret (pe_callB (cr_sumK (K := K) rfl) (by rfl) T.b_sum (by decide +kernel) (pa_cons (pe_lc (own := [("at", 1)]) (g := gName 1) (tt := tYes) rfl sc_ones_in.nd (pi_range1 (by rfl) T.b_range (pa_cons (pe_bits (pv 0)) pa_nil)) (blkOk_by (own := [("at", 1)]) (N := ["mark", "at"]) (sc := defScope s_ones_in) (by decide +kernel)) (fun _ _ _ _ _ => (pg_name (i := 1) sc_ones_in.nd rfl (Or.inl rfl))) (fun _ _ _ _ _ => pts_nil) (fun _ _ _ _ _ => (pe_op op_and (pe_op op_shr (pv 0) (pv 1)) pe_int))) pa_nil)))), ?_⟩
    have hb := PyProof.Rows.intBits_le (a := (m : Int)) (k := 6) (by omega)
    refine ⟨_, rfl, (m : Int), rfl, _, rfl, by omega, by omega, fun D hD => ?_⟩
    refine lc_range (lo := 0) (n := Builtin.Int.intBits (m : Int)) (fun i H' => H' D = some (.lst (((List.range i).map fun j => Builtin.bitAnd ((m : Int) / 2 ^ j) 1).map V.int)) ∧ Same H H') ⟨upd_same, Same.new hD⟩ ?_ ?_
    · rintro i H1 hi ⟨g, s1⟩
      refine ⟨rfl, _, rfl, _, rfl, _, _, rfl, rfl, by omega, _, _, rfl, rfl, _, g, ?_, ?_, fun b o hb => ?_⟩
      · rw [List.length_map, List.length_map, List.length_range]
        exact Nat.lt_of_lt_of_le (by omega : i < 64) (by decide)
      · rw [upd_same, List.range_succ, List.map_append, List.map_append]
        rw [show (0 + (i : Int)).toNat = i by omega]
        rfl
      · rw [upd_ne (ne_of_none hb hD)]
        exact s1 _ _ hb
    rintro H1 ⟨g, s1⟩
    refine ⟨D, _, rfl, SqL.of g, ?_⟩
    rw [ones_sum m hm]
    exact k H1 s1
theorem sc_blocks : FnScope ["ways_many", "slots", "due_now", "left", "found", "mark", "now"] ["ways_many", "slots", "due_now", "left"] (defScope s_blocks) := ⟨rfl, rfl, rfl, by decide +kernel, rfl, by decide +kernel, by decide +kernel⟩
theorem ok_blocks {f : Addr} {fd : FuncData} (F : Fun K "blocks" "blocks" s_blocks f fd) (T : Txt K mg C_NoNumber) (kn_ones_in : KN P w K mg base CX0 1 ["mark"] (sp_ones_in K) "ones_in" []) : FnOk P w K mg base CX0 2 f fd ["ways_many", "slots", "due_now", "left"] (sp_blocks K) := by
  obtain ⟨f_ones_in, fd_ones_in, ds_ones_in, m_ones_in, k_ones_in, v_ones_in, b_ones_in, G_ones_in⟩ := kn_ones_in
  refine F.ok sc_blocks (fun vs H Q E h => ?_) (fun cdv A outer s H vs Q E hr h => ?_)
  · obtain ⟨R, rs, s, d, n, rfl, _⟩ := h
    all_goals rfl
  · obtain ⟨R, rs, s, d, n, rfl, hR, hr2, h1, h3, n1, n40, k⟩ := h
    refine ⟨_, (pss_cons (ps_set (i := 4) sc_blocks.nd rfl (Or.inl rfl) (pe_lst pa_nil))
    (pss_cons (ps_for PassesOwn.never rfl (pi_range1 (by rfl) T.b_range (pa_cons (pe_op op_shl pe_int (pv 1)) pa_nil)) (pg_name (i := 5) sc_blocks.nd rfl (Or.inl rfl)) (pss_cons (ps_set (i := 6) sc_blocks.nd rfl (Or.inl rfl) (pe_op op_add (pe_op op_sub (pv 2) pe_int) (pe_call G_ones_in (hr.mono (by decide)) rfl m_ones_in k_ones_in b_ones_in v_ones_in pass0 (pa_cons (pv 5) pa_nil))))
    (pss_one (ps_expr (pe_bm PySem.F.plainAttrs_list PySem.F.slot_list_append PySem.F.type_list_append mt_append (pv 4) (pa_cons (pe_ifExp (pt_cmpR op_lt (pv 6) (pv 3) (nomark _)) (pe_ix (ix_listK (K := K)) (pe_ix (ix_listK (K := K)) (pv 0) (pe_op op_sub (pv 3) pe_int) (fun _ _ => rfl)) (pv 6) (fun _ _ => rfl)) pe_int) pa_nil))))))
    (pss_one (ps_ret (pv 4))))), ?_⟩
    have zP : 2 ^ (2 * d) ≤ 64 := by
      match d, h1, h3 with
      | 1, _, _ => decide
      | 2, _, _ => decide
      | 3, _, _ => decide
    have eP : (1 : Int) * 2 ^ ((2 * d : Nat) : Int).toNat = ((2 ^ (2 * d) : Nat) : Int) := by
      rw [Int.one_mul, Int.toNat_natCast, Int.natCast_pow]
      rfl
    have eN : ((1 : Int) * 2 ^ ((2 * d : Nat) : Int).toNat).toNat = 2 ^ (2 * d) := by rw [eP]; rfl
    refine ⟨Nat.zero_le _, fun L hL => ?_⟩
    have s0 := Same.new (o := .lst []) hL
    refine ⟨_, rfl, _, _, rfl, rfl, ⟨by omega, by omega, by decide⟩, (1 : Int) * 2 ^ ((2 * d : Nat) : Int).toNat, rfl, by rw [eP]; omega, by rw [eP]; omega, for_range (lo := 0) (n := ((1 : Int) * 2 ^ ((2 * d : Nat) : Int).toNat).toNat) (fun i σ H' => ∃ x5 x6, σ = [some (.ref R), some (.int ((2 * d : Nat) : Int)), some (.int 1), some (.int (n : Int)), some (.ref L), x5, x6] ∧ Same H H' ∧ H' L = some (.lst (((List.range i).map (blockN s n (rowN s (n - 1)))).map fun x : Nat => V.int (x : Int)))) ⟨_, _, rfl, s0, upd_same⟩ ?_ ?_⟩
    · rintro i σ H1 hi ⟨x5, x6, rfl, s1, g⟩
      rw [eN] at hi
      have hm : i < 64 := by omega
      rw [show (0 : Int) + (i : Nat) = (i : Int) by omega]
      refine ⟨_, rfl, _, _, rfl, rfl, _, rfl, i, rfl, hm, fun H2 s2 => ⟨_, _, rfl, rfl, ?_⟩⟩
      try dsimp only
      rw [show (1 : Int) - 1 + ((onesN i : Nat) : Int) = ((onesN i : Nat) : Int) by omega]
      have g2 := s2 _ _ g
      have s12 := Same.trans s1 s2
      have fin : ∀ v : Nat, blockN s n (rowN s (n - 1)) i = v → (upd H2 L (.lst ((((List.range i).map (blockN s n (rowN s (n - 1)))).map fun x : Nat => V.int (x : Int)) ++ [.int (v : Int)]))) L = some (.lst (((List.range (i + 1)).map (blockN s n (rowN s (n - 1)))).map fun x : Nat => V.int (x : Int))) := fun v e => by
        rw [upd_same, List.range_succ, List.map_append, List.map_append, ← e]
        rfl
      have zl : (((List.range i).map (blockN s n (rowN s (n - 1)))).map fun x : Nat => V.int (x : Int)).length < sizeLine := by
        rw [List.length_map, List.length_map, List.length_range]
        exact Nat.lt_of_lt_of_le hm (by decide)
      have sa : ∀ o, Same H (upd H2 L o) := fun o b u hb => by
        rw [upd_ne (ne_of_none hb hL)]
        exact s12 _ _ hb
      refine ⟨_, rfl, .inl ⟨rfl, _, SqL.of g2⟩, _, rfl, _, rfl, _, _, rfl, rfl, _, rfl, ?_⟩
      by_cases q : onesN i < n
      · rw [decide_eq_true (by omega : ((onesN i : Nat) : Int) < (n : Int))]
        obtain ⟨a, e1, e2, e3⟩ := row_at (j := onesN i) (hr2.same s12) (by omega : n - 1 < n + 1) (by omega)
        have en : (n : Int) - 1 = ((n - 1 : Nat) : Int) := by omega
        refine iteT ⟨_, rfl, _, rfl, _, _, rfl, rfl, R, rs.map V.ref, (n : Int) - 1, .ref a, rfl, rfl, SqL.of (s12 _ _ hR), by rw [en]; exact atI_nat e1, _, rfl, a, _, _, _, rfl, rfl, SqL.of e2, atI_nat e3, L, _, _, rfl, rfl, g2, zl, _, _, rfl, sa _, fin _ ?_⟩
        unfold blockN
        rw [if_pos q]
      · rw [decide_eq_false (by omega : ¬ ((onesN i : Nat) : Int) < (n : Int))]
        refine iteF ⟨L, _, _, rfl, rfl, g2, zl, _, _, rfl, sa _, fin 0 ?_⟩
        unfold blockN
        rw [if_neg q]
    rintro σ H1 ⟨x5, x6, rfl, s1, g⟩
    rw [eN] at g
    exact ⟨_, rfl, k L H1 s1 g⟩
theorem sc_chosen_many : FnScope ["many", "some", "found", "number"] ["many", "some"] (defScope s_chosen_many) := ⟨rfl, rfl, rfl, by decide +kernel, rfl, by decide +kernel, by decide +kernel⟩
theorem ok_chosen_many {f : Addr} {fd : FuncData} (F : Fun K "chosen_many" "chosen_many" s_chosen_many f fd) (T : Txt K mg C_NoNumber) : FnOk P w K mg base CX0 1 f fd ["many", "some"] (sp_chosen_many) := by
  refine F.ok sc_chosen_many (fun vs H Q E h => ?_) (fun cdv A outer s H vs Q E hr h => ?_)
  · obtain ⟨m, s, rfl, _⟩ := h
    all_goals rfl
  · obtain ⟨m, s, rfl, hs, hz, hm, k⟩ := h
    refine ⟨_, (pss_cons (ps_set (i := 2) sc_chosen_many.nd rfl (Or.inl rfl) pe_int)
    (pss_cons (ps_for PassesOwn.never rfl (pi_range1 (by rfl) T.b_range (pa_cons (pv 1) pa_nil)) (pg_name (i := 3) sc_chosen_many.nd rfl (Or.inl rfl)) (pss_one (ps_set (i := 2) sc_chosen_many.nd rfl (Or.inl rfl) (pe_op op_fdiv (pe_op op_mul (pv 2) (pe_op op_sub (pv 0) (pv 3))) (pe_op op_add (pv 3) pe_int)))))
    (pss_one (ps_ret (pv 2))))), ?_⟩
    refine ⟨_, rfl, _, rfl, by omega, by omega, for_range (lo := 0) (n := s) (fun i σ H' => ∃ x3, σ = [some (.int (m : Int)), some (.int (s : Int)), some (.int (chN m i : Nat)), x3] ∧ Same H H') ⟨_, rfl, Same.refl _⟩ ?_ ?_⟩
    · rintro i σ H1 hi ⟨x3, rfl, s1⟩
      refine ⟨_, rfl, _, rfl, _, rfl, _, _, rfl, rfl, _, _, rfl, rfl, .inr ⟨by omega, by omega⟩, _, rfl, _, _, rfl, rfl, _, _, rfl, rfl, ⟨by omega, by omega⟩, ?_⟩
      try dsimp only
      rw [ch_step (by omega)]
      exact ⟨_, rfl, s1⟩
    rintro σ H1 ⟨x3, rfl, s1⟩
    exact ⟨_, rfl, k H1 s1⟩
theorem sc_ways_on : FnScope ["many", "deeds", "rows", "slots", "left", "found", "due_now", "total", "more"] ["many", "deeds"] (defScope s_ways_on) := ⟨rfl, rfl, rfl, by decide +kernel, rfl, by decide +kernel, by decide +kernel⟩
theorem ok_ways_on {f : Addr} {fd : FuncData} (F : Fun K "ways_on" "ways_on" s_ways_on f fd) (T : Txt K mg C_NoNumber) (kn_chosen_many : KN P w K mg base CX0 1 ["many", "some"] (sp_chosen_many) "chosen_many" []) : FnOk P w K mg base CX0 2 f fd ["many", "deeds"] (sp_ways_on K) := by
  obtain ⟨f_chosen_many, fd_chosen_many, ds_chosen_many, m_chosen_many, k_chosen_many, v_chosen_many, b_chosen_many, G_chosen_many⟩ := kn_chosen_many
  refine F.ok sc_ways_on (fun vs H Q E h => ?_) (fun cdv A outer s H vs Q E hr h => ?_)
  · obtain ⟨n, d, rfl, _⟩ := h
    all_goals rfl
  · obtain ⟨n, d, rfl, hn, h1, h3, k⟩ := h
    refine ⟨_, (pss_cons (ps_set (i := 2) sc_ways_on.nd rfl (Or.inl rfl) (pe_lst (pa_cons (pe_lst (pa_cons pe_int pa_nil)) pa_nil)))
    (pss_cons (ps_set (i := 3) sc_ways_on.nd rfl (Or.inl rfl) (pe_op op_sub (pe_op op_mul pe_int (pv 1)) pe_int))
    (pss_cons (ps_for PassesOwn.never rfl (pi_range2 (by rfl) T.b_range (pa_cons pe_int (pa_cons (pe_op op_add (pv 0) pe_int) pa_nil))) (pg_name (i := 4) sc_ways_on.nd rfl (Or.inl rfl)) (pss_cons (ps_set (i := 5) sc_ways_on.nd rfl (Or.inl rfl) (pe_lst (pa_cons pe_int pa_nil)))
    (pss_cons (ps_for PassesOwn.never rfl (pi_range2 (by rfl) T.b_range (pa_cons pe_int (pa_cons (pe_op op_add (pv 4) pe_int) pa_nil))) (pg_name (i := 6) sc_ways_on.nd rfl (Or.inl rfl)) (pss_cons (ps_set (i := 7) sc_ways_on.nd rfl (Or.inl rfl) pe_int)
    (pss_cons (ps_for PassesOwn.never rfl (pi_range1 (by rfl) T.b_range (pa_cons (pe_op op_add (pe_callB (call_min2 rfl) (by rfl) T.b_min (by decide +kernel) (pa_cons (pv 3) (pa_cons (pe_op op_sub (pv 4) (pv 6)) pa_nil))) pe_int) pa_nil)) (pg_name (i := 8) sc_ways_on.nd rfl (Or.inl rfl)) (pss_one (ps_aug (i := 7) sc_ways_on.nd rfl (Or.inl rfl) (pe_op op_mul (pe_call G_chosen_many (hr.mono (by decide)) rfl m_chosen_many k_chosen_many b_chosen_many v_chosen_many pass0 (pa_cons (pv 3) (pa_cons (pv 8) pa_nil))) (pe_ix (ix_listK (K := K)) (pe_ix (ix_listK (K := K)) (pv 2) (pe_op op_sub (pv 4) pe_int) (fun _ _ => rfl)) (pe_op op_add (pe_op op_sub (pv 6) pe_int) (pv 8)) (fun _ _ => rfl))) iop_add)))
    (pss_one (ps_expr (pe_bm PySem.F.plainAttrs_list PySem.F.slot_list_append PySem.F.type_list_append mt_append (pv 5) (pa_cons (pv 7) pa_nil)))))))
    (pss_one (ps_expr (pe_bm PySem.F.plainAttrs_list PySem.F.slot_list_append PySem.F.type_list_append mt_append (pv 2) (pa_cons (pv 5) pa_nil)))))))
    (pss_one (ps_ret (pv 2)))))), ?_⟩
    refine ⟨by show 1 ≤ sizeLine; decide, fun A0 hA0 => ⟨by show 1 ≤ sizeLine; decide, fun R hR => ?_⟩⟩
    have q0 := Same.new (o := .lst [.int 1]) hA0
    have gA0 : (upd H A0 (.lst [.int 1])) A0 = some (.lst ((rowN (2 * d - 1) 0).map fun x : Nat => V.int (x : Int))) := upd_same
    have hRH := Same.free q0 hR
    have q1 := Same.new (o := .lst [.ref A0]) hR
    have gA1 := q1 _ _ gA0
    have gR1 : (upd (upd H A0 (.lst [.int 1])) R (.lst [.ref A0])) R = some (.lst ([A0].map V.ref)) := upd_same
    have s1 := Same.trans q0 q1
    generalize upd (upd H A0 (.lst [.int 1])) R (.lst [.ref A0]) = H1 at *
    have ra : RowsAt H1 [A0] (2 * d - 1) 1 := ⟨rfl, fun i a e => by
      match i, e with
      | 0, e => injection e with e; subst e; exact gA1⟩
    refine ⟨_, rfl, _, _, rfl, rfl, .inl ⟨by decide, by decide⟩, _, _, rfl, rfl, ?_⟩
    have es : 2 * (d : Int) - 1 = ((2 * d - 1 : Nat) : Int) := by omega
    have zs : 2 * d - 1 < 6 := by omega
    have zs1 : 1 ≤ 2 * d - 1 := by omega
    generalize 2 * d - 1 = s at *
    clear q0 q1 gA0 gA1
    have eO : ((n : Int) + 1 - 1).toNat = n := by omega
    refine ⟨_, rfl, _, _, rfl, rfl, 1, (n : Int) + 1, rfl, ⟨by decide, by decide, by omega, by omega⟩, for_range (lo := 1) (n := ((n : Int) + 1 - 1).toNat) (fun i σ H' => ∃ (rs : List Addr) (x4 x5 x6 x7 x8 : Option V), σ = [some (.int (n : Int)), some (.int (d : Int)), some (.ref R), some (.int (2 * (d : Int) - 1)), x4, x5, x6, x7, x8] ∧ H' R = some (.lst (rs.map V.ref)) ∧ RowsAt H' rs s (i + 1) ∧ Same H H')
      ⟨[A0], _, _, _, _, _, rfl, gR1, ra, s1⟩ ?_ ?_⟩
    rotate_left
    · rintro σ H2 ⟨rs, x4, x5, x6, x7, x8, rfl, gR, ra, s2⟩
      rw [eO] at ra
      exact ⟨_, rfl, k R rs H2 s2 gR ra⟩
    rintro i σ H2 hi ⟨rs, x4, x5, x6, x7, x8, rfl, gR, ra, s2⟩
    rw [eO] at hi
    refine ⟨by show 1 ≤ sizeLine; decide, fun F hF => ?_⟩
    have t0 := Same.new (o := .lst [.int 0]) hF
    have gF0 : (upd H2 F (.lst [.int 0])) F = some (.lst ((0 :: (List.range 0).map fun e => totN s (rowN s i) e i).map fun x : Nat => V.int (x : Int))) := upd_same
    generalize upd H2 F (.lst [.int 0]) = H3 at *
    have eM : ((1 + (i : Int)) + 1 - 1).toNat = i + 1 := by omega
    have hl := ra.len
    refine ⟨_, rfl, _, _, rfl, rfl, 1, (1 + (i : Int)) + 1, rfl, ⟨by decide, by decide, by omega, by omega⟩, for_range (lo := 1) (n := ((1 + (i : Int)) + 1 - 1).toNat) (fun j σ H' => ∃ x6 x7 x8 : Option V, σ = [some (.int (n : Int)), some (.int (d : Int)), some (.ref R), some (.int (2 * (d : Int) - 1)), some (.int (1 + (i : Int))), some (.ref F), x6, x7, x8] ∧ Same H2 H' ∧ H' F = some (.lst ((0 :: (List.range j).map fun e => totN s (rowN s i) e i).map fun x : Nat => V.int (x : Int))))
      ⟨_, _, _, rfl, t0, gF0⟩ ?_ ?_⟩
    rotate_left
    · rintro σ H4 ⟨x6, x7, x8, rfl, t4, gF⟩
      rw [eM] at gF
      have gR4 := t4 _ _ gR
      refine ⟨_, rfl, .inl ⟨rfl, _, SqL.of gR4⟩, _, rfl, R, _, _, rfl, rfl, gR4, by rw [List.length_map, hl]; exact Nat.lt_of_le_of_lt (by omega : _ ≤ 100) (by decide), rs ++ [F], _, _, _, _, _, rfl, ?_, (ra.same t4).more ⟨rs, gR4, by omega⟩ gF, fun b o hb => ?_⟩
      · rw [upd_same, List.map_append]
        rfl
      · rw [upd_ne (ne_of_none hb hRH)]
        exact t4 _ _ (s2 _ _ hb)
    rintro j σ H4 hj ⟨x6, x7, x8, rfl, t4, gF⟩
    rw [eM] at hj
    have eI : ((if (1 + (i : Int)) - (1 + (j : Int)) < 2 * (d : Int) - 1 then (1 + (i : Int)) - (1 + (j : Int)) else 2 * (d : Int) - 1) + 1).toNat = min s (i - j) + 1 := by
      split <;> omega
    refine ⟨_, rfl, _, rfl, _, rfl, _, _, rfl, rfl, _, _, rfl, _, _, rfl, rfl, (if (1 + (i : Int)) - (1 + (j : Int)) < 2 * (d : Int) - 1 then (1 + (i : Int)) - (1 + (j : Int)) else 2 * (d : Int) - 1) + 1, rfl, by split <;> omega, by split <;> omega, for_range (lo := 0) (n := ((if (1 + (i : Int)) - (1 + (j : Int)) < 2 * (d : Int) - 1 then (1 + (i : Int)) - (1 + (j : Int)) else 2 * (d : Int) - 1) + 1).toNat) (fun m σ H' => ∃ x8 : Option V, σ = [some (.int (n : Int)), some (.int (d : Int)), some (.ref R), some (.int (2 * (d : Int) - 1)), some (.int (1 + (i : Int))), some (.ref F), some (.int (1 + (j : Int))), some (.int (partN s (rowN s i) j m : Nat)), x8] ∧ Same H2 H' ∧ H' F = some (.lst ((0 :: (List.range j).map fun e => totN s (rowN s i) e i).map fun x : Nat => V.int (x : Int))))
      ⟨_, rfl, t4, gF⟩ ?_ ?_⟩
    rotate_left
    · rintro σ H5 ⟨x8, rfl, t5, gF⟩
      rw [eI]
      have nF : ∀ b o, H2 b = some o → b ≠ F := fun b o hb => ne_of_none hb hF
      refine ⟨_, rfl, .inl ⟨rfl, _, SqL.of gF⟩, _, rfl, F, _, _, rfl, rfl, gF, ?_, _, _, _, rfl, fun b o hb => ?_, ?_⟩
      · rw [List.length_map, List.length_cons, List.length_map, List.length_range]
        exact Nat.lt_of_le_of_lt (by omega : _ ≤ 100) (by decide)
      · rw [upd_ne (nF _ _ hb)]
        exact t5 _ _ hb
      · rw [upd_same, List.range_succ, List.map_append, ← List.cons_append, List.map_append]
        rfl
    rintro m σ H5 hm ⟨x8, rfl, t5, gF⟩
    rw [eI] at hm
    rw [show (0 : Int) + (m : Nat) = (m : Int) by omega]
    have zm : m ≤ s := by omega
    refine ⟨_, rfl, _, rfl, _, rfl, s, m, by show [V.int (2 * (d : Int) - 1), V.int (m : Int)] = _; rw [es], by omega, by omega, by omega, fun H6 s6 => ?_⟩
    have t6 := Same.trans t5 s6
    have gF := s6 _ _ gF
    obtain ⟨a, e1, e2, e3⟩ := row_at (j := j + m) (ra.same t6) (by omega : i < i + 1) (by omega)
    have ei : (1 + (i : Int)) - 1 = ((i : Nat) : Int) := by omega
    have ej : (1 + (j : Int)) - 1 + (m : Int) = ((j + m : Nat) : Int) := by omega
    have zc := ch_small s zs m (by omega)
    refine ⟨_, rfl, _, rfl, _, _, rfl, rfl, R, rs.map V.ref, (1 + (i : Int)) - 1, .ref a, rfl, rfl, SqL.of (t6 _ _ gR), by rw [ei]; exact atI_nat e1, ?_⟩
    refine ⟨_, rfl, _, _, rfl, rfl, _, rfl, _, _, rfl, rfl, a, _, (1 + (j : Int)) - 1 + (m : Int), .int (((rowN s i).getD (j + m) 0 : Nat) : Int), rfl, rfl, SqL.of e2, by rw [ej]; exact atI_nat e3, ?_⟩
    refine ⟨_, _, rfl, rfl, .inl ⟨by omega, by omega⟩, _, _, rfl, rfl, some (.int (m : Int)), ?_, t6, gF⟩
    have ev : ((partN s (rowN s i) j (m + 1) : Nat) : Int) = ((partN s (rowN s i) j m : Nat) : Int) + ((chN s m : Nat) : Int) * (((rowN s i).getD (j + m) 0 : Nat) : Int) := by rw [partN_succ, Int.natCast_add, Int.natCast_mul]
    rw [ev]
    rfl
theorem sc_trees_many : FnScope ["places", "deeds"] ["places", "deeds"] (defScope s_trees_many) := ⟨rfl, rfl, rfl, by decide +kernel, rfl, by decide +kernel, by decide +kernel⟩
theorem ok_trees_many {f : Addr} {fd : FuncData} (F : FunD K "trees_many" "trees_many" (defArgs s_trees_many) (defBody s_trees_many) (defScope s_trees_many) [.int 2] [] f fd) (T : Txt K mg C_NoNumber) (kn_look_at_deeds : KN P w K mg base (L2.CX P w) 3 ["deeds", "most"] (sp_look_at_deeds C_NoNumber) "look_at_deeds" []) (kn_look_at_number : KN P w K mg base (L2.CX P w) 3 ["thing", "least", "most"] (sp_look_at_number C_NoNumber) "look_at_number" []) (kn_blocks : KN P w K mg base CX0 2 ["ways_many", "slots", "due_now", "left"] (sp_blocks K) "blocks" []) (kn_ways_on : KN P w K mg base CX0 2 ["many", "deeds"] (sp_ways_on K) "ways_on" []) : FnOk P w K mg base (L2.CX P w) 4 f fd ["places", "deeds"] (sp_trees_many K C_NoNumber) := by
  obtain ⟨f_look_at_deeds, fd_look_at_deeds, ds_look_at_deeds, m_look_at_deeds, k_look_at_deeds, v_look_at_deeds, b_look_at_deeds, G_look_at_deeds⟩ := kn_look_at_deeds
  obtain ⟨f_look_at_number, fd_look_at_number, ds_look_at_number, m_look_at_number, k_look_at_number, v_look_at_number, b_look_at_number, G_look_at_number⟩ := kn_look_at_number
  obtain ⟨f_blocks, fd_blocks, ds_blocks, m_blocks, k_blocks, v_blocks, b_blocks, G_blocks⟩ := kn_blocks
  obtain ⟨f_ways_on, fd_ways_on, ds_ways_on, m_ways_on, k_ways_on, v_ways_on, b_ways_on, G_ways_on⟩ := kn_ways_on
  refine F.ok sc_trees_many (fun vs H Q E h => ?_) (fun cdv A outer s H vs Q E hr h => ?_)
  · obtain ⟨x, y, rx, ry, rfl, _⟩ := h
    all_goals rfl
  · obtain ⟨x, y, rx, ry, rfl, hx, hy, k⟩ := h
    refine ⟨_, (pss_cons (ps_expr (pe_call G_look_at_deeds (hr.mono (by decide)) rfl m_look_at_deeds k_look_at_deeds b_look_at_deeds v_look_at_deeds (passes_call (E := E) (takes_of rfl rfl rfl rfl) (fun _ _ _ _ h => h)) (pa_cons (pv 1) (pa_cons (pe_globC T.g_MOST_DEEDS) pa_nil))))
    (pss_cons (ps_expr (pe_call G_look_at_number (hr.mono (by decide)) rfl m_look_at_number k_look_at_number b_look_at_number v_look_at_number (passes_call (E := E) (takes_of rfl rfl rfl rfl) (fun _ _ _ _ h => h)) (pa_cons (pv 0) (pa_cons pe_int (pa_cons (pe_globC T.g_MOST_TREE) pa_nil)))))
    (pss_one (ps_ret (pe_callB (cr_sumK (K := K) rfl) (by rfl) T.b_sum (by decide +kernel) (pa_cons (pe_call G_blocks (hr.mono (by decide)) rfl m_blocks k_blocks b_blocks v_blocks pass0 (pa_cons (pe_call G_ways_on (hr.mono (by decide)) rfl m_ways_on k_ways_on b_ways_on v_ways_on pass0 (pa_cons (pv 0) (pa_cons (pv 1) pa_nil))) (pa_cons (pe_op op_mul pe_int (pv 1)) (pa_cons pe_int (pa_cons (pv 0) pa_nil))))) pa_nil)))))), ?_⟩
    obtain ⟨k1, k2, k3⟩ := k
    refine ⟨_, rfl, y, 3, ry, rfl, hy, ⟨fun ey H1 s1 => ?_, fun ey d H1 s1 hd => k2 ey d H1 s1 hd⟩⟩
    refine ⟨_, rfl, x, 40, rx, rfl, hx.same s1, ⟨fun ex H2 s2 => ?_, fun ex d H2 s2 hd => k3 ey ex d H2 (Same.trans s1 s2) hd⟩⟩
    have s12 := Same.trans s1 s2
    subst ex ey
    obtain ⟨n, rfl, n1, n40⟩ : ∃ n : Nat, x = .int (n : Int) ∧ 1 ≤ n ∧ n ≤ 40 := by
      rcases hx with ⟨i, rfl, e⟩ | ⟨_, h⟩
      · have := of_decide_eq_true e.symm
        exact ⟨i.toNat, by congr 1; omega, by omega, by omega⟩
      · cases h
    obtain ⟨d, rfl, d1, d3⟩ : ∃ d : Nat, y = .int (d : Int) ∧ 1 ≤ d ∧ d ≤ 3 := by
      rcases hy with ⟨i, rfl, e⟩ | ⟨_, h⟩
      · have := of_decide_eq_true e.symm
        exact ⟨i.toNat, by congr 1; omega, by omega, by omega⟩
      · cases h
    refine ⟨_, rfl, _, rfl, n, d, rfl, n40, d1, d3, fun R rs H3 s3 gR ra => ?_⟩
    refine ⟨_, rfl, _, _, rfl, rfl, .inl ⟨by decide, by decide⟩, _, rfl, R, rs, 2 * d - 1, d, n, ?_, gR, ra, d1, d3, n1, n40, fun L H4 s4 gL => ?_⟩
    · show [V.ref R, V.int (2 * (d : Int)), V.int 1, V.int (n : Int)] = _
      rw [show 2 * (d : Int) = ((2 * d : Nat) : Int) by omega]
    refine ⟨L, ((List.range (2 ^ (2 * d))).map (blockN (2 * d - 1) n (rowN (2 * d - 1) (n - 1)))).map (fun x : Nat => (x : Int)), rfl, SqL.of (by rw [List.map_map (g := V.int)]; exact gL), ?_⟩
    rw [sum_int]
    exact k1 n d rfl rfl rfl rfl H4 (Same.trans s12 (Same.trans s3 s4))
theorem sc_law_chosen : FnScope ["_law_many", "_law_some", "_law_found", "_law_k"] ["_law_many", "_law_some"] (defScope s_law_chosen) := ⟨rfl, rfl, rfl, by decide +kernel, rfl, by decide +kernel, by decide +kernel⟩
theorem ok_law_chosen {f : Addr} {fd : FuncData} (F : Fun K "_law_chosen" "_law_chosen" s_law_chosen f fd) (T : Txt K mg C_NoNumber) : FnOk P w K mg base CX0 1 f fd ["_law_many", "_law_some"] (sp_law_chosen) := by
  refine F.ok sc_law_chosen (fun vs H Q E h => ?_) (fun cdv A outer s H vs Q E hr h => ?_)
  · obtain ⟨m, s, rfl, _⟩ := h
    all_goals rfl
  · obtain ⟨m, s, rfl, hs, hz, hm, k⟩ := h
    refine ⟨_, (pss_cons (ps_set (i := 2) sc_law_chosen.nd rfl (Or.inl rfl) pe_int)
    (pss_cons (ps_for PassesOwn.never rfl (pi_range1 (by rfl) T.b_range (pa_cons (pv 1) pa_nil)) (pg_name (i := 3) sc_law_chosen.nd rfl (Or.inl rfl)) (pss_one (ps_set (i := 2) sc_law_chosen.nd rfl (Or.inl rfl) (pe_op op_fdiv (pe_op op_mul (pv 2) (pe_op op_sub (pv 0) (pv 3))) (pe_op op_add (pv 3) pe_int)))))
    (pss_one (ps_ret (pv 2))))), ?_⟩
    refine ⟨_, rfl, _, rfl, by omega, by omega, for_range (lo := 0) (n := s) (fun i σ H' => ∃ x3, σ = [some (.int (m : Int)), some (.int (s : Int)), some (.int (chN m i : Nat)), x3] ∧ Same H H') ⟨_, rfl, Same.refl _⟩ ?_ ?_⟩
    · rintro i σ H1 hi ⟨x3, rfl, s1⟩
      refine ⟨_, rfl, _, rfl, _, rfl, _, _, rfl, rfl, _, _, rfl, rfl, .inr ⟨by omega, by omega⟩, _, rfl, _, _, rfl, rfl, _, _, rfl, rfl, ⟨by omega, by omega⟩, ?_⟩
      try dsimp only
      rw [ch_step (by omega)]
      exact ⟨_, rfl, s1⟩
    rintro σ H1 ⟨x3, rfl, s1⟩
    exact ⟨_, rfl, k H1 s1⟩
theorem sc_law_due : FnScope ["_law_size", "_law_few"] ["_law_size", "_law_few"] (defScope s_law_due) := ⟨rfl, rfl, rfl, by decide +kernel, rfl, by decide +kernel, by decide +kernel⟩
theorem ok_law_due {f : Addr} {fd : FuncData} (F : Fun K "_law_due" "_law_due" s_law_due f fd) (T : Txt K mg C_NoNumber) (kn_law_chosen : KN P w K mg base CX0 1 ["_law_many", "_law_some"] (sp_law_chosen) "_law_chosen" []) : FnOk P w K mg base CX0 2 f fd ["_law_size", "_law_few"] (sp_law_due) := by
  obtain ⟨f_law_chosen, fd_law_chosen, ds_law_chosen, m_law_chosen, k_law_chosen, v_law_chosen, b_law_chosen, G_law_chosen⟩ := kn_law_chosen
  refine F.ok sc_law_due (fun vs H Q E h => ?_) (fun cdv A outer s H vs Q E hr h => ?_)
  · obtain ⟨n, d, rfl, _⟩ := h
    all_goals rfl
  · obtain ⟨n, d, rfl, n1, n40, h1, h3, k⟩ := h
    refine ⟨_, (pss_one (ps_ret (pe_op op_fdiv (pe_op op_mul (pe_op op_mul pe_int (pv 1)) (pe_call G_law_chosen (hr.mono (by decide)) rfl m_law_chosen k_law_chosen b_law_chosen v_law_chosen pass0 (pa_cons (pe_op op_mul (pe_op op_sub (pe_op op_mul pe_int (pv 1)) pe_int) (pv 0)) (pa_cons (pe_op op_sub (pv 0) pe_int) pa_nil)))) (pe_op op_add (pe_op op_mul (pe_op op_sub (pe_op op_mul pe_int (pv 1)) pe_int) (pv 0)) pe_int)))), ?_⟩
    refine ⟨_, rfl, _, _, rfl, rfl, .inl ⟨by decide, by decide⟩, _, rfl, _, _, rfl, rfl, .inl ⟨by decide, by decide⟩, _, _, rfl, rfl, _, rfl, _, _, rfl, rfl, .inr ⟨by omega, by omega⟩, _, rfl, _, _, rfl, rfl, ?_⟩
    have e1 : (2 * (d : Int) - 1) * (n : Int) = (((2 * d - 1) * n : Nat) : Int) := by
      rw [Int.natCast_mul]
      congr 1
      omega
    have e2 : (n : Int) - 1 = ((n - 1 : Nat) : Int) := by omega
    have e3 : (2 * (d : Int) - 2) * (n : Int) = (((2 * d - 2) * n : Nat) : Int) := by
      rw [Int.natCast_mul]
      congr 1
      omega
    have zm : n ≤ (2 * d - 1) * n := Nat.le_mul_of_pos_left n (by omega)
    have zd : (2 * d - 2) * n ≤ 4 * 40 := Nat.mul_le_mul (by omega) n40
    have zw : (2 * d - 1) * n ≤ 5 * 40 := Nat.mul_le_mul (by omega) n40
    refine ⟨(2 * d - 1) * n, n - 1, ?_, by omega, by omega, by omega, fun H1 s1 => ?_⟩
    · show [V.int ((2 * (d : Int) - 1) * (n : Int)), V.int ((n : Int) - 1)] = _
      rw [e1, e2]
    refine ⟨_, _, rfl, rfl, .inl ⟨by omega, by omega⟩, _, rfl, _, _, rfl, rfl, .inl ⟨by decide, by decide⟩, _, _, rfl, rfl, _, rfl, _, _, rfl, rfl, .inr ⟨by omega, by omega⟩, _, _, rfl, rfl, _, _, rfl, rfl, ⟨by rw [e3]; omega, by rw [e3]; omega⟩, ?_⟩
    have e4 : 2 * (d : Int) * (chN ((2 * d - 1) * n) (n - 1) : Nat) / ((2 * (d : Int) - 2) * (n : Int) + 2) = (dueN n d : Nat) := by
      rw [e3]
      unfold dueN
      rw [Int.natCast_ediv, Int.natCast_mul, Int.natCast_mul, Int.natCast_add]
      rfl
    try dsimp only
    rw [e4]
    exact k H1 s1
theorem sc_law_pool : FnScope ["_law_script", "_law_k", "_law_cell", "_law_number"] ["_law_script", "_law_k"] (defScope s_law_pool) := ⟨rfl, rfl, rfl, by decide +kernel, rfl, by decide +kernel, by decide +kernel⟩
theorem ok_law_pool {f : Addr} {fd : FuncData} (F : Fun K "_law_pool" "_law_pool" s_law_pool f fd) (T : Txt K mg C_NoNumber) : FnOk P w K mg base CX0 1 f fd ["_law_script", "_law_k"] (sp_law_pool K) := by
  refine F.ok sc_law_pool (fun vs H Q E h => ?_) (fun cdv A outer s H vs Q E hr h => ?_)
  · obtain ⟨a, ns, i, rfl, _⟩ := h
    all_goals rfl
  · obtain ⟨a, ns, i, rfl, ha, h0, h1, k⟩ := h
    refine ⟨_, (pss_cons (ps_set (i := 2) sc_law_pool.nd rfl (Or.inl rfl) pe_int)
    (pss_cons (ps_if (pt_cmpR op_lt (pv 1) (pe_callB (call_lenK (K := K)) (by rfl) T.b_len (by decide +kernel) (pa_cons (pv 0) pa_nil)) (nomark _)) (pss_one (ps_set (i := 2) sc_law_pool.nd rfl (Or.inl rfl) (pe_ix (ix_listK (K := K)) (pv 0) (pv 1) (fun _ _ => rfl)))) pss_nil)
    (pss_cons (ps_set (i := 3) sc_law_pool.nd rfl (Or.inl rfl) (pe_op op_mod (pe_op op_pow (pe_op op_add (pe_op op_add (pe_op op_mod (pv 2) pe_int) (pe_op op_mul (pe_op op_mul pe_int (pv 1)) (pv 1))) pe_int) pe_int) pe_int))
    (pss_cons (ps_if (pt_cmpR op_lt (pv 2) (pe_op op_pow pe_int pe_int) (nomark _)) (pss_one (ps_set (i := 2) sc_law_pool.nd rfl (Or.inl rfl) pe_int)) pss_nil)
    (pss_one (ps_ret (pe_lst (pa_cons (pv 2) (pa_cons (pv 3) pa_nil))))))))), ?_⟩
    have go : ∀ c : Int, tSeq (tAsg (tOp (rI (fun x j => 0 < j) fun i j => V.int (i % j))
                (tOp (rI CPow fun i j => V.int (i ^ j.toNat))
                  (tOp (rI0 fun i j => V.int (i + j))
                    (tOp (rI0 fun i j => V.int (i + j))
                      (tOp (rI (fun x j => 0 < j) fun i j => V.int (i % j)) (tVar 2) (tC (V.int 2147483629)))
                      (tOp (rI CMul fun i j => V.int (i * j))
                        (tOp (rI CMul fun i j => V.int (i * j)) (tC (V.int 104729)) (tVar 1)) (tVar 1)))
                    (tC (V.int 11)))
                  (tC (V.int 3)))
                (tC (V.int 2147483647)))
              (gName 3))
            (tSeq
              (tIfS
                (tTest
                  (tOp (rI0 fun i j => V.bl (decide (i < j))) (tVar 2)
                    (tOp (rI CPow fun i j => V.int (i ^ j.toNat)) (tC (V.int 10)) (tC (V.int 18)))))
                (tAsg (tC (V.int 0)) (gName 2)) tNext)
              (tRet (tLst (tCons (tVar 2) (tCons (tVar 3) tNil))))) { nx := fun x H' => Q V.non H', rt := Q } [some (.ref a), some (.int i), some (.int c), none] H := fun c => by
        have z0 : 0 ≤ c % 2147483629 := Int.emod_nonneg _ (by decide)
        have z1 : c % 2147483629 < 2147483629 := Int.emod_lt_of_pos _ (by decide)
        have m0 : 0 ≤ i * i := Int.mul_nonneg h0 h0
        have m1 : i * i < 1000000 := by
          have : i * i ≤ 999 * 999 := Int.mul_le_mul (by omega) (by omega) h0 (by decide)
          omega
        have ea : 104729 * i * i = 104729 * (i * i) := Int.mul_assoc _ _ _
        refine ⟨_, rfl, _, _, rfl, rfl, (by show (0 : Int) < 2147483629; decide), _, rfl, _, _, rfl, rfl, .inl ⟨by decide, by decide⟩, _, rfl, _, _, rfl, rfl, .inr ⟨by omega, by omega⟩, _, _, rfl, rfl, _, _, rfl, rfl, _, _, rfl, rfl, ⟨by decide, by decide, by omega⟩, _, _, rfl, rfl, (by show (0 : Int) < 2147483647; decide), ?_⟩
        have y0 : 0 ≤ ((c % 2147483629 + 104729 * i * i + 11) ^ (3 : Int).toNat) % 2147483647 := Int.emod_nonneg _ (by decide)
        have y1 : ((c % 2147483629 + 104729 * i * i + 11) ^ (3 : Int).toNat) % 2147483647 < 2147483647 := Int.emod_lt_of_pos _ (by decide)
        refine ⟨_, rfl, _, _, rfl, rfl, ⟨by decide, by decide, by decide⟩, _, _, rfl, rfl, _, rfl, ?_⟩
        refine ite2 (fun _ => ?_) (fun _ => ?_)
        · exact ⟨_, rfl, _, rfl, (by show 2 ≤ sizeLine; decide), fun p hp => k p _ hp (Same.new hp) ⟨_, _, upd_same, y0, y1⟩⟩
        · exact ⟨_, rfl, _, rfl, (by show 2 ≤ sizeLine; decide), fun p hp => k p _ hp (Same.new hp) ⟨_, _, upd_same, y0, y1⟩⟩
    refine ⟨_, rfl, _, rfl, _, _, rfl, .inl ha, _, _, rfl, rfl, _, rfl, ?_⟩
    refine ite2 (fun q => ?_) (fun _ => go 0)
    have hl : i < (ns.length : Int) := by
      have q := of_decide_eq_true q
      rw [List.length_map] at q
      exact q
    obtain ⟨j, rfl⟩ : ∃ j : Nat, i = (j : Int) := ⟨i.toNat, by omega⟩
    have hj : j < ns.length := by omega
    refine ⟨_, rfl, _, rfl, _, _, _, _, rfl, rfl, ha, atI_nat (by rw [List.getElem?_map, List.getElem?_eq_getElem hj]; rfl), go _⟩
theorem sc_law_take : FnScope ["_law_pool_here", "_law_many", "_law_found"] ["_law_pool_here", "_law_many"] (defScope s_law_take) := ⟨rfl, rfl, rfl, by decide +kernel, rfl, by decide +kernel, by decide +kernel⟩
theorem ok_law_take {f : Addr} {fd : FuncData} (F : Fun K "_law_take" "_law_take" s_law_take f fd) (T : Txt K mg C_NoNumber) : FnOk P w K mg base CX0 1 f fd ["_law_pool_here", "_law_many"] (sp_law_take) := by
  refine F.ok sc_law_take (fun vs H Q E h => ?_) (fun cdv A outer s H vs Q E hr h => ?_)
  · obtain ⟨p, m, rfl, _⟩ := h
    all_goals rfl
  · obtain ⟨p, m, rfl, hp, h0, h1, k⟩ := h
    refine ⟨_, (pss_cons (ps_if (pt_cmpR op_gt (pe_ix (ix_listK (K := K)) (pv 0) pe_int (fun _ _ => rfl)) pe_int (nomark _)) (pss_cons (ps_set (i := 2) sc_law_take.nd rfl (Or.inl rfl) (pe_op op_mod (pe_ix (ix_listK (K := K)) (pv 0) pe_int (fun _ _ => rfl)) (pv 1)))
    (pss_cons (ps_asg (pe_op op_fdivW (pe_ix (ix_listK (K := K)) (pv 0) pe_int (fun _ _ => rfl)) (pv 1)) (pg_sub (pv 0) pe_int set_list))
    (pss_one (ps_ret (pv 2))))) pss_nil)
    (pss_cons (ps_asg (pe_op op_mod (pe_op op_add (pe_op op_mul (pe_ix (ix_listK (K := K)) (pv 0) pe_int (fun _ _ => rfl)) pe_int) pe_int) pe_int) (pg_sub (pv 0) pe_int set_list))
    (pss_one (ps_ret (pe_op op_mod (pe_op op_fdiv (pe_op op_mod (pe_op op_mul (pe_ix (ix_listK (K := K)) (pv 0) pe_int (fun _ _ => rfl)) (pe_ix (ix_listK (K := K)) (pv 0) pe_int (fun _ _ => rfl))) pe_int) pe_int) (pv 1)))))), ?_⟩
    obtain ⟨c, n, hp, n0, n1⟩ := hp
    refine ⟨_, rfl, _, _, _, _, rfl, rfl, SqL.of hp, atI0, _, _, rfl, rfl, _, rfl, ?_⟩
    refine ite2 (fun _ => ?_) (fun _ => ?_)
    · refine ⟨_, rfl, _, _, _, _, rfl, rfl, SqL.of hp, atI0, _, rfl, _, _, rfl, rfl, h0, ?_⟩
      refine ⟨_, rfl, _, _, _, _, rfl, rfl, SqL.of hp, atI0, _, rfl, _, _, rfl, rfl, wide_div h0 (b := 100) (by omega) (by decide) (by decide), _, rfl, _, _, _, 0, rfl, rfl, hp, rfl, ?_⟩
      exact ⟨_, rfl, k _ _ (Int.emod_nonneg _ (by omega)) (Int.emod_lt_of_pos _ h0) (Off.upd (Off.refl _ _)) ⟨_, n, upd_same, n0, n1⟩⟩
    · refine ⟨_, rfl, _, _, _, _, rfl, rfl, SqL.of hp, atI1, _, _, rfl, rfl, .inr ⟨by decide, by decide⟩, _, _, rfl, rfl, _, _, rfl, rfl, (by show (0 : Int) < 2147483647; decide), _, rfl, _, _, _, 1, rfl, rfl, hp, rfl, ?_⟩
      have z0 : 0 ≤ (n * 48271 + 11) % 2147483647 := Int.emod_nonneg _ (by decide)
      have z1 : (n * 48271 + 11) % 2147483647 < 2147483647 := Int.emod_lt_of_pos _ (by decide)
      refine ⟨_, rfl, _, _, _, _, rfl, rfl, SqL.of upd_same, atI1, _, rfl, _, _, _, _, rfl, rfl, SqL.of upd_same, atI1, _, _, rfl, rfl, .inl ⟨by omega, by omega⟩, _, _, rfl, rfl, (by show (0 : Int) < 2147483629; decide), _, _, rfl, rfl, ⟨by decide, by decide⟩, _, rfl, _, _, rfl, rfl, h0, ?_⟩
      exact k _ _ (Int.emod_nonneg _ (by omega)) (Int.emod_lt_of_pos _ h0) (Off.upd (Off.refl _ _)) ⟨_, _, upd_same, z0, z1⟩
theorem sc_law_refused : FnScope ["_law_size", "_law_few", "_law_number", "e"] ["_law_size", "_law_few", "_law_number"] (defScope s_law_refused) := ⟨rfl, rfl, rfl, by decide +kernel, rfl, by decide +kernel, by decide +kernel⟩
theorem ok_law_refused {f : Addr} {fd : FuncData} (F : Fun K "_law_refused" "_law_refused" s_law_refused f fd) (T : Txt K mg C_NoNumber) (kn_trees_many : KN P w K mg base (L2.CX P w) 4 ["places", "deeds"] (sp_trees_many K C_NoNumber) "trees_many" []) : FnG P w K mg base CX0 5 f fd ["_law_size", "_law_few", "_law_number"] (sp_law_refused K C_NoNumber) := by
  obtain ⟨f_trees_many, fd_trees_many, ds_trees_many, m_trees_many, k_trees_many, v_trees_many, b_trees_many, G_trees_many⟩ := kn_trees_many
  refine F.okG sc_law_refused (fun vs H Q E h => ?_) (fun cdv A outer s H vs Q E g hr h => ?_)
  · obtain ⟨x, y, z, dz, rx, ry, rfl, _⟩ := h
    all_goals rfl
  · obtain ⟨x, y, z, dz, rx, ry, rfl, hx, hy, hz, hd, k⟩ := h
    refine ⟨_, (pss_cons (ps_try_as (i := 3) rfl rfl sc_law_refused.nd rfl rfl ⟨rfl, by decide, Or.inl T.x_NoNumber.gC⟩ takes0
    (fun W pn xe tk po => (pss_one (ps_expr (pe_callSD G_trees_many (hr.mono (by decide)) rfl m_trees_many k_trees_many b_trees_many v_trees_many (fun σ => passAt tk σ) (by exact (pa_cons (pv 0) (pa_cons (pv 1) pa_nil)))))))
    (fun a oe cls d pn hz hf => (pss_one (ps_ret (pe_and (pe_callB (call_isX (K := K) hz hf) (by rfl) T.b_isinstance (by decide +kernel) (pa_cons (pv 3) (pa_cons (pe_bltn (v := .ty "LookupError") (by rfl) T.b_LookupError (by decide +kernel) rfl) pa_nil))) (pe_one (pe_cmpR op_eq (pe_callB (call_reprV (K := K) g hr.units) (by rfl) T.b_repr (by decide +kernel) (pa_cons (pe_xf T.x_NoNumber.xf T.y_NoNumber_number hz hf (pv 3)) pa_nil)) (pe_callB (call_reprV (K := K) g hr.units) (by rfl) T.b_repr (by decide +kernel) (pa_cons (pv 2) pa_nil)) (nomark _))))))))
    (pss_one (ps_ret pe_bl))), ?_⟩
    obtain ⟨hd0, sh1, sh2, sh3, sh4⟩ := hd
    have z2 : dz.shown.length ≤ sizeLine := Nat.le_trans sh3 (by decide)
    have fin : ∀ (d : Addr) (H1 : Hp), Same H H1 → H1 d = some (.xd [(Str.ofString "number", z)]) → ∀ a : Addr, tRet (tAndV (tCB (rIsX K a (.ref C_NoNumber) (some d)) (tCons (tVar 3) (tCons (tC (V.ty "LookupError")) tNil)))
        (tOp rEq (tCB (rReprV K) (tCons (tXf a (.ref C_NoNumber) (some d) C_NoNumber (Str.ofString "number") (tVar 3)) tNil)) (tCB (rReprV K) (tCons (tVar 2) tNil)))) { nx := fun _ H' => Q .non H', rt := Q } [some x, some y, some z, some (.ref a)] H1 := fun d H1 s1 g a => by
      refine ⟨_, rfl, C_NoNumber, _, _, true, ⟨rfl, .inr ⟨d, _, rfl, g⟩, T.x_NoNumber.ok⟩, rfl, .ty "LookupError", kit_exT T.s5, true, rfl, iteT ?_⟩
      refine ⟨_, rfl, rfl, rfl, d, _, z, rfl, g, rfl, z, dz, rfl, hd0 H1 s1, sh1, sh2, z2, by omega, _, rfl, z, dz, rfl, hd0 H1 s1, sh1, sh2, z2, by omega, rfl, ?_⟩
      rw [decide_eq_true rfl]
      exact k H1 s1
    refine ⟨_, rfl, _, rfl, x, y, rx, ry, rfl, hx, hy, ⟨fun n d _ _ h1 h2 => ?_, fun e d H1 s1 g => ?_, fun e1 e2 d H1 s1 g => ?_⟩⟩
    · rcases hz with ⟨h, _⟩ | ⟨_, h, _⟩
      · rw [h] at h2; cases h2
      · rw [h] at h1; cases h1
    · rcases hz with ⟨_, rfl⟩ | ⟨h, _⟩
      · exact ⟨true, T.x_NoNumber.te, fun _ a _ => fin d H1 s1 g a, fun q => nomatch q⟩
      · rw [e] at h; cases h
    · rcases hz with ⟨h, _⟩ | ⟨_, _, rfl⟩
      · rw [e1] at h; cases h
      · exact ⟨true, T.x_NoNumber.te, fun _ a _ => fin d H1 s1 g a, fun q => nomatch q⟩
theorem sc_law : FnScope ["_law_script", "_law_size", "_law_few", "_law_found", "_law_k", "_law_pool_here", "_law_number", "_law_odd"] ["_law_script"] (defScope s_law) := ⟨rfl, rfl, rfl, by decide +kernel, rfl, by decide +kernel, by decide +kernel⟩
theorem ok_law {f : Addr} {fd : FuncData} (F : Fun K "law" "law" s_law f fd) (T : Txt K mg C_NoNumber) (kn_trees_many_k : KNK P w K mg base (L2.CX P w) 4 ["places", "deeds"] (sp_trees_many K C_NoNumber) "trees_many" ["deeds", "places"]) (kn_law_due : KN P w K mg base CX0 2 ["_law_size", "_law_few"] (sp_law_due) "_law_due" []) (kn_trees_many_d1 : KN P w K mg base (L2.CX P w) 4 ["places", "deeds"] (sp_trees_many K C_NoNumber) "trees_many" [.int 2]) (kn_law_pool : KN P w K mg base CX0 1 ["_law_script", "_law_k"] (sp_law_pool K) "_law_pool" []) (kn_law_take : KN P w K mg base CX0 1 ["_law_pool_here", "_law_many"] (sp_law_take) "_law_take" []) (kn_law_refused : KNG P w K mg base CX0 5 ["_law_size", "_law_few", "_law_number"] (sp_law_refused K C_NoNumber) "_law_refused" []) (kn_trees_many : KN P w K mg base (L2.CX P w) 4 ["places", "deeds"] (sp_trees_many K C_NoNumber) "trees_many" []) : FnG P w K mg base CX0 6 f fd ["_law_script"] (sp_law K) := by
  obtain ⟨f_trees_many_k, fd_trees_many_k, m_trees_many_k, k_trees_many_k, b_trees_many_k, G_trees_many_k⟩ := kn_trees_many_k
  obtain ⟨f_law_due, fd_law_due, ds_law_due, m_law_due, k_law_due, v_law_due, b_law_due, G_law_due⟩ := kn_law_due
  obtain ⟨f_trees_many_d1, fd_trees_many_d1, ds_trees_many_d1, m_trees_many_d1, k_trees_many_d1, v_trees_many_d1, b_trees_many_d1, G_trees_many_d1⟩ := kn_trees_many_d1
  obtain ⟨f_law_pool, fd_law_pool, ds_law_pool, m_law_pool, k_law_pool, v_law_pool, b_law_pool, G_law_pool⟩ := kn_law_pool
  obtain ⟨f_law_take, fd_law_take, ds_law_take, m_law_take, k_law_take, v_law_take, b_law_take, G_law_take⟩ := kn_law_take
  obtain ⟨f_law_refused, fd_law_refused, ds_law_refused, m_law_refused, k_law_refused, v_law_refused, b_law_refused, G_law_refused⟩ := kn_law_refused
  obtain ⟨f_trees_many, fd_trees_many, ds_trees_many, m_trees_many, k_trees_many, v_trees_many, b_trees_many, G_trees_many⟩ := kn_trees_many
  refine F.okG sc_law (fun vs H Q E h => ?_) (fun cdv A outer s H vs Q E g hr h => ?_)
  · obtain ⟨a, ns, rfl, _⟩ := h
    all_goals rfl
  · obtain ⟨a, ns, rfl, hS, hlen, k⟩ := h
    refine ⟨_, (pss_cons (ps_for PassesOwn.never rfl (pi_list (pe_lst (pa_cons pe_int (pa_cons pe_int (pa_cons pe_int (pa_cons pe_int (pa_cons pe_int (pa_cons pe_int (pa_cons pe_int (pa_cons pe_int (pa_cons pe_int (pa_cons pe_int (pa_cons pe_int pa_nil))))))))))))) (pg_name (i := 1) sc_law.nd rfl (Or.inl rfl)) (pss_cons (ps_for PassesOwn.never rfl (pi_range2 (by rfl) T.b_range (pa_cons pe_int (pa_cons pe_int pa_nil))) (pg_name (i := 2) sc_law.nd rfl (Or.inl rfl)) (pss_cons (ps_set (i := 3) sc_law.nd rfl (Or.inl rfl) (pe_callK0 G_trees_many_k (hr.mono (by decide)) rfl m_trees_many_k k_trees_many_k b_trees_many_k passL (pk_cons (pv 2) (pk_cons (pv 1) pk_nil))))
    (pss_one (ps_if (PW.pt (pw_or (pt_not (pt_val (pe_callB (call_isiK1 (K := K)) (by rfl) T.b_isinstance (by decide +kernel) (pa_cons (pv 3) (pa_cons (pe_bltn (v := .ty "int") (by rfl) T.b_int (by decide +kernel) rfl) pa_nil))))) (pw_or (pt_val (pe_callB (call_isiK1 (K := K)) (by rfl) T.b_isinstance (by decide +kernel) (pa_cons (pv 3) (pa_cons (pe_bltn (v := .ty "bool") (by rfl) T.b_bool (by decide +kernel) rfl) pa_nil)))) (pw_or1 (pt_cmpR op_ne (pv 3) (pe_call G_law_due (hr.mono (by decide)) rfl m_law_due k_law_due b_law_due v_law_due pass0 (pa_cons (pv 1) (pa_cons (pv 2) pa_nil))) (nomark _)))))) (pss_one (ps_ret pe_bl)) pss_nil))))
    (pss_one (ps_if (pt_cmpR op_ne (pe_call G_trees_many_d1 (hr.mono (by decide)) rfl m_trees_many_d1 k_trees_many_d1 b_trees_many_d1 v_trees_many_d1 passL (pa_cons (pv 1) pa_nil)) (pe_call G_law_due (hr.mono (by decide)) rfl m_law_due k_law_due b_law_due v_law_due pass0 (pa_cons (pv 1) (pa_cons pe_int pa_nil))) (nomark _)) (pss_one (ps_ret pe_bl)) pss_nil))))
    (pss_cons (ps_for PassesOwn.never rfl (pi_range1 (by rfl) T.b_range (pa_cons (pe_callB (call_max2 rfl) (by rfl) T.b_max (by decide +kernel) (pa_cons pe_int (pa_cons (pe_callB (call_min2 rfl) (by rfl) T.b_min (by decide +kernel) (pa_cons (pe_callB (call_lenK (K := K)) (by rfl) T.b_len (by decide +kernel) (pa_cons (pv 0) pa_nil)) (pa_cons pe_int pa_nil))) pa_nil))) pa_nil)) (pg_name (i := 4) sc_law.nd rfl (Or.inl rfl)) (pss_cons (ps_set (i := 5) sc_law.nd rfl (Or.inl rfl) (pe_call G_law_pool (hr.mono (by decide)) rfl m_law_pool k_law_pool b_law_pool v_law_pool pass0 (pa_cons (pv 0) (pa_cons (pv 4) pa_nil))))
    (pss_cons (ps_set (i := 6) sc_law.nd rfl (Or.inl rfl) (pe_op op_add pe_int (pe_call G_law_take (hr.mono (by decide)) rfl m_law_take k_law_take b_law_take v_law_take pass0 (pa_cons (pv 5) (pa_cons pe_int pa_nil)))))
    (pss_cons (ps_set (i := 7) sc_law.nd rfl (Or.inl rfl) (pe_ix (ix_listK (K := K)) (pe_lst (pa_cons pe_int (pa_cons (pe_un un_neg pe_int) (pa_cons pe_bl (pa_cons pe_non (pa_cons pe_str (pa_cons (pe_lst (pa_cons pe_int pa_nil)) (pa_cons (pe_op op_pow pe_int pe_int) (pa_cons (pe_tup (pa_cons pe_int pa_nil)) (pa_cons pe_bl (pa_cons pe_int pa_nil))))))))))) (pe_call G_law_take (hr.mono (by decide)) rfl m_law_take k_law_take b_law_take v_law_take pass0 (pa_cons (pv 5) (pa_cons pe_int pa_nil))) (fun _ _ => rfl)))
    (pss_cons (ps_set (i := 2) sc_law.nd rfl (Or.inl rfl) (pe_ix (ix_listK (K := K)) (pe_lst (pa_cons pe_int (pa_cons pe_int (pa_cons pe_bl (pa_cons pe_non (pa_cons pe_str (pa_cons (pe_lst (pa_cons pe_int pa_nil)) (pa_cons (pe_un un_neg pe_int) (pa_cons (pe_op op_pow pe_int pe_int) (pa_cons (pe_tup (pa_cons pe_int pa_nil)) (pa_cons pe_int pa_nil))))))))))) (pe_call G_law_take (hr.mono (by decide)) rfl m_law_take k_law_take b_law_take v_law_take pass0 (pa_cons (pv 5) (pa_cons pe_int pa_nil))) (fun _ _ => rfl)))
    (pss_cons (ps_if (PW.pt (pw_or (pt_not (pt_val (pe_callG G_law_refused g (hr.mono (by decide)) rfl m_law_refused k_law_refused b_law_refused v_law_refused pass0 (pa_cons (pv 7) (pa_cons (pe_op op_add pe_int (pe_call G_law_take (hr.mono (by decide)) rfl m_law_take k_law_take b_law_take v_law_take pass0 (pa_cons (pv 5) (pa_cons pe_int pa_nil)))) (pa_cons (pv 7) pa_nil)))))) (pw_or1 (pt_not (pt_val (pe_callG G_law_refused g (hr.mono (by decide)) rfl m_law_refused k_law_refused b_law_refused v_law_refused pass0 (pa_cons (pv 6) (pa_cons (pv 2) (pa_cons (pv 2) pa_nil))))))))) (pss_one (ps_ret pe_bl)) pss_nil)
    (pss_cons (ps_if (PW.pt (pw_or (pt_not (pt_val (pe_callG G_law_refused g (hr.mono (by decide)) rfl m_law_refused k_law_refused b_law_refused v_law_refused pass0 (pa_cons (pv 7) (pa_cons (pv 2) (pa_cons (pv 2) pa_nil)))))) (pw_or1 (pt_cmpR op_ne (pe_call G_trees_many (hr.mono (by decide)) rfl m_trees_many k_trees_many b_trees_many v_trees_many passL (pa_cons (pv 6) (pa_cons pe_int pa_nil))) (pv 6) (nomark _))))) (pss_one (ps_ret pe_bl)) pss_nil)
    (pss_one (ps_if (pt_cmpR (op_neDK (K := K) hr.units) (pe_lst (pa_cons (pe_call G_trees_many (hr.mono (by decide)) rfl m_trees_many k_trees_many b_trees_many v_trees_many passL (pa_cons (pv 6) (pa_cons pe_int pa_nil))) (pa_cons (pe_call G_trees_many_d1 (hr.mono (by decide)) rfl m_trees_many_d1 k_trees_many_d1 b_trees_many_d1 v_trees_many_d1 passL (pa_cons (pv 6) pa_nil)) pa_nil))) (pe_lst (pa_cons (pe_call G_law_due (hr.mono (by decide)) rfl m_law_due k_law_due b_law_due v_law_due pass0 (pa_cons (pv 6) (pa_cons pe_int pa_nil))) (pa_cons (pe_call G_law_due (hr.mono (by decide)) rfl m_law_due k_law_due b_law_due v_law_due pass0 (pa_cons (pv 6) (pa_cons pe_int pa_nil))) pa_nil))) (nomark _)) (pss_one (ps_ret pe_bl)) pss_nil)))))))))
    (pss_one (ps_ret pe_bl)))), ?_⟩
    have tn := turns_ok (ns.map V.int).length 8 (by decide)
    refine ⟨by show 11 ≤ sizeLine; decide, fun L hL => ?_⟩
    have sL := Same.new (o := .lst [.int 1, .int 2, .int 3, .int 4, .int 5, .int 8, .int 13, .int 21, .int 34, .int 39, .int 40]) hL
    have gL := upd_same (H := H) (a := L) (o := HO.lst [.int 1, .int 2, .int 3, .int 4, .int 5, .int 8, .int 13, .int 21, .int 34, .int 39, .int 40])
    refine ⟨L, rfl, ⟨_, SqL.of gL⟩, for_list (K := K) (a := L) (xs := [.int 1, .int 2, .int 3, .int 4, .int 5, .int 8, .int 13, .int 21, .int 34, .int 39, .int 40]) (fun _ σ H' => ∃ x1 x2 x3, σ = [some (.ref a), x1, x2, x3, none, none, none, none] ∧ Same (upd H L (.lst [.int 1, .int 2, .int 3, .int 4, .int 5, .int 8, .int 13, .int 21, .int 34, .int 39, .int 40])) H')
      ⟨_, _, _, rfl, Same.refl _⟩ (fun _ _ _ _ ⟨_, _, _, _, s⟩ => s.seq (SqL.of gL)) ?_ ?_⟩
    · rintro i0 y0 σ H1 hy ⟨x1, x2, x3, rfl, s1⟩
      obtain ⟨n, rfl, n1, n40⟩ : ∃ n : Nat, y0 = .int (n : Int) ∧ 1 ≤ n ∧ n ≤ 40 := by
        have hm := List.mem_of_getElem? hy
        simp only [List.mem_cons, List.not_mem_nil, or_false] at hm
        rcases hm with rfl | rfl | rfl | rfl | rfl | rfl | rfl | rfl | rfl | rfl | rfl
        · exact ⟨1, rfl, by decide, by decide⟩
        · exact ⟨2, rfl, by decide, by decide⟩
        · exact ⟨3, rfl, by decide, by decide⟩
        · exact ⟨4, rfl, by decide, by decide⟩
        · exact ⟨5, rfl, by decide, by decide⟩
        · exact ⟨8, rfl, by decide, by decide⟩
        · exact ⟨13, rfl, by decide, by decide⟩
        · exact ⟨21, rfl, by decide, by decide⟩
        · exact ⟨34, rfl, by decide, by decide⟩
        · exact ⟨39, rfl, by decide, by decide⟩
        · exact ⟨40, rfl, by decide, by decide⟩
      refine ⟨1, 4, rfl, ⟨by decide, by decide, by decide, by decide⟩, for_range (lo := 1) (n := ((4 : Int) - 1).toNat) (fun _ σ H' => ∃ x2 x3, σ = [some (.ref a), some (.int (n : Int)), x2, x3, none, none, none, none] ∧ Same (upd H L (.lst [.int 1, .int 2, .int 3, .int 4, .int 5, .int 8, .int 13, .int 21, .int 34, .int 39, .int 40])) H')
        ⟨_, _, rfl, s1⟩ ?_ ?_⟩
      · rintro j σ H2 hj ⟨x2, x3, rfl, s2⟩
        have hj : j < 3 := hj
        rw [show (1 : Int) + (j : Nat) = ((j + 1 : Nat) : Int) by omega]
        refine ⟨_, rfl, _, rfl, _, _, true, true, rfl, deeds_ok (n := n) n1 (by omega), deeds_ok (n := j + 1) (by omega) (by omega), ⟨fun n' d' e1 e2 _ _ H3 s3 => ?_, fun h => (nomatch h), fun _ h => (nomatch h)⟩⟩
        obtain rfl := nat_of (n := n) e1
        obtain rfl := nat_of (n := j + 1) e2
        refine ⟨_, rfl, _, _, _, _, true, rfl, .ty "int", .base (.int _), kit_ty (by decide +kernel), _, rfl, iteF ?_⟩
        refine ⟨_, rfl, _, _, _, _, false, rfl, .ty "bool", .base (.int _), kit_ty (by decide +kernel), _, rfl, iteF ?_⟩
        refine ⟨_, rfl, _, rfl, _, rfl, n, j + 1, rfl, n1, n40, by omega, by omega, fun H4 s4 => ⟨rfl, _, rfl, ?_⟩⟩
        rw [tree_due n1 n40 (by omega) (by omega), decide_eq_true rfl]
        exact iteF ⟨_, _, rfl, Same.trans s2 (Same.trans s3 s4)⟩
      rintro σ H2 ⟨x2, x3, rfl, s2⟩
      refine ⟨_, rfl, _, _, true, true, rfl, deeds_ok (n := n) n1 (by omega), deeds_ok (n := 2) (by omega) (by omega), ⟨fun n' d' e1 e2 _ _ H3 s3 => ?_, fun h => (nomatch h), fun _ h => (nomatch h)⟩⟩
      obtain rfl := nat_of (n := n) e1
      obtain rfl := nat_of (n := 2) e2
      refine ⟨_, rfl, n, 2, rfl, n1, n40, by decide, by decide, fun H4 s4 => ⟨rfl, _, rfl, ?_⟩⟩
      rw [tree_due n1 n40 (by decide) (by decide), decide_eq_true rfl]
      exact iteF ⟨_, _, _, rfl, Same.trans s2 (Same.trans s3 s4)⟩
    rintro σ H1 ⟨x1, x2, x3, rfl, s1⟩
    have sB := Same.trans sL s1
    refine ⟨_, rfl, _, _, rfl, .inl (sB.seq hS), _, _, rfl, _, _, rfl, _, rfl, by omega, by omega, for_range (lo := 0) (n := _) (fun i σ H' => ∃ x1 x2 x3 x4 x5 x6 x7, σ = [some (.ref a), x1, x2, x3, x4, x5, x6, x7] ∧ Same H H')
      ⟨_, _, _, _, _, _, _, rfl, sB⟩ ?_ ?_⟩
    rotate_left
    · rintro σ H2 ⟨x1, x2, x3, x4, x5, x6, x7, rfl, s2⟩
      exact k _
    clear x1 x2 x3 s1 gL
    rintro i σ H2 hi ⟨x1, x2, x3, x4, x5, x6, x7, rfl, s2⟩
    refine ⟨_, rfl, _, rfl, a, ns, _, rfl, s2.seq hS, by omega, by omega, fun p H3 np s3 hp => ?_⟩
    have hpn : H p = none := Same.free s2 np
    have sH := Same.trans s2 s3
    refine ⟨_, rfl, p, 40, rfl, hp, by decide, by decide, fun nv H4 v0 v1 o4 p4 => ⟨_, _, rfl, rfl, ?_⟩⟩
    have sH := Off.same hpn sH o4
    obtain ⟨n, hn⟩ : ∃ n : Nat, (n : Int) = 1 + nv := ⟨(1 + nv).toNat, by omega⟩
    have n1 : 1 ≤ n := by omega
    have n40 : n ≤ 40 := by omega
    clear v0 v1 hp np s3 o4 s2
    -- things that are no numbers of places
    refine ⟨_, rfl, by show 1 ≤ sizeLine; decide, fun l1 hl1 => ⟨_, _, rfl, rfl, ⟨by decide, by decide, by decide⟩, by show 1 ≤ sizeLine; decide, fun t1 ht1 => ⟨by show 10 ≤ sizeLine; decide, fun O hO => ?_⟩⟩⟩
    have q1 := Same.new (o := .lst [.int 1]) hl1
    have q2 := Same.new (o := .tup [.int 1]) ht1
    have q3 := Same.new (o := .lst (oddsA l1 t1)) hO
    have aL := q3 _ _ (q2 _ _ (upd_same (H := H4) (a := l1) (o := HO.lst [.int 1])))
    have aT := q3 _ _ (upd_same (H := upd H4 l1 (.lst [.int 1])) (a := t1) (o := HO.tup [.int 1]))
    have aO := upd_same (H := upd (upd H4 l1 (.lst [.int 1])) t1 (.tup [.int 1])) (a := O) (o := HO.lst (oddsA l1 t1))
    have m1 := p4.ne hl1
    have m2 := (p4.same q1).ne ht1
    have m3 := ((p4.same q1).same q2).ne hO
    have p5 := ((p4.same q1).same q2).same q3
    have sH := Same.trans sH (Same.trans q1 (Same.trans q2 q3))
    change tCall _ _ _ _ _ (upd (upd (upd H4 l1 (.lst [.int 1])) t1 (.tup [.int 1])) O (.lst (oddsA l1 t1))) _
    generalize upd (upd (upd H4 l1 (.lst [.int 1])) t1 (.tup [.int 1])) O (.lst (oddsA l1 t1)) = H5 at *
    refine ⟨_, rfl, p, 10, rfl, p5, by decide, by decide, fun v H6 v0 v1 o6 p6 => ?_⟩
    obtain ⟨y, hy, my⟩ := at_in10 (L := oddsA l1 t1) (by exact v0) (by exact v1)
    refine ⟨_, _, _, _, rfl, rfl, SqL.of (o6 O _ m3.symm aO), hy, ?_⟩
    have sH := Off.same hpn sH o6
    have aL := o6 _ _ m1.symm aL
    have aT := o6 _ _ m2.symm aT
    clear q1 q2 q3 aO m3 p4 p5 hO ht1 hl1 o6 v0 v1 hy
    -- things that are no numbers of deeds
    refine ⟨by show 1 ≤ sizeLine; decide, fun l2 hl2 => ⟨_, rfl, _, _, rfl, rfl, ⟨by decide, by decide, by decide⟩, by show 1 ≤ sizeLine; decide, fun t2 ht2 => ⟨by show 10 ≤ sizeLine; decide, fun O2 hO2 => ?_⟩⟩⟩
    have q1 := Same.new (o := .lst [.int 2]) hl2
    have q2 := Same.new (o := .tup [.int 3]) ht2
    have q3 := Same.new (o := .lst (oddsB l2 t2)) hO2
    have bL := q3 _ _ (q2 _ _ (upd_same (H := H6) (a := l2) (o := HO.lst [.int 2])))
    have bT := q3 _ _ (upd_same (H := upd H6 l2 (.lst [.int 2])) (a := t2) (o := HO.tup [.int 3]))
    have bO := upd_same (H := upd (upd H6 l2 (.lst [.int 2])) t2 (.tup [.int 3])) (a := O2) (o := HO.lst (oddsB l2 t2))
    have m4 := p6.ne hl2
    have m5 := (p6.same q1).ne ht2
    have m6 := ((p6.same q1).same q2).ne hO2
    have p7 := ((p6.same q1).same q2).same q3
    have qq := Same.trans q1 (Same.trans q2 q3)
    have sH := Same.trans sH qq
    have aL := qq _ _ aL
    have aT := qq _ _ aT
    change tCall _ _ _ _ _ (upd (upd (upd H6 l2 (.lst [.int 2])) t2 (.tup [.int 3])) O2 (.lst (oddsB l2 t2))) _
    generalize upd (upd (upd H6 l2 (.lst [.int 2])) t2 (.tup [.int 3])) O2 (.lst (oddsB l2 t2)) = H7 at *
    refine ⟨_, rfl, p, 10, rfl, p7, by decide, by decide, fun v H8 v0 v1 o8 p8 => ?_⟩
    obtain ⟨z, hz, mz⟩ := at_in10 (L := oddsB l2 t2) (by exact v0) (by exact v1)
    refine ⟨_, _, _, _, rfl, rfl, SqL.of (o8 O2 _ m6.symm bO), hz, ?_⟩
    have sH := Off.same hpn sH o8
    have aL := o8 _ _ m1.symm aL
    have aT := o8 _ _ m2.symm aT
    have bL := o8 _ _ m4.symm bL
    have bT := o8 _ _ m5.symm bT
    clear q1 q2 q3 qq bO m6 p6 p7 hO2 ht2 hl2 o8 v0 v1 hz
    -- refused
    refine ⟨_, rfl, _, rfl, p, 3, rfl, p8, by decide, by decide, fun u H9 u0 u1 o9 p9 => ⟨_, _, rfl, rfl, _, rfl, ?_⟩⟩
    have sH := Off.same hpn sH o9
    have aL := o9 _ _ m1.symm aL
    have aT := o9 _ _ m2.symm aT
    have bL := o9 _ _ m4.symm bL
    have bT := o9 _ _ m5.symm bT
    obtain ⟨yD, dy, yO⟩ := oddsA_ok (K := K) aL aT my
    obtain ⟨zD, dz, zO⟩ := oddsB_ok (K := K) bL bT mz
    refine ⟨y, .int (1 + u), y, dy, false, true, rfl, yD, .inl ⟨1 + u, rfl, (decide_eq_true ⟨by omega, by omega⟩).symm⟩, .inr ⟨rfl, rfl, rfl⟩, yO, fun H10 s10 => ⟨_, rfl, iteF ?_⟩⟩
    have nD : ∀ H', Deeds H' (.int (1 + nv)) 40 true := fun H' => .inl ⟨1 + nv, rfl, (decide_eq_true ⟨by omega, by omega⟩).symm⟩
    refine ⟨_, rfl, _, rfl, _, rfl, .int (1 + nv), z, z, dz, true, false, rfl, nD _, zD.same s10, .inl ⟨rfl, rfl⟩, zO.mono s10, fun H11 s11 => ⟨_, rfl, iteF ?_⟩⟩
    have s11 := Same.trans s10 s11
    refine ⟨_, rfl, _, rfl, _, rfl, y, z, z, dz, false, false, rfl, yD.same s11, zD.same s11, .inl ⟨rfl, rfl⟩, zO.mono s11, fun H12 s12 => ⟨_, rfl, iteF ?_⟩⟩
    have sH := Same.trans sH (Same.trans s11 s12)
    -- trees of one deed
    refine ⟨_, rfl, _, _, true, true, rfl, nD _, deeds_ok (n := 1) (by omega) (by omega), ⟨fun n' d' e1 e2 _ _ H13 s13 => ?_, fun h => (nomatch h), fun _ h => (nomatch h)⟩⟩
    obtain rfl := nat_of2 hn e1
    obtain rfl := nat_of (n := 1) e2
    refine ⟨_, rfl, rfl, _, rfl, ?_⟩
    have et : ((treesN n 1 : Nat) : Int) = 1 + nv := by rw [(trees_due n (by omega) n1).2.2.2]; exact hn
    rw [et, decide_eq_true rfl]
    refine iteF ?_
    -- the known numbers
    refine ⟨_, rfl, _, _, true, true, rfl, nD _, deeds_ok (n := 3) (by omega) (by omega), ⟨fun n' d' e1 e2 _ _ H14 s14 => ?_, fun h => (nomatch h), fun _ h => (nomatch h)⟩⟩
    obtain rfl := nat_of2 hn e1
    obtain rfl := nat_of (n := 3) e2
    refine ⟨_, rfl, _, _, true, true, rfl, nD _, deeds_ok (n := 2) (by omega) (by omega), ⟨fun n' d' e1 e2 _ _ H15 s15 => ?_, fun h => (nomatch h), fun _ h => (nomatch h)⟩⟩
    obtain rfl := nat_of2 hn e1
    obtain rfl := nat_of (n := 2) e2
    refine ⟨by show 2 ≤ sizeLine; decide, fun P1 hP1 => ?_⟩
    have r1 := Same.new (o := .lst [.int (treesN n 3 : Nat), .int (treesN n 2 : Nat)]) hP1
    have gP := upd_same (H := H15) (a := P1) (o := HO.lst [.int (treesN n 3 : Nat), .int (treesN n 2 : Nat)])
    refine ⟨_, rfl, n, 3, by show [V.int (1 + nv), V.int 3] = _; rw [← hn]; rfl, n1, n40, by decide, by decide, fun H16 s16 => ?_⟩
    refine ⟨_, rfl, n, 2, by show [V.int (1 + nv), V.int 2] = _; rw [← hn]; rfl, n1, n40, by decide, by decide, fun H17 s17 => ?_⟩
    refine ⟨by show 2 ≤ sizeLine; decide, fun P2 hP2 => ?_⟩
    have r2 := Same.new (o := .lst [.int (dueN n 3 : Nat), .int (dueN n 2 : Nat)]) hP2
    have gP := r2 _ _ (s17 _ _ (s16 _ _ gP))
    refine ⟨.list ([((treesN n 3 : Nat) : Int), ((treesN n 2 : Nat) : Int)].map PyData.int), .list ([((dueN n 3 : Nat) : Int), ((dueN n 2 : Nat) : Int)].map PyData.int), .lst (SqL.of gP) (dp_zs [((treesN n 3 : Nat) : Int), ((treesN n 2 : Nat) : Int)]), .lst (SqL.of upd_same) (dp_zs [((dueN n 3 : Nat) : Int), ((dueN n 2 : Nat) : Int)]), shaped_lst _, shaped_lst _, _, rfl, ?_⟩
    rw [tree_due n1 n40 (by decide : 1 ≤ 3) (by decide), tree_due n1 n40 (by decide : 1 ≤ 2) (by decide), eqv_two]
    exact iteF ⟨_, _, _, _, _, _, _, rfl, Same.trans sH (Same.trans s13 (Same.trans s14 (Same.trans s15 (Same.trans r1 (Same.trans s16 (Same.trans s17 r2))))))⟩
end
theorem all_mk {l : PySem.W.OpenLaw} {w : World} {K : PySem.W.Frag} {h : Heap} {mg : Str → Option Value} {fa : Addr} (X : K.In h) (G : h.Ns mainGlobals mg) (hfa : mg "law" = some (.ref fa))
    {t_MOST_DEEDS : Tok}
    {t_MOST_TREE : Tok}
    {C_NoNumber : Addr}
    {f_is_whole : Addr} {od_is_whole an_is_whole : Option Addr} {sl_is_whole : Array (Option Value)} {oc_is_whole kV_is_whole dc_is_whole pm_is_whole cd_is_whole ct_is_whole : Value}
    {f_NoNumber___init__ : Addr} {od_NoNumber___init__ an_NoNumber___init__ : Option Addr} {sl_NoNumber___init__ : Array (Option Value)} {oc_NoNumber___init__ kV_NoNumber___init__ dc_NoNumber___init__ pm_NoNumber___init__ cd_NoNumber___init__ ct_NoNumber___init__ : Value}
    {f_look_at_deeds : Addr} {od_look_at_deeds an_look_at_deeds : Option Addr} {sl_look_at_deeds : Array (Option Value)} {oc_look_at_deeds kV_look_at_deeds dc_look_at_deeds pm_look_at_deeds cd_look_at_deeds ct_look_at_deeds : Value}
    {f_is_between : Addr} {od_is_between an_is_between : Option Addr} {sl_is_between : Array (Option Value)} {oc_is_between kV_is_between dc_is_between pm_is_between cd_is_between ct_is_between : Value}
    {f_look_at_number : Addr} {od_look_at_number an_look_at_number : Option Addr} {sl_look_at_number : Array (Option Value)} {oc_look_at_number kV_look_at_number dc_look_at_number pm_look_at_number cd_look_at_number ct_look_at_number : Value}
    {f_ones_in : Addr} {od_ones_in an_ones_in : Option Addr} {sl_ones_in : Array (Option Value)} {oc_ones_in kV_ones_in dc_ones_in pm_ones_in cd_ones_in ct_ones_in : Value}
    {f_blocks : Addr} {od_blocks an_blocks : Option Addr} {sl_blocks : Array (Option Value)} {oc_blocks kV_blocks dc_blocks pm_blocks cd_blocks ct_blocks : Value}
    {f_chosen_many : Addr} {od_chosen_many an_chosen_many : Option Addr} {sl_chosen_many : Array (Option Value)} {oc_chosen_many kV_chosen_many dc_chosen_many pm_chosen_many cd_chosen_many ct_chosen_many : Value}
    {f_ways_on : Addr} {od_ways_on an_ways_on : Option Addr} {sl_ways_on : Array (Option Value)} {oc_ways_on kV_ways_on dc_ways_on pm_ways_on cd_ways_on ct_ways_on : Value}
    {f_trees_many : Addr} {od_trees_many an_trees_many : Option Addr} {sl_trees_many : Array (Option Value)} {oc_trees_many kV_trees_many dc_trees_many pm_trees_many cd_trees_many ct_trees_many : Value}
    {T_trees_many : Addr} {tc_trees_many : Value} {tdd_trees_many : Option Addr} {tn_trees_many : Nat} {ts_trees_many : Array (Option Value)} {td0_trees_many : Tok}
    {f_law_chosen : Addr} {od_law_chosen an_law_chosen : Option Addr} {sl_law_chosen : Array (Option Value)} {oc_law_chosen kV_law_chosen dc_law_chosen pm_law_chosen cd_law_chosen ct_law_chosen : Value}
    {f_law_due : Addr} {od_law_due an_law_due : Option Addr} {sl_law_due : Array (Option Value)} {oc_law_due kV_law_due dc_law_due pm_law_due cd_law_due ct_law_due : Value}
    {f_law_pool : Addr} {od_law_pool an_law_pool : Option Addr} {sl_law_pool : Array (Option Value)} {oc_law_pool kV_law_pool dc_law_pool pm_law_pool cd_law_pool ct_law_pool : Value}
    {f_law_take : Addr} {od_law_take an_law_take : Option Addr} {sl_law_take : Array (Option Value)} {oc_law_take kV_law_take dc_law_take pm_law_take cd_law_take ct_law_take : Value}
    {f_law_refused : Addr} {od_law_refused an_law_refused : Option Addr} {sl_law_refused : Array (Option Value)} {oc_law_refused kV_law_refused dc_law_refused pm_law_refused cd_law_refused ct_law_refused : Value}
    {f_law : Addr} {od_law an_law : Option Addr} {sl_law : Array (Option Value)} {oc_law kV_law dc_law pm_law cd_law ct_law : Value}
    (z_LookupError : PySem.W.nsIn K mainGlobals "LookupError" = some none)
    (z_bool : PySem.W.nsIn K mainGlobals "bool" = some none)
    (z_int : PySem.W.nsIn K mainGlobals "int" = some none)
    (z_isinstance : PySem.W.nsIn K mainGlobals "isinstance" = some none)
    (z_len : PySem.W.nsIn K mainGlobals "len" = some none)
    (z_max : PySem.W.nsIn K mainGlobals "max" = some none)
    (z_min : PySem.W.nsIn K mainGlobals "min" = some none)
    (z_range : PySem.W.nsIn K mainGlobals "range" = some none)
    (z_repr : PySem.W.nsIn K mainGlobals "repr" = some none)
    (z_sum : PySem.W.nsIn K mainGlobals "sum" = some none)
    (n_MOST_DEEDS : PySem.W.nsIn K mainGlobals "MOST_DEEDS" = some (some (.int 3 t_MOST_DEEDS)))
    (n_MOST_TREE : PySem.W.nsIn K mainGlobals "MOST_TREE" = some (some (.int 40 t_MOST_TREE)))
    (aC_NoNumber : PySem.W.nsIn K mainGlobals "NoNumber" = some (some (.ref C_NoNumber)))
    (xC_NoNumber : PySem.W.excInitIn K C_NoNumber [.type "LookupError", .type "Exception", .type "BaseException", .type "object"] "LookupError.__new__" = true)
    (kC_NoNumber : PySem.W.keepIn K (.ref C_NoNumber) = true)
    (bC_NoNumber : PySem.W.subIn K (.ref C_NoNumber) (.type "BaseException") = some true)
    (tC_NoNumber : PySem.W.typeIn K (.ref C_NoNumber) = some (.type "type"))
    (iC_NoNumber : PySem.W.isClsIn K C_NoNumber = true)
    (sC_NoNumber : PySem.W.subIn K (.ref C_NoNumber) (.ref C_NoNumber) = some true)
    (hg_NoNumber : PySem.W.findIn K (.ref C_NoNumber) "__getattribute__" = some (some (.builtin "BaseException.__getattribute__")))
    (hk_NoNumber : PySem.W.findIn K (.ref C_NoNumber) "__getattr__" = some none)
    (hd_NoNumber : PySem.W.hasDictIn K C_NoNumber = true)
    (ha_NoNumber : PySem.W.findIn K (.ref C_NoNumber) "__class__" = some (some (.builtin "object.__class__")))
    (hm_NoNumber : PySem.W.mroIn K C_NoNumber (.type "object") = some true)
    (oC_NoNumber : PySem.W.excOver K C_NoNumber [.type "LookupError", .type "Exception", .type "BaseException", .type "object"] = true)
    (sa_NoNumber : PySem.W.findIn K (.ref C_NoNumber) "__setattr__" = some (some (.builtin "object.__setattr__")))
    (hn : PySem.W.specialIn K (.builtin "object.__class__") "__get__" = some (some (.builtin "getset_descriptor.__get__")))
    (ht : PySem.W.takesIn K (.builtin "object.__class__") = some true)
    (w_LookupError : PySem.W.findCls K (.type "LookupError") (.type "type") "__init__" = some (.val (.builtin "LookupError.__init__")))
    (y_NoNumber_number : PySem.W.findIn K (.ref C_NoNumber) "number" = some none)
    (f_s5 : PySem.W.subIn K (.ref C_NoNumber) (.type "LookupError") = some true)
    (a_is_whole : PySem.W.nsIn K mainGlobals "is_whole" = some (some (.ref f_is_whole)))
    (l_is_whole : K.lookup f_is_whole = some ⟨oc_is_whole, od_is_whole, .func (PySem.W.fnOf "is_whole" "is_whole" (defArgs s_is_whole) (defBody s_is_whole) (defScope s_is_whole) .none kV_is_whole dc_is_whole pm_is_whole an_is_whole cd_is_whole ct_is_whole), sl_is_whole⟩)
    (c_is_whole : PySem.W.codeIn K cd_is_whole "is_whole" = true)
    (k_is_whole : PySem.W.keepIn K (.ref f_is_whole) = true)
    (a_NoNumber___init__ : PySem.W.findIn K (.ref C_NoNumber) "__init__" = some (some (.ref f_NoNumber___init__)))
    (l_NoNumber___init__ : K.lookup f_NoNumber___init__ = some ⟨oc_NoNumber___init__, od_NoNumber___init__, .func (PySem.W.fnOf "__init__" "NoNumber.__init__" (defArgs s_NoNumber___init__) (defBody s_NoNumber___init__) (defScope s_NoNumber___init__) .none kV_NoNumber___init__ dc_NoNumber___init__ pm_NoNumber___init__ an_NoNumber___init__ cd_NoNumber___init__ ct_NoNumber___init__), sl_NoNumber___init__⟩)
    (c_NoNumber___init__ : PySem.W.codeIn K cd_NoNumber___init__ "NoNumber.__init__" = true)
    (k_NoNumber___init__ : PySem.W.keepIn K (.ref f_NoNumber___init__) = true)
    (u_NoNumber___init__ : PySem.W.typeIn K (.ref f_NoNumber___init__) = some (.type "function"))
    (fn_NoNumber___init__ : PySem.W.isFn K (.ref f_NoNumber___init__) = true)
    (a_look_at_deeds : PySem.W.nsIn K mainGlobals "look_at_deeds" = some (some (.ref f_look_at_deeds)))
    (l_look_at_deeds : K.lookup f_look_at_deeds = some ⟨oc_look_at_deeds, od_look_at_deeds, .func (PySem.W.fnOf "look_at_deeds" "look_at_deeds" (defArgs s_look_at_deeds) (defBody s_look_at_deeds) (defScope s_look_at_deeds) .none kV_look_at_deeds dc_look_at_deeds pm_look_at_deeds an_look_at_deeds cd_look_at_deeds ct_look_at_deeds), sl_look_at_deeds⟩)
    (c_look_at_deeds : PySem.W.codeIn K cd_look_at_deeds "look_at_deeds" = true)
    (k_look_at_deeds : PySem.W.keepIn K (.ref f_look_at_deeds) = true)
    (a_is_between : PySem.W.nsIn K mainGlobals "is_between" = some (some (.ref f_is_between)))
    (l_is_between : K.lookup f_is_between = some ⟨oc_is_between, od_is_between, .func (PySem.W.fnOf "is_between" "is_between" (defArgs s_is_between) (defBody s_is_between) (defScope s_is_between) .none kV_is_between dc_is_between pm_is_between an_is_between cd_is_between ct_is_between), sl_is_between⟩)
    (c_is_between : PySem.W.codeIn K cd_is_between "is_between" = true)
    (k_is_between : PySem.W.keepIn K (.ref f_is_between) = true)
    (a_look_at_number : PySem.W.nsIn K mainGlobals "look_at_number" = some (some (.ref f_look_at_number)))
    (l_look_at_number : K.lookup f_look_at_number = some ⟨oc_look_at_number, od_look_at_number, .func (PySem.W.fnOf "look_at_number" "look_at_number" (defArgs s_look_at_number) (defBody s_look_at_number) (defScope s_look_at_number) .none kV_look_at_number dc_look_at_number pm_look_at_number an_look_at_number cd_look_at_number ct_look_at_number), sl_look_at_number⟩)
    (c_look_at_number : PySem.W.codeIn K cd_look_at_number "look_at_number" = true)
    (k_look_at_number : PySem.W.keepIn K (.ref f_look_at_number) = true)
    (a_ones_in : PySem.W.nsIn K mainGlobals "ones_in" = some (some (.ref f_ones_in)))
    (l_ones_in : K.lookup f_ones_in = some ⟨oc_ones_in, od_ones_in, .func (PySem.W.fnOf "ones_in" "ones_in" (defArgs s_ones_in) (defBody s_ones_in) (defScope s_ones_in) .none kV_ones_in dc_ones_in pm_ones_in an_ones_in cd_ones_in ct_ones_in), sl_ones_in⟩)
    (c_ones_in : PySem.W.codeIn K cd_ones_in "ones_in" = true)
    (k_ones_in : PySem.W.keepIn K (.ref f_ones_in) = true)
    (a_blocks : PySem.W.nsIn K mainGlobals "blocks" = some (some (.ref f_blocks)))
    (l_blocks : K.lookup f_blocks = some ⟨oc_blocks, od_blocks, .func (PySem.W.fnOf "blocks" "blocks" (defArgs s_blocks) (defBody s_blocks) (defScope s_blocks) .none kV_blocks dc_blocks pm_blocks an_blocks cd_blocks ct_blocks), sl_blocks⟩)
    (c_blocks : PySem.W.codeIn K cd_blocks "blocks" = true)
    (k_blocks : PySem.W.keepIn K (.ref f_blocks) = true)
    (a_chosen_many : PySem.W.nsIn K mainGlobals "chosen_many" = some (some (.ref f_chosen_many)))
    (l_chosen_many : K.lookup f_chosen_many = some ⟨oc_chosen_many, od_chosen_many, .func (PySem.W.fnOf "chosen_many" "chosen_many" (defArgs s_chosen_many) (defBody s_chosen_many) (defScope s_chosen_many) .none kV_chosen_many dc_chosen_many pm_chosen_many an_chosen_many cd_chosen_many ct_chosen_many), sl_chosen_many⟩)
    (c_chosen_many : PySem.W.codeIn K cd_chosen_many "chosen_many" = true)
    (k_chosen_many : PySem.W.keepIn K (.ref f_chosen_many) = true)
    (a_ways_on : PySem.W.nsIn K mainGlobals "ways_on" = some (some (.ref f_ways_on)))
    (l_ways_on : K.lookup f_ways_on = some ⟨oc_ways_on, od_ways_on, .func (PySem.W.fnOf "ways_on" "ways_on" (defArgs s_ways_on) (defBody s_ways_on) (defScope s_ways_on) .none kV_ways_on dc_ways_on pm_ways_on an_ways_on cd_ways_on ct_ways_on), sl_ways_on⟩)
    (c_ways_on : PySem.W.codeIn K cd_ways_on "ways_on" = true)
    (k_ways_on : PySem.W.keepIn K (.ref f_ways_on) = true)
    (a_trees_many : PySem.W.nsIn K mainGlobals "trees_many" = some (some (.ref f_trees_many)))
    (l_trees_many : K.lookup f_trees_many = some ⟨oc_trees_many, od_trees_many, .func (PySem.W.fnOf "trees_many" "trees_many" (defArgs s_trees_many) (defBody s_trees_many) (defScope s_trees_many) (.ref T_trees_many) kV_trees_many dc_trees_many pm_trees_many an_trees_many cd_trees_many ct_trees_many), sl_trees_many⟩)
    (t_trees_many : K.lookup T_trees_many = some ⟨tc_trees_many, tdd_trees_many, .seq #[.int 2 td0_trees_many] tn_trees_many, ts_trees_many⟩)
    (c_trees_many : PySem.W.codeIn K cd_trees_many "trees_many" = true)
    (k_trees_many : PySem.W.keepIn K (.ref f_trees_many) = true)
    (a_law_chosen : PySem.W.nsIn K mainGlobals "_law_chosen" = some (some (.ref f_law_chosen)))
    (l_law_chosen : K.lookup f_law_chosen = some ⟨oc_law_chosen, od_law_chosen, .func (PySem.W.fnOf "_law_chosen" "_law_chosen" (defArgs s_law_chosen) (defBody s_law_chosen) (defScope s_law_chosen) .none kV_law_chosen dc_law_chosen pm_law_chosen an_law_chosen cd_law_chosen ct_law_chosen), sl_law_chosen⟩)
    (c_law_chosen : PySem.W.codeIn K cd_law_chosen "_law_chosen" = true)
    (k_law_chosen : PySem.W.keepIn K (.ref f_law_chosen) = true)
    (a_law_due : PySem.W.nsIn K mainGlobals "_law_due" = some (some (.ref f_law_due)))
    (l_law_due : K.lookup f_law_due = some ⟨oc_law_due, od_law_due, .func (PySem.W.fnOf "_law_due" "_law_due" (defArgs s_law_due) (defBody s_law_due) (defScope s_law_due) .none kV_law_due dc_law_due pm_law_due an_law_due cd_law_due ct_law_due), sl_law_due⟩)
    (c_law_due : PySem.W.codeIn K cd_law_due "_law_due" = true)
    (k_law_due : PySem.W.keepIn K (.ref f_law_due) = true)
    (a_law_pool : PySem.W.nsIn K mainGlobals "_law_pool" = some (some (.ref f_law_pool)))
    (l_law_pool : K.lookup f_law_pool = some ⟨oc_law_pool, od_law_pool, .func (PySem.W.fnOf "_law_pool" "_law_pool" (defArgs s_law_pool) (defBody s_law_pool) (defScope s_law_pool) .none kV_law_pool dc_law_pool pm_law_pool an_law_pool cd_law_pool ct_law_pool), sl_law_pool⟩)
    (c_law_pool : PySem.W.codeIn K cd_law_pool "_law_pool" = true)
    (k_law_pool : PySem.W.keepIn K (.ref f_law_pool) = true)
    (a_law_take : PySem.W.nsIn K mainGlobals "_law_take" = some (some (.ref f_law_take)))
    (l_law_take : K.lookup f_law_take = some ⟨oc_law_take, od_law_take, .func (PySem.W.fnOf "_law_take" "_law_take" (defArgs s_law_take) (defBody s_law_take) (defScope s_law_take) .none kV_law_take dc_law_take pm_law_take an_law_take cd_law_take ct_law_take), sl_law_take⟩)
    (c_law_take : PySem.W.codeIn K cd_law_take "_law_take" = true)
    (k_law_take : PySem.W.keepIn K (.ref f_law_take) = true)
    (a_law_refused : PySem.W.nsIn K mainGlobals "_law_refused" = some (some (.ref f_law_refused)))
    (l_law_refused : K.lookup f_law_refused = some ⟨oc_law_refused, od_law_refused, .func (PySem.W.fnOf "_law_refused" "_law_refused" (defArgs s_law_refused) (defBody s_law_refused) (defScope s_law_refused) .none kV_law_refused dc_law_refused pm_law_refused an_law_refused cd_law_refused ct_law_refused), sl_law_refused⟩)
    (c_law_refused : PySem.W.codeIn K cd_law_refused "_law_refused" = true)
    (k_law_refused : PySem.W.keepIn K (.ref f_law_refused) = true)
    (a_law : PySem.W.nsIn K mainGlobals "law" = some (some (.ref f_law)))
    (l_law : K.lookup f_law = some ⟨oc_law, od_law, .func (PySem.W.fnOf "law" "law" (defArgs s_law) (defBody s_law) (defScope s_law) .none kV_law dc_law pm_law an_law cd_law ct_law), sl_law⟩)
    (c_law : PySem.W.codeIn K cd_law "law" = true)
    (k_law : PySem.W.keepIn K (.ref f_law) = true) :
    ∃ fd : FuncData, (∀ (s : Shared) (v : Value), BindsTo s fd ⟨[v], []⟩ [("_law_script", v)]) ∧ ∀ base : Heap, K.In base → base.Ns mainGlobals mg → FnG l.prog w K mg base CX0 6 fa fd ["_law_script"] (sp_law K) := by
  have e := hfa.symm.trans (PySem.W.mg_of X G a_law)
  cases e
  have T : Txt K mg C_NoNumber := ⟨PySem.W.mg_none_of X G z_LookupError, PySem.W.mg_none_of X G z_bool, PySem.W.mg_none_of X G z_int, PySem.W.mg_none_of X G z_isinstance, PySem.W.mg_none_of X G z_len, PySem.W.mg_none_of X G z_max, PySem.W.mg_none_of X G z_min, PySem.W.mg_none_of X G z_range, PySem.W.mg_none_of X G z_repr, PySem.W.mg_none_of X G z_sum, ⟨_, PySem.W.mg_of X G n_MOST_DEEDS, ⟨_, rfl⟩⟩, ⟨_, PySem.W.mg_of X G n_MOST_TREE, ⟨_, rfl⟩⟩, w_LookupError, y_NoNumber_number, ⟨PySem.W.mg_of X G aC_NoNumber, ⟨PySem.F.excBase_LookupError, PySem.F.store_LookupError, xC_NoNumber, oC_NoNumber, hd_NoNumber, sa_NoNumber, bC_NoNumber, tC_NoNumber, kC_NoNumber⟩, iC_NoNumber, sC_NoNumber, ⟨hg_NoNumber, hk_NoNumber, bC_NoNumber, hd_NoNumber, ha_NoNumber, hn, ht, hm_NoNumber⟩, ⟨hg_NoNumber, hk_NoNumber, bC_NoNumber, hd_NoNumber⟩⟩, f_s5⟩
  have F_is_whole := fun_mk (st := s_is_whole) l_is_whole c_is_whole k_is_whole
  have b_is_whole := F_is_whole.binds (ps := ["thing"]) fun _ _ _ _ _ _ us hl => match us, hl with | [_], _ => rfl
  have F_NoNumber___init__ := fun_mk (st := s_NoNumber___init__) l_NoNumber___init__ c_NoNumber___init__ k_NoNumber___init__
  have b_NoNumber___init__ := F_NoNumber___init__.binds (ps := ["self", "number"]) fun _ _ _ _ _ _ us hl => match us, hl with | [_, _], _ => rfl
  have F_look_at_deeds := fun_mk (st := s_look_at_deeds) l_look_at_deeds c_look_at_deeds k_look_at_deeds
  have b_look_at_deeds := F_look_at_deeds.binds (ps := ["deeds", "most"]) fun _ _ _ _ _ _ us hl => match us, hl with | [_, _], _ => rfl
  have F_is_between := fun_mk (st := s_is_between) l_is_between c_is_between k_is_between
  have b_is_between := F_is_between.binds (ps := ["thing", "least", "most"]) fun _ _ _ _ _ _ us hl => match us, hl with | [_, _, _], _ => rfl
  have F_look_at_number := fun_mk (st := s_look_at_number) l_look_at_number c_look_at_number k_look_at_number
  have b_look_at_number := F_look_at_number.binds (ps := ["thing", "least", "most"]) fun _ _ _ _ _ _ us hl => match us, hl with | [_, _, _], _ => rfl
  have F_ones_in := fun_mk (st := s_ones_in) l_ones_in c_ones_in k_ones_in
  have b_ones_in := F_ones_in.binds (ps := ["mark"]) fun _ _ _ _ _ _ us hl => match us, hl with | [_], _ => rfl
  have F_blocks := fun_mk (st := s_blocks) l_blocks c_blocks k_blocks
  have b_blocks := F_blocks.binds (ps := ["ways_many", "slots", "due_now", "left"]) fun _ _ _ _ _ _ us hl => match us, hl with | [_, _, _, _], _ => rfl
  have F_chosen_many := fun_mk (st := s_chosen_many) l_chosen_many c_chosen_many k_chosen_many
  have b_chosen_many := F_chosen_many.binds (ps := ["many", "some"]) fun _ _ _ _ _ _ us hl => match us, hl with | [_, _], _ => rfl
  have F_ways_on := fun_mk (st := s_ways_on) l_ways_on c_ways_on k_ways_on
  have b_ways_on := F_ways_on.binds (ps := ["many", "deeds"]) fun _ _ _ _ _ _ us hl => match us, hl with | [_, _], _ => rfl
  have F_trees_many := funD_mk (st := s_trees_many) (its := [.int 2 td0_trees_many]) (dvs := [.int 2]) l_trees_many c_trees_many k_trees_many t_trees_many rfl (.cons ⟨_, rfl⟩ .nil) (by simp)
  have b_trees_many_k := swap_binds F_trees_many (ps := ["places", "deeds"]) (ks := ["deeds", "places"]) (by simp) rfl fun _ _ _ _ _ _ _ _ _ its hi => match its, hi with | [_], _ => ⟨_, rfl, rfl⟩
  obtain ⟨ds_trees_many, v_trees_many, b_trees_many⟩ := FunD.binds1 F_trees_many (ps := ["places", "deeds"]) 2 1 (by simp) rfl fun _ _ _ _ _ _ _ us its hu hi => match us, hu, its, hi with | [_, _], _, [_], _ => ⟨_, rfl, rfl⟩
  obtain ⟨ds_trees_many_d1, v_trees_many_d1, b_trees_many_d1⟩ := FunD.binds1 F_trees_many (ps := ["places", "deeds"]) 1 0 (by simp) rfl fun _ _ _ _ _ _ _ us its hu hi => match us, hu, its, hi with | [_], _, [_], _ => ⟨_, rfl, rfl⟩
  have F_law_chosen := fun_mk (st := s_law_chosen) l_law_chosen c_law_chosen k_law_chosen
  have b_law_chosen := F_law_chosen.binds (ps := ["_law_many", "_law_some"]) fun _ _ _ _ _ _ us hl => match us, hl with | [_, _], _ => rfl
  have F_law_due := fun_mk (st := s_law_due) l_law_due c_law_due k_law_due
  have b_law_due := F_law_due.binds (ps := ["_law_size", "_law_few"]) fun _ _ _ _ _ _ us hl => match us, hl with | [_, _], _ => rfl
  have F_law_pool := fun_mk (st := s_law_pool) l_law_pool c_law_pool k_law_pool
  have b_law_pool := F_law_pool.binds (ps := ["_law_script", "_law_k"]) fun _ _ _ _ _ _ us hl => match us, hl with | [_, _], _ => rfl
  have F_law_take := fun_mk (st := s_law_take) l_law_take c_law_take k_law_take
  have b_law_take := F_law_take.binds (ps := ["_law_pool_here", "_law_many"]) fun _ _ _ _ _ _ us hl => match us, hl with | [_, _], _ => rfl
  have F_law_refused := fun_mk (st := s_law_refused) l_law_refused c_law_refused k_law_refused
  have b_law_refused := F_law_refused.binds (ps := ["_law_size", "_law_few", "_law_number"]) fun _ _ _ _ _ _ us hl => match us, hl with | [_, _, _], _ => rfl
  have F_law := fun_mk (st := s_law) l_law c_law k_law
  refine ⟨PySem.W.fnOf "law" "law" (defArgs s_law) (defBody s_law) (defScope s_law) .none kV_law dc_law pm_law an_law cd_law ct_law, fun s v => .of_eq rfl, fun base _ _ => ?_⟩
  have N_is_whole : KN l.prog w K mg base CX0 1 ["thing"] (sp_is_whole) "is_whole" [] := ⟨_, _, [], PySem.W.mg_of X G a_is_whole, k_is_whole, .nil, b_is_whole, ok_is_whole F_is_whole T⟩
  have N_NoNumber___init__ : KM l.prog w K mg base CX0 1 ["self", "number"] (sp_NoNumber___init__ C_NoNumber) C_NoNumber "__init__" [] := ⟨_, _, [], a_NoNumber___init__, u_NoNumber___init__, fn_NoNumber___init__, k_NoNumber___init__, .nil, b_NoNumber___init__, ok_NoNumber___init__ F_NoNumber___init__ T⟩
  have N_look_at_deeds : KN l.prog w K mg base (L2.CX l.prog w) 3 ["deeds", "most"] (sp_look_at_deeds C_NoNumber) "look_at_deeds" [] := ⟨_, _, [], PySem.W.mg_of X G a_look_at_deeds, k_look_at_deeds, .nil, b_look_at_deeds, ok_look_at_deeds F_look_at_deeds T N_is_whole N_NoNumber___init__⟩
  have N_is_between : KN l.prog w K mg base CX0 2 ["thing", "least", "most"] (sp_is_between) "is_between" [] := ⟨_, _, [], PySem.W.mg_of X G a_is_between, k_is_between, .nil, b_is_between, ok_is_between F_is_between T N_is_whole⟩
  have N_look_at_number : KN l.prog w K mg base (L2.CX l.prog w) 3 ["thing", "least", "most"] (sp_look_at_number C_NoNumber) "look_at_number" [] := ⟨_, _, [], PySem.W.mg_of X G a_look_at_number, k_look_at_number, .nil, b_look_at_number, ok_look_at_number F_look_at_number T N_is_between N_NoNumber___init__⟩
  have N_ones_in : KN l.prog w K mg base CX0 1 ["mark"] (sp_ones_in K) "ones_in" [] := ⟨_, _, [], PySem.W.mg_of X G a_ones_in, k_ones_in, .nil, b_ones_in, ok_ones_in F_ones_in T⟩
  have N_blocks : KN l.prog w K mg base CX0 2 ["ways_many", "slots", "due_now", "left"] (sp_blocks K) "blocks" [] := ⟨_, _, [], PySem.W.mg_of X G a_blocks, k_blocks, .nil, b_blocks, ok_blocks F_blocks T N_ones_in⟩
  have N_chosen_many : KN l.prog w K mg base CX0 1 ["many", "some"] (sp_chosen_many) "chosen_many" [] := ⟨_, _, [], PySem.W.mg_of X G a_chosen_many, k_chosen_many, .nil, b_chosen_many, ok_chosen_many F_chosen_many T⟩
  have N_ways_on : KN l.prog w K mg base CX0 2 ["many", "deeds"] (sp_ways_on K) "ways_on" [] := ⟨_, _, [], PySem.W.mg_of X G a_ways_on, k_ways_on, .nil, b_ways_on, ok_ways_on F_ways_on T N_chosen_many⟩
  have N_trees_many_k : KNK l.prog w K mg base (L2.CX l.prog w) 4 ["places", "deeds"] (sp_trees_many K C_NoNumber) "trees_many" ["deeds", "places"] := ⟨_, _, PySem.W.mg_of X G a_trees_many, k_trees_many, b_trees_many_k, ok_trees_many F_trees_many T N_look_at_deeds N_look_at_number N_blocks N_ways_on⟩
  have N_trees_many : KN l.prog w K mg base (L2.CX l.prog w) 4 ["places", "deeds"] (sp_trees_many K C_NoNumber) "trees_many" [] := ⟨_, _, _, PySem.W.mg_of X G a_trees_many, k_trees_many, v_trees_many, b_trees_many, ok_trees_many F_trees_many T N_look_at_deeds N_look_at_number N_blocks N_ways_on⟩
  have N_trees_many_d1 : KN l.prog w K mg base (L2.CX l.prog w) 4 ["places", "deeds"] (sp_trees_many K C_NoNumber) "trees_many" [.int 2] := ⟨_, _, _, PySem.W.mg_of X G a_trees_many, k_trees_many, v_trees_many_d1, b_trees_many_d1, ok_trees_many F_trees_many T N_look_at_deeds N_look_at_number N_blocks N_ways_on⟩
  have N_law_chosen : KN l.prog w K mg base CX0 1 ["_law_many", "_law_some"] (sp_law_chosen) "_law_chosen" [] := ⟨_, _, [], PySem.W.mg_of X G a_law_chosen, k_law_chosen, .nil, b_law_chosen, ok_law_chosen F_law_chosen T⟩
  have N_law_due : KN l.prog w K mg base CX0 2 ["_law_size", "_law_few"] (sp_law_due) "_law_due" [] := ⟨_, _, [], PySem.W.mg_of X G a_law_due, k_law_due, .nil, b_law_due, ok_law_due F_law_due T N_law_chosen⟩
  have N_law_pool : KN l.prog w K mg base CX0 1 ["_law_script", "_law_k"] (sp_law_pool K) "_law_pool" [] := ⟨_, _, [], PySem.W.mg_of X G a_law_pool, k_law_pool, .nil, b_law_pool, ok_law_pool F_law_pool T⟩
  have N_law_take : KN l.prog w K mg base CX0 1 ["_law_pool_here", "_law_many"] (sp_law_take) "_law_take" [] := ⟨_, _, [], PySem.W.mg_of X G a_law_take, k_law_take, .nil, b_law_take, ok_law_take F_law_take T⟩
  have N_law_refused : KNG l.prog w K mg base CX0 5 ["_law_size", "_law_few", "_law_number"] (sp_law_refused K C_NoNumber) "_law_refused" [] := ⟨_, _, [], PySem.W.mg_of X G a_law_refused, k_law_refused, .nil, b_law_refused, ok_law_refused F_law_refused T N_trees_many⟩
  exact ok_law F_law T N_trees_many_k N_law_due N_trees_many_d1 N_law_pool N_law_take N_law_refused N_trees_many
theorem walk {l : PySem.W.OpenLaw} {q : Program} {loose : List Str} {XP : (Str → Option Value) → Heap → Prop} {YP : World → Heap → Prop} {d : DefRec} {K : Params → PySem.W.Frag} (hn : l.most = some 63) (hdf : d.params.defaults = [])
    (hY : ∀ (w : World) (h : Heap), YP w h → (K w.params).In h)
    (F : ∀ (w : World) (mg : Str → Option Value) (fa : Addr) (h : Heap), (K w.params).In h → h.Ns mainGlobals mg → mg d.name = some (.ref fa) →
      ∃ fd : FuncData, (∀ (s : Shared) (u : Value), BindsTo s fd ⟨[u], []⟩ [("_law_script", u)]) ∧ ∀ base : Heap, (K w.params).In base → base.Ns mainGlobals mg → FnG l.prog w (K w.params) mg base CX0 6 fa fd ["_law_script"] (sp_law (K w.params))) :
    PySem.W.WalkO q loose XP YP l.row.toRowW d [] (fun f vs => PySem.call f vs) :=
  L2.walk_ofG (n := 63) (k := 6) (x := "_law_script") (sp := fun w => sp_law (K w.params)) hn (by decide) hdf ⟨rfl, by decide, by decide⟩ hY F (fun _ _ a ns hl _ hS => ⟨a, ns, rfl, hS, hl, fun _ => rfl⟩)
end Toy

open PySem PySem.W PyProof.Rows in
set_option maxRecDepth 100000 in
set_option maxHeartbeats 0 in
theorem PySem.Challenge.cw_undotrees_k35_trees_counted_holds : PySem.Challenge.rw_undotrees_k35_trees_counted.Holds := by
  w_on; o_law; k_head; (case hw => w_witness2)
  k_fill
  refine Toy.walk (l := PySem.Challenge.rw_undotrees_k35_trees_counted) rfl rfl (fun w h Y => PySem.W.kIn_of Y) ?F
  case F =>
    intro w mg fa h KX G hmg
    refine' Toy.all_mk KX G hmg ?z_LookupError ?z_bool ?z_int ?z_isinstance ?z_len ?z_max ?z_min ?z_range ?z_repr ?z_sum ?n_MOST_DEEDS ?n_MOST_TREE ?aC_NoNumber ?xC_NoNumber ?kC_NoNumber ?bC_NoNumber ?tC_NoNumber ?iC_NoNumber ?sC_NoNumber ?hg_NoNumber ?hk_NoNumber ?hd_NoNumber ?ha_NoNumber ?hm_NoNumber ?oC_NoNumber ?sa_NoNumber ?hn ?ht ?w_LookupError ?y_NoNumber_number ?f_s5 ?a_is_whole ?l_is_whole ?c_is_whole ?k_is_whole ?a_NoNumber___init__ ?l_NoNumber___init__ ?c_NoNumber___init__ ?k_NoNumber___init__ ?u_NoNumber___init__ ?fn_NoNumber___init__ ?a_look_at_deeds ?l_look_at_deeds ?c_look_at_deeds ?k_look_at_deeds ?a_is_between ?l_is_between ?c_is_between ?k_is_between ?a_look_at_number ?l_look_at_number ?c_look_at_number ?k_look_at_number ?a_ones_in ?l_ones_in ?c_ones_in ?k_ones_in ?a_blocks ?l_blocks ?c_blocks ?k_blocks ?a_chosen_many ?l_chosen_many ?c_chosen_many ?k_chosen_many ?a_ways_on ?l_ways_on ?c_ways_on ?k_ways_on ?a_trees_many ?l_trees_many ?t_trees_many ?c_trees_many ?k_trees_many ?a_law_chosen ?l_law_chosen ?c_law_chosen ?k_law_chosen ?a_law_due ?l_law_due ?c_law_due ?k_law_due ?a_law_pool ?l_law_pool ?c_law_pool ?k_law_pool ?a_law_take ?l_law_take ?c_law_take ?k_law_take ?a_law_refused ?l_law_refused ?c_law_refused ?k_law_refused ?a_law ?l_law ?c_law ?k_law
    (case z_LookupError => k_is)
    (case z_bool => k_is)
    (case z_int => k_is)
    (case z_isinstance => k_is)
    (case z_len => k_is)
    (case z_max => k_is)
    (case z_min => k_is)
    (case z_range => k_is)
    (case z_repr => k_is)
    (case z_sum => k_is)
    (case n_MOST_DEEDS => k_is)
    (case n_MOST_TREE => k_is)
    (case aC_NoNumber => k_is)
    (case xC_NoNumber => kx_is)
    (case kC_NoNumber => k_is)
    (case bC_NoNumber => k_is)
    (case tC_NoNumber => k_is)
    (case iC_NoNumber => k_is)
    (case sC_NoNumber => first | rfl | k_is)
    (case hg_NoNumber => k_is)
    (case hk_NoNumber => k_is)
    (case hd_NoNumber => k_is)
    (case ha_NoNumber => k_is)
    (case hm_NoNumber => k_is)
    (case oC_NoNumber => kx_is)
    (case sa_NoNumber => k_is)
    (case hn => k_is)
    (case ht => k_is)
    (case w_LookupError => k_is)
    (case y_NoNumber_number => k_is)
    (case f_s5 => k_is)
    (case a_is_whole => k_is)
    (case l_is_whole => k_is)
    (case c_is_whole => k_is)
    (case k_is_whole => k_is)
    (case a_NoNumber___init__ => k_is)
    (case l_NoNumber___init__ => k_is)
    (case c_NoNumber___init__ => k_is)
    (case k_NoNumber___init__ => k_is)
    (case u_NoNumber___init__ => k_is)
    (case fn_NoNumber___init__ => k_is)
    (case a_look_at_deeds => k_is)
    (case l_look_at_deeds => k_is)
    (case c_look_at_deeds => k_is)
    (case k_look_at_deeds => k_is)
    (case a_is_between => k_is)
    (case l_is_between => k_is)
    (case c_is_between => k_is)
    (case k_is_between => k_is)
    (case a_look_at_number => k_is)
    (case l_look_at_number => k_is)
    (case c_look_at_number => k_is)
    (case k_look_at_number => k_is)
    (case a_ones_in => k_is)
    (case l_ones_in => k_is)
    (case c_ones_in => k_is)
    (case k_ones_in => k_is)
    (case a_blocks => k_is)
    (case l_blocks => k_is)
    (case c_blocks => k_is)
    (case k_blocks => k_is)
    (case a_chosen_many => k_is)
    (case l_chosen_many => k_is)
    (case c_chosen_many => k_is)
    (case k_chosen_many => k_is)
    (case a_ways_on => k_is)
    (case l_ways_on => k_is)
    (case c_ways_on => k_is)
    (case k_ways_on => k_is)
    (case a_trees_many => k_is)
    (case l_trees_many => k_is)
    (case t_trees_many => k_is)
    (case c_trees_many => k_is)
    (case k_trees_many => k_is)
    (case a_law_chosen => k_is)
    (case l_law_chosen => k_is)
    (case c_law_chosen => k_is)
    (case k_law_chosen => k_is)
    (case a_law_due => k_is)
    (case l_law_due => k_is)
    (case c_law_due => k_is)
    (case k_law_due => k_is)
    (case a_law_pool => k_is)
    (case l_law_pool => k_is)
    (case c_law_pool => k_is)
    (case k_law_pool => k_is)
    (case a_law_take => k_is)
    (case l_law_take => k_is)
    (case c_law_take => k_is)
    (case k_law_take => k_is)
    (case a_law_refused => k_is)
    (case l_law_refused => k_is)
    (case c_law_refused => k_is)
    (case k_law_refused => k_is)
    (case a_law => k_is)
    (case l_law => k_is)
    (case c_law => k_is)
    (case k_law => k_is)

