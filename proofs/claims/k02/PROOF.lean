import PyProof.Rows.All
import Wide.All
import OpenK.AllK
import Wide.FinOn
import HandS.ForMost
import HandS.Walk
import HandS.StrMore
import HandS.Replace
import HandS.IsInst
import HandS.Style
import HandS.Steps
import HandS.Evl
import HandS.Wide
import HandS.Defaults
import HandS.SortKw
import HandS.Codes
import HandS.More
import HandS.TryOnly
import KE.DataCmp
import KE.GoesZip
import KE.GoesMore
import KE.GoesEnum
import KE.SortKeyHeap
import KE.KRevSl
import PyProof.StrBlock2
import HandS.Strs
import HandS.Set
import KE.SortData
import PySem.Challenge.RW_undotrees_k02_contrary_and_plain
set_option Elab.async false
set_option linter.all false
set_option maxRecDepth 100000
set_option maxHeartbeats 4000000

namespace RowM
/-- the twelve signs, in their order -/
def sgns : List Nat := [97, 65, 98, 66, 99, 67, 100, 68, 101, 69, 102, 70]
def con (c : Nat) : Nat := if 97 ≤ c then c - 32 else c + 32
def ix (c : Nat) : Nat := sgns.idxOf c
def lo (c : Nat) : Nat := if 97 ≤ c then c else c + 32
def up (c : Nat) : Nat := if 97 ≤ c then c - 32 else c
abbrev Row (l : List Nat) : Prop := ∀ c ∈ l, c ∈ sgns
theorem con_mem {c : Nat} (h : c ∈ sgns) : con c ∈ sgns := by
  have : ∀ c ∈ sgns, con c ∈ sgns := by decide
  exact this c h
theorem con_con {c : Nat} (h : c ∈ sgns) : con (con c) = c := by
  have : ∀ c ∈ sgns, con (con c) = c := by decide
  exact this c h
theorem con_ne {c : Nat} (h : c ∈ sgns) : con c ≠ c := by
  have : ∀ c ∈ sgns, con c ≠ c := by decide
  exact this c h
theorem con_inj {a b : Nat} (ha : a ∈ sgns) (hb : b ∈ sgns) (h : con a = con b) : a = b := by
  rw [← con_con ha, h, con_con hb]
/-! ### stacks: the plain row, its last sign first -/
def push (st : List Nat) (c : Nat) : List Nat := match st with
  | [] => [c]
  | d :: r => if d = con c then r else c :: d :: r
theorem push_cons (d c : Nat) (r : List Nat) : push (d :: r) c = if d = con c then r else c :: d :: r := rfl
def act (w st : List Nat) : List Nat := w.foldl push st
def plain (w : List Nat) : List Nat := (act w []).reverse
def turn (w : List Nat) : List Nat := (w.reverse).map con
/-- no sign next to its contrary -/
def Red : List Nat → Prop
  | [] => True
  | [_] => True
  | a :: b :: r => b ≠ con a ∧ Red (b :: r)
theorem Red.tail {a : Nat} {r : List Nat} (h : Red (a :: r)) : Red r := by
  cases r with
  | nil => trivial
  | cons b r => exact h.2
theorem Row.tail {a : Nat} {r : List Nat} (h : Row (a :: r)) : Row r := fun c hc => h c (List.mem_cons_of_mem _ hc)
theorem Row.head {a : Nat} {r : List Nat} (h : Row (a :: r)) : a ∈ sgns := h a List.mem_cons_self
theorem push_row {st : List Nat} {c : Nat} (h : Row st) (hc : c ∈ sgns) : Row (push st c) := by
  cases st with
  | nil => intro d hd; simp [push] at hd; rw [hd]; exact hc
  | cons d r =>
    rw [push_cons]
    by_cases q : d = con c
    · rw [if_pos q]
      exact Row.tail h
    · rw [if_neg q]
      intro e he
      rcases List.mem_cons.mp he with rfl | he
      · exact hc
      · exact h e he
theorem push_red {st : List Nat} {c : Nat} (h : Red st) : Red (push st c) := by
  cases st with
  | nil => simp [push, Red]
  | cons d r =>
    rw [push_cons]
    by_cases q : d = con c
    · rw [if_pos q]
      exact h.tail
    · rw [if_neg q]
      exact ⟨q, h⟩
theorem push_push {st : List Nat} {c : Nat} (h : Red st) (hc : c ∈ sgns) : push (push st c) (con c) = st := by
  cases st with
  | nil => simp [push, con_con hc]
  | cons d r =>
    by_cases e : d = con c
    · simp only [push, if_pos e]
      cases r with
      | nil => simp [e]
      | cons b r =>
        have hb : b ≠ c := by
          intro q
          have := h.1
          rw [e, con_con hc] at this
          exact this q
        simp only [con_con hc, if_neg hb, e]
    · simp only [push, if_neg e, con_con hc, if_pos]
theorem push_push' {st : List Nat} {c : Nat} (h : Red st) (hc : c ∈ sgns) : push (push st (con c)) c = st := by
  have := push_push (c := con c) h (con_mem hc)
  rw [con_con hc] at this
  exact this
theorem act_append (u v st : List Nat) : act (u ++ v) st = act v (act u st) := by simp [act, List.foldl_append]
theorem act_cons (a : Nat) (w st : List Nat) : act (a :: w) st = act w (push st a) := rfl
theorem act_row : ∀ (w st : List Nat), Row w → Row st → Row (act w st)
  | [], _, _, h => h
  | a :: w, st, hw, h => act_row w (push st a) (Row.tail hw) (push_row h (Row.head hw))
theorem act_red : ∀ (w st : List Nat), Red st → Red (act w st)
  | [], _, h => h
  | a :: w, st, h => act_red w (push st a) (push_red h)
theorem turn_cons (a : Nat) (w : List Nat) : turn (a :: w) = turn w ++ [con a] := by simp [turn]
theorem turn_append (u v : List Nat) : turn (u ++ v) = turn v ++ turn u := by simp [turn]
theorem turn_row {w : List Nat} (h : Row w) : Row (turn w) := by
  intro c hc
  simp only [turn, List.mem_map, List.mem_reverse] at hc
  obtain ⟨d, hd, rfl⟩ := hc
  exact con_mem (h d hd)
theorem turn_turn {w : List Nat} (h : Row w) : turn (turn w) = w := by
  unfold turn
  rw [← List.map_reverse, List.reverse_reverse, List.map_map]
  conv => rhs; rw [← List.map_id w]
  exact List.map_congr_left fun c hc => con_con (h c hc)
theorem turn_length (w : List Nat) : (turn w).length = w.length := by simp [turn]
theorem act_turn : ∀ {w st : List Nat}, Row w → Red st → act (turn w) (act w st) = st
  | [], _, _, _ => rfl
  | a :: w, st, hw, h => by
    rw [turn_cons, act_append]
    have e : act (a :: w) st = act w (push st a) := rfl
    rw [e, act_turn (Row.tail hw) (push_red h)]
    exact push_push h (Row.head hw)
theorem act_turn' {w st : List Nat} (hw : Row w) (h : Red st) : act w (act (turn w) st) = st := by
  have := act_turn (turn_row hw) h
  rw [turn_turn hw] at this
  exact this
/-- an unplain pair goes -/
theorem act_pair {c : Nat} {u v st : List Nat} (hc : c ∈ sgns) (h : Red st) : act (u ++ c :: con c :: v) st = act (u ++ v) st := by
  rw [act_append, act_append]
  show act v (push (push (act u st) c) (con c)) = _
  rw [push_push (act_red _ _ h) hc]
theorem act_pair' {c : Nat} {u v st : List Nat} (hc : c ∈ sgns) (h : Red st) : act (u ++ con c :: c :: v) st = act (u ++ v) st := by
  have := act_pair (c := con c) (u := u) (v := v) (con_mem hc) h
  rw [con_con hc] at this
  exact this
theorem Red.snoc_iff : ∀ {l : List Nat} {a b : Nat}, Red (l ++ [a, b]) ↔ Red (l ++ [a]) ∧ b ≠ con a
  | [], a, b => by simp [Red]
  | [x], a, b => by simp [Red, and_assoc]
  | x :: y :: l, a, b => by
    have := Red.snoc_iff (l := y :: l) (a := a) (b := b)
    simp only [List.cons_append] at this ⊢
    simp only [Red]
    constructor
    · rintro ⟨h1, h2⟩
      exact ⟨⟨h1, (this.mp h2).1⟩, (this.mp h2).2⟩
    · rintro ⟨⟨h1, h2⟩, h3⟩
      exact ⟨h1, this.mpr ⟨h2, h3⟩⟩
/-- a plain row as a stack: the same read backwards -/
theorem red_reverse : ∀ {l : List Nat}, Row l → (Red l ↔ Red l.reverse)
  | [], _ => by simp [Red]
  | [a], _ => by simp [Red]
  | a :: b :: r, h => by
    have ih := red_reverse (l := b :: r) (Row.tail h)
    rw [List.reverse_cons, List.reverse_cons, List.append_assoc]
    show Red (a :: b :: r) ↔ Red (r.reverse ++ [b, a])
    rw [Red.snoc_iff]
    rw [List.reverse_cons] at ih
    rw [← ih]
    show (b ≠ con a ∧ Red (b :: r)) ↔ _
    constructor
    · rintro ⟨h1, h2⟩
      refine ⟨h2, fun e => h1 ?_⟩
      rw [e, con_con (Row.head (Row.tail h))]
    · rintro ⟨h1, h2⟩
      refine ⟨fun e => h2 ?_, h1⟩
      rw [e, con_con (Row.head h)]
theorem red_drop : ∀ {l m : List Nat}, Red (l ++ m) → Red m
  | [], _, h => h
  | _ :: l, m, h => red_drop (l := l) (Red.tail h)
theorem act_of_red : ∀ {p st : List Nat}, Red (p.reverse ++ st) → act p st = p.reverse ++ st
  | [], _, _ => by simp [act]
  | a :: p, st, h => by
    have e : (a :: p).reverse ++ st = p.reverse ++ (a :: st) := by simp
    rw [e] at h ⊢
    show act p (push st a) = _
    have hp : push st a = a :: st := by
      cases st with
      | nil => rfl
      | cons d r =>
        have hr : Red (a :: d :: r) := red_drop h
        rw [push_cons, if_neg hr.1]
    rw [hp]
    exact act_of_red h
theorem plain_row {w : List Nat} (h : Row w) : Row (plain w) := fun c hc => act_row _ _ h (fun _ q => (by cases q)) c (List.mem_reverse.mp hc)
theorem plain_red {w : List Nat} (h : Row w) : Red (plain w) := by
  unfold plain
  exact (red_reverse (act_row _ _ h fun _ q => (by cases q))).mp (act_red w _ (by trivial))
theorem plain_of_red {w : List Nat} (h : Row w) (r : Red w) : plain w = w := by
  unfold plain
  rw [act_of_red (by rw [List.append_nil]; exact (red_reverse h).mp r), List.append_nil, List.reverse_reverse]
theorem plain_plain {w : List Nat} (h : Row w) : plain (plain w) = plain w := plain_of_red (plain_row h) (plain_red h)
theorem plain_pair {c : Nat} {u v : List Nat} (hc : c ∈ sgns) : plain (u ++ c :: con c :: v) = plain (u ++ v) := by
  unfold plain
  rw [act_pair hc (by trivial)]
theorem push_plain {w : List Nat} {c : Nat} : act (w ++ [c]) [] = push (act w []) c := by rw [act_append]; rfl
/-- a row and it made plain act alike on plain stacks -/
theorem act_plain_aux : ∀ {w : List Nat}, Row w → ∀ {st : List Nat}, Red st → Row st → act (plain w) st = act w st := by
  intro w
  generalize hn : w.length = n
  induction n generalizing w with
  | zero =>
    intro h st _ _
    have : w = [] := List.eq_nil_of_length_eq_zero hn
    subst this
    rfl
  | succ n ih =>
    intro h st hr hs
    obtain ⟨u, c, rfl⟩ : ∃ u c, w = u ++ [c] := ⟨w.dropLast, w.getLast (by intro e; simp [e] at hn), (List.dropLast_concat_getLast _).symm⟩
    have hu : Row u := fun d hd => h d (List.mem_append_left _ hd)
    have hc : c ∈ sgns := h c (by simp)
    have hl : u.length = n := by simp at hn; exact hn
    have e := ih hl hu hr hs
    rw [act_append]
    show act (plain (u ++ [c])) st = push (act u st) c
    rw [← e]
    unfold plain
    rw [push_plain]
    cases hst : act u [] with
    | nil => simp [push, act]
    | cons d r =>
      by_cases q : d = con c
      · simp only [push, if_pos q]
        have e2 : (d :: r).reverse = r.reverse ++ [d] := by simp
        rw [e2, act_append]
        show _ = push (push (act r.reverse st) d) c
        rw [q, push_push' (act_red _ _ hr) hc]
      · simp only [push, if_neg q]
        have e2 : (c :: d :: r).reverse = (d :: r).reverse ++ [c] := by simp
        rw [e2, act_append]
        rfl
theorem act_plain {w st : List Nat} (h : Row w) (hr : Red st) (hs : Row st) : act (plain w) st = act w st := act_plain_aux h hr hs
theorem nil_row : Row [] := fun _ q => (by cases q)
theorem plain_turn {w : List Nat} (h : Row w) : plain (turn w) = turn (plain w) := by
  have hp := plain_row h
  have rp : Red (turn (plain w)) := by
    unfold turn
    have : ∀ l : List Nat, Row l → Red l → Red (l.map con) := by
      intro l
      induction l with
      | nil => intros; trivial
      | cons a l ih =>
        cases l with
        | nil => intros; trivial
        | cons b l =>
          intro hl hr
          refine ⟨fun e => hr.1 ?_, ih (Row.tail hl) hr.2⟩
          have := con_inj (Row.head (Row.tail hl)) (con_mem (Row.head hl)) e
          exact this
    exact this _ (fun c hc => hp c (List.mem_reverse.mp hc)) ((red_reverse hp).mp (plain_red h))
  have e : act (turn w) [] = act (turn (plain w)) [] := by
    have h1 : act w (act (turn w) []) = [] := act_turn' h (by trivial)
    have r1 : Red (act (turn w) []) := act_red _ _ (by trivial)
    have w1 : Row (act (turn w) []) := act_row _ _ (turn_row h) nil_row
    rw [← act_plain h r1 w1] at h1
    have h2 := act_turn (w := plain w) (st := act (turn w) []) hp r1
    rw [h1] at h2
    exact h2.symm
  have e2 : plain (turn w) = plain (turn (plain w)) := by unfold plain at *; rw [e]
  rw [e2, plain_of_red (turn_row hp) rp]
theorem plain_there_back {u : List Nat} (h : Row u) : plain (u ++ turn u) = [] := by
  unfold plain
  rw [act_append, act_turn h (by trivial)]
  rfl
theorem push_length (st : List Nat) (c : Nat) : (push st c).length ≤ st.length + 1 := by
  cases st with
  | nil => simp [push]
  | cons d r =>
    rw [push_cons]
    by_cases q : d = con c
    · rw [if_pos q]; simp; omega
    · rw [if_neg q]; simp
theorem act_length : ∀ (w st : List Nat), (act w st).length ≤ st.length + w.length
  | [], st => by simp [act]
  | a :: w, st => by
    have := act_length w (push st a)
    have h2 := push_length st a
    show (act w (push st a)).length ≤ _
    simp only [List.length_cons]
    omega
theorem plain_length (w : List Nat) : (plain w).length ≤ w.length := by
  unfold plain
  rw [List.length_reverse]
  simpa using act_length w []
/-! ### the order of rows -/
def lexI : List Nat → List Nat → Bool
  | a :: l, b :: m => if a = b then lexI l m else decide (a < b)
  | _, _ => false
def aheadL : List Nat → List Nat → Bool
  | a :: l, b :: m => if a = b then aheadL l m else if lo a ≠ lo b then decide (lo a < lo b) else decide (97 ≤ a)
  | _, _ => false
def before (l m : List Nat) : Bool := if l.length = m.length then lexI (l.map ix) (m.map ix) else decide (l.length < m.length)
theorem ix_inj {a b : Nat} (ha : a ∈ sgns) (hb : b ∈ sgns) : ix a = ix b ↔ a = b := by
  have : ∀ a ∈ sgns, ∀ b ∈ sgns, (ix a = ix b ↔ a = b) := by decide
  exact this a ha b hb
theorem ix_lt {a b : Nat} (ha : a ∈ sgns) (hb : b ∈ sgns) (h : a ≠ b) : decide (ix a < ix b) = (if lo a ≠ lo b then decide (lo a < lo b) else decide (97 ≤ a)) := by
  have : ∀ a ∈ sgns, ∀ b ∈ sgns, a ≠ b → decide (ix a < ix b) = (if lo a ≠ lo b then decide (lo a < lo b) else decide (97 ≤ a)) := by decide
  exact this a ha b hb h
theorem ahead_lex : ∀ {l m : List Nat}, Row l → Row m → aheadL l m = lexI (l.map ix) (m.map ix)
  | [], _, _, _ => by simp [aheadL, lexI]
  | a :: l, [], _, _ => by simp [aheadL, lexI]
  | a :: l, b :: m, hl, hm => by
    have ih := ahead_lex (Row.tail hl) (Row.tail hm)
    simp only [aheadL, List.map_cons, lexI, ix_inj (Row.head hl) (Row.head hm)]
    by_cases e : a = b
    · rw [if_pos e, if_pos e, ih]
    · rw [if_neg e, if_neg e, ix_lt (Row.head hl) (Row.head hm) e]
theorem lexI_trans : ∀ {l m n : List Nat}, l.length = m.length → m.length = n.length → lexI l m = true → lexI m n = true → lexI l n = true
  | [], _, _, _, _, h, _ => by simp [lexI] at h
  | a :: l, [], _, h, _, _, _ => by simp at h
  | a :: l, b :: m, [], _, h, _, _ => by simp at h
  | a :: l, b :: m, c :: n, h1, h2, h3, h4 => by
    simp only [lexI] at h3 h4 ⊢
    have e1 : l.length = m.length := by simpa using h1
    have e2 : m.length = n.length := by simpa using h2
    by_cases p : a = b
    · subst p
      rw [if_pos rfl] at h3
      by_cases q : a = c
      · subst q
        rw [if_pos rfl] at h4 ⊢
        exact lexI_trans e1 e2 h3 h4
      · rw [if_neg q] at h4 ⊢
        exact h4
    · rw [if_neg p] at h3
      have h3' := of_decide_eq_true h3
      by_cases q : b = c
      · subst q
        rw [if_neg p]
        exact h3
      · rw [if_neg q] at h4
        have h4' := of_decide_eq_true h4
        have : a ≠ c := by omega
        rw [if_neg this]
        exact decide_eq_true (by omega)
theorem before_trans {l m n : List Nat} (h1 : before l m = true) (h2 : before m n = true) : before l n = true := by
  unfold before at *
  by_cases e1 : l.length = m.length
  · rw [if_pos e1] at h1
    by_cases e2 : m.length = n.length
    · rw [if_pos e2] at h2
      rw [if_pos (e1.trans e2)]
      exact lexI_trans (by simpa using e1) (by simpa using e2) h1 h2
    · rw [if_neg e2] at h2
      have := of_decide_eq_true h2
      rw [if_neg (by omega)]
      exact decide_eq_true (by omega)
  · rw [if_neg e1] at h1
    have h1' := of_decide_eq_true h1
    by_cases e2 : m.length = n.length
    · rw [if_neg (by omega)]
      exact decide_eq_true (by omega)
    · rw [if_neg e2] at h2
      have := of_decide_eq_true h2
      rw [if_neg (by omega)]
      exact decide_eq_true (by omega)
end RowM

namespace WalkM
open RowM
/-! ### places: a plain row goes on by a sign -/
def on (p : List Nat) (c : Nat) : List Nat := if p.getLast? = some (con c) then p.dropLast else p ++ [c]
theorem on_push (st : List Nat) (c : Nat) : on st.reverse c = (push st c).reverse := by
  cases st with
  | nil => simp [on, push]
  | cons d r =>
    unfold on
    rw [push_cons, List.getLast?_reverse, List.head?_cons]
    by_cases q : d = con c
    · rw [if_pos q, if_pos (by rw [q])]
      simp
    · rw [if_neg q, if_neg (by intro h; injection h with h; exact q h)]
      simp
theorem plain_snoc (w : List Nat) (c : Nat) : plain (w ++ [c]) = on (plain w) c := by
  unfold plain
  rw [act_append, on_push]
  rfl
theorem plain_nil : plain [] = [] := rfl
theorem foldl_on : ∀ (w p : List Nat), w.foldl on p = (act w p.reverse).reverse
  | [], p => by simp [act]
  | c :: w, p => by
    rw [List.foldl_cons, foldl_on w (on p c)]
    have e : (on p c).reverse = push p.reverse c := by
      have := on_push p.reverse c
      rw [List.reverse_reverse] at this
      rw [this, List.reverse_reverse]
    rw [e]
    rfl
theorem plain_fold (w : List Nat) : w.foldl on [] = plain w := foldl_on w []
/-- a plain row -/
def PRow (p : List Nat) : Prop := Row p ∧ Red p
theorem prow_plain {w : List Nat} (h : Row w) : PRow (plain w) := ⟨plain_row h, plain_red h⟩
theorem prow_nil : PRow [] := ⟨nil_row, trivial⟩
theorem plain_prow {p : List Nat} (h : PRow p) : plain p = p := plain_of_red h.1 h.2
theorem prow_iff {p : List Nat} (h : Row p) : plain p = p ↔ PRow p := ⟨fun e => e ▸ prow_plain h, plain_prow⟩
theorem prow_on {p : List Nat} {c : Nat} (h : PRow p) (hc : c ∈ sgns) : PRow (on p c) := by
  have e : on p c = plain (p ++ [c]) := by rw [plain_snoc, plain_prow h]
  rw [e]
  refine prow_plain fun d hd => ?_
  rcases List.mem_append.mp hd with q | q
  · exact h.1 d q
  · rw [List.mem_singleton.mp q]; exact hc
theorem on_plain {p : List Nat} (c : Nat) (h : PRow p) : plain (p ++ [c]) = on p c := by rw [plain_snoc, plain_prow h]
theorem red_init : ∀ {l m : List Nat}, Red (l ++ m) → Red l
  | [], _, _ => trivial
  | [_], _, _ => trivial
  | a :: b :: l, m, h => ⟨h.1, red_init (l := b :: l) (m := m) h.2⟩
theorem prow_drop {p : List Nat} (h : PRow p) : PRow p.dropLast := by
  refine ⟨fun c hc => h.1 c (List.dropLast_subset p hc), ?_⟩
  by_cases e : p = []
  · subst e; trivial
  · have := List.dropLast_concat_getLast e
    exact red_init (m := [p.getLast e]) (by rw [this]; exact h.2)
theorem on_length (p : List Nat) (c : Nat) : (on p c).length ≤ p.length + 1 := by
  unfold on
  split <;> simp
  omega
/-! ### the places of a row, in the order in which they come -/
def addK (ks : List (List Nat)) (p : List Nat) : List (List Nat) := if p ∈ ks then ks else ks ++ [p]
theorem mem_addK {ks : List (List Nat)} {p q : List Nat} : q ∈ addK ks p ↔ q ∈ ks ∨ q = p := by
  unfold addK
  split
  · rename_i h
    exact ⟨.inl, fun z => z.elim id fun e => e ▸ h⟩
  · simp
theorem addK_nodup {ks : List (List Nat)} {p : List Nat} (h : ks.Nodup) : (addK ks p).Nodup := by
  unfold addK
  split
  · exact h
  · rename_i q
    refine List.nodup_append.mpr ⟨h, by simp, ?_⟩
    intro a ha b hb e
    rw [List.mem_singleton.mp hb] at e
    exact q (e ▸ ha)
theorem addK_length (ks : List (List Nat)) (p : List Nat) : (addK ks p).length ≤ ks.length + 1 := by
  unfold addK
  split <;> simp
def goSt (l : List Nat) : List Nat × List (List Nat) := l.foldl (fun st c => (on st.1 c, addK st.2 (on st.1 c))) ([], [[]])
def gone (l : List Nat) : List (List Nat) := (goSt l).2
theorem goSt_snoc (l : List Nat) (c : Nat) : goSt (l ++ [c]) = (on (goSt l).1 c, addK (goSt l).2 (on (goSt l).1 c)) := by
  unfold goSt
  rw [List.foldl_append]
  rfl
theorem snoc_ind {P : List Nat → Prop} (h0 : P []) (h1 : ∀ l c, P l → P (l ++ [c])) (l : List Nat) : P l := by
  have : ∀ m : List Nat, P m.reverse := by
    intro m
    induction m with
    | nil => exact h0
    | cons a m ih => rw [List.reverse_cons]; exact h1 _ _ ih
  have q := this l.reverse
  rwa [List.reverse_reverse] at q
theorem goSt_fst (l : List Nat) : (goSt l).1 = plain l := by
  refine snoc_ind (P := fun l => (goSt l).1 = plain l) rfl (fun l c ih => ?_) l
  rw [goSt_snoc, plain_snoc, ih]
theorem gone_snoc (l : List Nat) (c : Nat) : gone (l ++ [c]) = addK (gone l) (on (plain l) c) := by
  unfold gone
  rw [goSt_snoc, goSt_fst]
theorem gone_nil : gone [] = [[]] := rfl
/-- a tree: plain rows, each once, with each also the one without its last sign -/
structure Tree (ts : List (List Nat)) : Prop where
  nd : ts.Nodup
  pr : ∀ p ∈ ts, PRow p
  cl : ∀ p ∈ ts, p ≠ [] → p.dropLast ∈ ts
theorem end_gone (l : List Nat) : plain l ∈ gone l := by
  refine snoc_ind (P := fun l => plain l ∈ gone l) (by simp [gone_nil, plain_nil]) (fun l c _ => ?_) l
  rw [gone_snoc, plain_snoc]
  exact mem_addK.mpr (.inr rfl)
theorem on_mem {ts : List (List Nat)} {p : List Nat} {c : Nat} (t : Tree ts) (hp : p ∈ ts) (ne : on p c ≠ p ++ [c]) : on p c ∈ ts := by
  unfold on at ne ⊢
  split
  · rename_i q
    exact t.cl p hp fun e => by rw [e] at q; cases q
  · rename_i q
    rw [if_neg q] at ne
    exact absurd rfl ne
theorem on_drop {p : List Nat} {c : Nat} (e : on p c = p ++ [c]) : (on p c).dropLast = p := by rw [e]; simp
theorem tree_gone {l : List Nat} (h : Row l) : Tree (gone l) := by
  refine snoc_ind (P := fun l => Row l → Tree (gone l)) (fun _ => ⟨by simp [gone_nil], fun p hp => ?_, fun p hp ne => ?_⟩) (fun l c ih h => ?_) l h
  · rw [gone_nil] at hp; rw [List.mem_singleton.mp hp]; exact prow_nil
  · rw [gone_nil] at hp; exact absurd (List.mem_singleton.mp hp) ne
  · have hl : Row l := fun d hd => h d (List.mem_append_left _ hd)
    have hc : c ∈ sgns := h c (by simp)
    have t := ih hl
    rw [gone_snoc]
    refine ⟨addK_nodup t.nd, fun p hp => ?_, fun p hp ne => ?_⟩
    · rcases mem_addK.mp hp with q | q
      · exact t.pr p q
      · rw [q]; exact prow_on (prow_plain hl) hc
    · rcases mem_addK.mp hp with q | q
      · exact mem_addK.mpr (.inl (t.cl p q ne))
      · by_cases e : on (plain l) c = plain l ++ [c]
        · rw [q, on_drop e]
          exact mem_addK.mpr (.inl (end_gone l))
        · have := on_mem t (end_gone l) e
          rw [q] at ne ⊢
          exact mem_addK.mpr (.inl (t.cl _ this ne))
theorem gone_length (l : List Nat) : (gone l).length ≤ l.length + 1 := by
  refine snoc_ind (P := fun l => (gone l).length ≤ l.length + 1) (by simp [gone_nil]) (fun l c ih => ?_) l
  rw [gone_snoc, List.length_append]
  have := addK_length (gone l) (on (plain l) c)
  simp only [List.length_singleton]
  omega
theorem gone_pos (l : List Nat) : 1 ≤ (gone l).length := by
  have := List.length_pos_of_mem (end_gone l)
  omega
theorem gone_small (l : List Nat) : ∀ p ∈ gone l, p.length ≤ l.length := by
  refine snoc_ind (P := fun l => ∀ p ∈ gone l, p.length ≤ l.length) (fun p hp => ?_) (fun l c ih p hp => ?_) l
  · rw [gone_nil] at hp; rw [List.mem_singleton.mp hp]; simp
  · rw [gone_snoc] at hp
    rw [List.length_append, List.length_singleton]
    rcases mem_addK.mp hp with q | q
    · have := ih p q; omega
    · have h1 := on_length (plain l) c
      have h2 := plain_length l
      rw [q]; omega
theorem nil_gone (l : List Nat) : [] ∈ gone l := by
  refine snoc_ind (P := fun l => [] ∈ gone l) (by simp [gone_nil]) (fun l c ih => ?_) l
  rw [gone_snoc]
  exact mem_addK.mpr (.inl ih)
/-! ### the order of rows -/
def leR (a b : List Nat) : Bool := !before b a
theorem lexI_asymm : ∀ {l m : List Nat}, lexI l m = true → lexI m l = false
  | [], _, h => by simp [lexI] at h
  | _ :: _, [], h => by simp [lexI] at h
  | a :: l, b :: m, h => by
    simp only [lexI] at h ⊢
    by_cases e : a = b
    · subst e
      rw [if_pos rfl] at h ⊢
      exact lexI_asymm h
    · rw [if_neg e] at h
      have := of_decide_eq_true h
      rw [if_neg (fun z => e z.symm)]
      exact decide_eq_false (by omega)
theorem lexI_eq : ∀ {l m : List Nat}, l.length = m.length → lexI l m = false → lexI m l = false → l = m
  | [], [], _, _, _ => rfl
  | [], _ :: _, h, _, _ => by simp at h
  | _ :: _, [], h, _, _ => by simp at h
  | a :: l, b :: m, h, h1, h2 => by
    simp only [lexI] at h1 h2
    by_cases e : a = b
    · subst e
      rw [if_pos rfl] at h1 h2
      rw [lexI_eq (by simpa using h) h1 h2]
    · rw [if_neg e] at h1
      rw [if_neg (fun z => e z.symm)] at h2
      have := of_decide_eq_false h1
      have := of_decide_eq_false h2
      omega
theorem before_asymm {l m : List Nat} (h : before l m = true) : before m l = false := by
  unfold before at *
  by_cases e : l.length = m.length
  · rw [if_pos e] at h
    rw [if_pos e.symm]
    exact lexI_asymm h
  · rw [if_neg e] at h
    rw [if_neg (fun z => e z.symm)]
    have := of_decide_eq_true h
    exact decide_eq_false (by omega)
theorem map_ix_inj : ∀ {l m : List Nat}, Row l → Row m → l.map ix = m.map ix → l = m
  | [], [], _, _, _ => rfl
  | [], _ :: _, _, _, h => by simp at h
  | _ :: _, [], _, _, h => by simp at h
  | a :: l, b :: m, h1, h2, h => by
    simp only [List.map_cons, List.cons.injEq] at h
    rw [(ix_inj (Row.head h1) (Row.head h2)).mp h.1, map_ix_inj (Row.tail h1) (Row.tail h2) h.2]
theorem before_eq {l m : List Nat} (hl : Row l) (hm : Row m) (h1 : before l m = false) (h2 : before m l = false) : l = m := by
  unfold before at *
  by_cases e : l.length = m.length
  · rw [if_pos e] at h1
    rw [if_pos e.symm] at h2
    exact map_ix_inj hl hm (lexI_eq (by simp [e]) h1 h2)
  · rw [if_neg e] at h1
    rw [if_neg (fun z => e z.symm)] at h2
    have := of_decide_eq_false h1
    have := of_decide_eq_false h2
    omega
theorem lexI_cotrans : ∀ {l m n : List Nat}, l.length = m.length → m.length = n.length → lexI l n = true → lexI l m = true ∨ lexI m n = true
  | [], _, _, _, _, h => by simp [lexI] at h
  | a :: l, [], _, h, _, _ => by simp at h
  | a :: l, b :: m, [], _, h, _ => by simp at h
  | a :: l, b :: m, c :: n, h1, h2, h => by
    simp only [lexI] at h ⊢
    by_cases e1 : a = b
    · subst e1
      by_cases e2 : a = c
      · subst e2
        rw [if_pos rfl] at h ⊢
        rw [if_pos rfl]
        exact lexI_cotrans (by simpa using h1) (by simpa using h2) h
      · rw [if_neg e2] at h ⊢
        exact .inr h
    · by_cases e2 : b = c
      · subst e2
        rw [if_neg e1] at h ⊢
        exact .inl h
      · by_cases e3 : a = c
        · subst e3
          rw [if_neg e1, if_neg e2]
          by_cases q : a < b
          · exact .inl (decide_eq_true q)
          · exact .inr (decide_eq_true (by omega))
        · rw [if_neg e3] at h
          rw [if_neg e1, if_neg e2]
          have := of_decide_eq_true h
          by_cases q : a < b
          · exact .inl (decide_eq_true q)
          · exact .inr (decide_eq_true (by omega))
theorem before_cotrans {l m n : List Nat} (h : before l n = true) : before l m = true ∨ before m n = true := by
  unfold before at *
  by_cases e1 : l.length = m.length
  · by_cases e2 : m.length = n.length
    · rw [if_pos (e1.trans e2)] at h
      rw [if_pos e1, if_pos e2]
      exact lexI_cotrans (by simp [e1]) (by simp [e2]) h
    · rw [if_neg (by omega)] at h
      have := of_decide_eq_true h
      rw [if_neg e2]
      exact .inr (decide_eq_true (by omega))
  · rw [if_neg e1]
    by_cases q : l.length < m.length
    · exact .inl (decide_eq_true q)
    · refine .inr ?_
      by_cases e2 : m.length = n.length
      · rw [if_neg (by omega)] at h
        have := of_decide_eq_true h
        omega
      · rw [if_neg e2]
        by_cases e3 : l.length = n.length
        · exact decide_eq_true (by omega)
        · rw [if_neg e3] at h
          have := of_decide_eq_true h
          exact decide_eq_true (by omega)
theorem leR_trans (a b c : List Nat) (h1 : leR a b = true) (h2 : leR b c = true) : leR a c = true := by
  unfold leR at *
  simp only [Bool.not_eq_true'] at *
  cases h : before c a with
  | false => rfl
  | true =>
    rcases before_cotrans (m := b) h with q | q
    · rw [q] at h2; cases h2
    · rw [q] at h1; cases h1
theorem leR_total (a b : List Nat) : (leR a b || leR b a) = true := by
  unfold leR
  cases h : before b a with
  | false => rfl
  | true => rw [before_asymm h]; rfl
def srt (ts : List (List Nat)) : List (List Nat) := ts.mergeSort leR
theorem srt_perm (ts : List (List Nat)) : (srt ts).Perm ts := List.mergeSort_perm _ _
theorem srt_mem {ts : List (List Nat)} {p : List Nat} : p ∈ srt ts ↔ p ∈ ts := (srt_perm ts).mem_iff
theorem srt_length (ts : List (List Nat)) : (srt ts).length = ts.length := (srt_perm ts).length_eq
theorem srt_pairwise (ts : List (List Nat)) : (srt ts).Pairwise (fun a b => leR a b = true) := List.pairwise_mergeSort (by exact leR_trans) (by exact leR_total) ts
theorem srt_nodup {ts : List (List Nat)} (h : ts.Nodup) : (srt ts).Nodup := (srt_perm ts).nodup_iff.mpr h
theorem srt_tree {ts : List (List Nat)} (t : Tree ts) : Tree (srt ts) := ⟨srt_nodup t.nd, fun p hp => t.pr p (srt_mem.mp hp), fun p hp ne => srt_mem.mpr (t.cl p (srt_mem.mp hp) ne)⟩
/-- one set of rows has one order -/
theorem srt_uniq {ts us : List (List Nat)} (h : ts.Perm us) (hr : ∀ p ∈ ts, Row p) : srt ts = srt us := by
  refine List.Perm.eq_of_pairwise (le := fun a b => leR a b = true) (fun a b ha hb h1 h2 => ?_) (srt_pairwise ts) (srt_pairwise us) ((srt_perm ts).trans (h.trans (srt_perm us).symm))
  have ra := hr a (srt_mem.mp ha)
  have rb := hr b (h.symm.mem_iff.mp (srt_mem.mp hb))
  unfold leR at h1 h2
  simp only [Bool.not_eq_true'] at h1 h2
  exact before_eq ra rb h2 h1
end WalkM

namespace L2
open PySem PySem.Spec PyProof.Rows
/-! ### rules beside the layer's own -/
section
variable {X : Cx}
/-- a constant of the module -/
theorem pe_globC {x : Str} {v : V} {pos : Pos} (h : ∃ u, X.mg x = some u ∧ RelV v u) (hg : Gl X x := by rfl) (hd : (x == ("__debug__" : Str)) = false := by decide) : PE X (.Name x pos) (tC v) := by
  obtain ⟨u, hm, r⟩ := h
  exact pe_glob hg hm r hd
/-- data that are alike: < -/
def rLtD (K : PySem.W.Frag) : R2 := fun x y H Q => ∃ d e, Dp K H x d ∧ Dp K H y e ∧ PySem.W.alike d e = true ∧ d ≠ .none ∧ min d.depth e.depth ≤ 60 ∧ Q (.bl (PySem.W.dataLt d e)) H
theorem op_ltD (hu : X.A.units + 64 < cLine) : OpR X (compareOp .Lt) (rLtD X.K) := by
  intro pins s σ H x y v u Q I rx ry h
  obtain ⟨d, e, hd, he, al, hn, hz, q⟩ := h
  obtain ⟨as, r1⟩ := Dp.reads I d x v hd rx
  obtain ⟨bs, r2⟩ := Dp.reads I e y u he ry
  exact PySem.W.lt_data r1 r2 al hn (by omega) ⟨.bl _, H, I, rfl, q⟩
/-- text[::-1] -/
def tRevS (te : TE) : TE := fun σ H Q => te σ H fun x H1 => ∃ z : Str, x = .str z ∧ z.length ≤ sizeLine ∧ Q (.str ⟨z.cps.toList.reverse.toArray⟩) H1
theorem pick_rev (z : Str) : ((Builtin.Str.strSliceIndices none none (-1) z.length).filterMap (z.cps[·]?)).toArray = z.cps.toList.reverse.toArray := by
  rw [PyProof.Rows.picked_rev]
  congr 1
  rw [PyProof.Rows.filterMap_get _ _ (fun i hi => by
    simp only [List.mem_map, List.mem_range] at hi
    obtain ⟨k, hk, rfl⟩ := hi
    have : z.length = z.cps.size := rfl
    omega)]
  apply List.ext_getElem
  · simp [Str.length]
  · intro i h1 h2
    simp only [List.length_map, List.length_range, Str.length] at h1
    simp only [List.map_map, List.getElem_map, List.getElem_range, List.getElem_reverse, Function.comp, Str.length, Array.length_toList]
    rw [Array.getD_eq_getD_getElem?]
    rw [Array.getElem?_eq_getElem (by omega)]
    simp
theorem pe_revS {e : Expr} {te : TE} {k : Nat} {p1 p2 p3 pos : Pos} (he : PE X e te) : PE X (.Subscript e (.Slice none none (some (.UnaryOp .USub (.Constant (.int 1) k p1) p2)) p3) pos) (tRevS te) := by
  refine ⟨fun pins s σ H Q I h => ?_⟩
  refine Subscript_ (thn (he.run pins s σ H _ I h) fun v s1 ⟨x, H1, I1, r1, q1⟩ => ?_)
  obtain ⟨z, ex, hz, q⟩ := q1
  subst ex
  obtain ⟨t, rfl⟩ := r1
  have hst : PO X (some (.UnaryOp .USub (.Constant (.int 1) k p1) p2)) (tPart (tUn (rU fun i => .int (-i)) (tC (.int 1)))) := po_some (pe_un un_neg pe_int)
  refine wpAny_Slice (thn (po_none.run pins s1 σ H1 (fun o H2 => o = none ∧ H2 = H1) I1 ⟨rfl, rfl⟩) fun vl s2 ⟨l, H2, I2, pl, el, e2⟩ => ?_)
  subst el e2
  refine thn (po_none.run pins s2 σ H2 (fun o H3 => o = none ∧ H3 = H2) I2 ⟨rfl, rfl⟩) fun vu s3 ⟨u, H3, I3, pu, eu, e3⟩ => ?_
  subst eu e3
  refine thn (hst.run pins s3 σ H3 (fun o H4 => o = some (-1) ∧ H4 = H3) I3 ⟨1, rfl, -1, rfl, rfl, rfl⟩) fun vs s4 ⟨o, H4, I4, ps, eo, e4⟩ => ?_
  subst eo e4
  obtain ⟨l1, rfl, hl1⟩ := IsPart.raw pl
  obtain ⟨u1, rfl, hu1⟩ := IsPart.raw pu
  obtain ⟨w1, rfl, hw1⟩ := IsPart.raw ps
  have I5 : Inv X pins σ H4 { s4 with heap := s4.heap.push { cls := .type "slice", data := .fields #[partValue l1, partValue u1, partValue w1] } } := I4.kept (t' := s4.toks) fun b ob q => Heap.get?_push_of_some _ q
  show wpAny (model X.prog X.w) X.A (subscriptTail e (.Slice none none (some (.UnaryOp .USub (.Constant (.int 1) k p1) p2)) p3) (.str z t) (.ref s4.heap.objs.size)) (EP X pins σ Q) X.xe { s4 with heap := s4.heap.push { cls := .type "slice", data := .fields #[partValue l1, partValue u1, partValue w1] } }
  refine tail_any (ops := [.str z t, .ref s4.heap.objs.size]) (typeIs_str _ _ _) F.slot_str_getitem.lookup ?_ (by with_unfolding_all rfl)
  refine wpAny_getItem_str_slice (l := l1) (u := u1) (st := w1) ⟨_, Heap.get?_push_size _ rfl, rfl, rfl⟩ (by rw [hw1]; rfl) ?_
  have hl : (⟨z.cps.toList.reverse.toArray⟩ : Str).length ≤ sizeLine := by
    show z.cps.toList.reverse.toArray.size ≤ sizeLine
    simpa [Str.length] using hz
  show Made.post (if ((w1.map (·.1)).getD 1 == 1 && (Builtin.Str.strSliceIndices (l1.map (·.1)) (u1.map (·.1)) ((w1.map (·.1)).getD 1) z.length).length == z.length) = true then Made.val (.str z t)
    else Made.str ⟨((Builtin.Str.strSliceIndices (l1.map (·.1)) (u1.map (·.1)) ((w1.map (·.1)).getD 1) z.length).filterMap (z.cps[·]?)).toArray⟩) (EP X pins σ Q) _
  rw [hl1, hu1, hw1]
  show Made.post (if ((-1 : Int) == 1 && (Builtin.Str.strSliceIndices none none (-1) z.length).length == z.length) = true then Made.val (.str z t)
    else Made.str ⟨((Builtin.Str.strSliceIndices none none (-1) z.length).filterMap (z.cps[·]?)).toArray⟩) (EP X pins σ Q) _
  rw [if_neg (by simp), pick_rev]
  exact ⟨hl, .str _, H4, I5.tok _, ⟨_, rfl⟩, q⟩
end
end L2

namespace L2
open PySem PySem.Spec PyProof.Rows
/-! ### zip of two texts -/
def Itzs (x y : Str) : It :=
  ⟨fun i _ => i < x.cps.size ∧ i < y.cps.size,
    fun i H v H' => ∃ T c d, v = .ref T ∧ H T = none ∧ H' = upd H T (.tup [.str ⟨#[c]⟩, .str ⟨#[d]⟩]) ∧ x.cps[i]? = some c ∧ y.cps[i]? = some d,
    fun i _ => (i ≤ x.cps.size ∧ i ≤ y.cps.size) ∧ (i = x.cps.size ∨ i = y.cps.size)⟩
theorem turn_zipS {P : Program} {w : World} {K : PySem.W.Frag} {elts : List Expr} {kk : Nat} {tpos : Pos} {z TI TO i1 i2 : Addr} (S : ZipSep2 z TI TO i1 i2 [i1] [i2]) (x y : Str) (t u : Tok) :
    Turn P w K (.Tuple elts kk tpos) (Itzs x y) [z, TI, TO, i1, i2] z
      (fun i h => IsZip h z TI TO .none ∧ IsTupOf2 h TI (.ref i1) (.ref i2) ∧ (∃ a b, IsTupOf2 h TO a b) ∧ h.IsStrIter i1 (strIterType x) x t i ∧ h.IsStrIter i2 (strIterType y) y u i) where
  mem := by simp
  obj := fun i h st c hc => by
    obtain ⟨hz, hTI, ⟨a, b, hTO⟩, ⟨o1, e1, _, d1⟩, ⟨o2, e2, _, d2⟩⟩ := st
    have e' : c = z ∨ c = TI ∨ c = TO ∨ c = i1 ∨ c = i2 := by simpa using hc
    rcases e' with q | q | q | q | q
    · rw [q]; exact ⟨_, hz, fun v q => nomatch q⟩
    · rw [q]; exact ⟨_, hTI, fun v q => nomatch q⟩
    · rw [q]; exact ⟨_, hTO, fun v q => nomatch q⟩
    · rw [q]; exact ⟨o1, e1, fun v q => by rw [d1] at q; cases q⟩
    · rw [q]; exact ⟨o2, e2, fun v q => by rw [d2] at q; cases q⟩
  keep := fun i h h' st k => by
    obtain ⟨hz, hTI, ⟨a, b, hTO⟩, ⟨o1, e1, r1⟩, ⟨o2, e2, r2⟩⟩ := st
    exact ⟨k z (by simp) _ hz, k TI (by simp) _ hTI, ⟨a, b, k TO (by simp) _ hTO⟩, ⟨o1, k i1 (by simp) _ e1, r1⟩, ⟨o2, k i2 (by simp) _ e2, r2⟩⟩
  item := by
    intro X hP hw hK hc i pins s σ H E I hf st hg
    subst hP hw hK
    obtain ⟨hz, hTI, ⟨a0, b0, hTO⟩, h1, h2⟩ := st
    obtain ⟨g1, g2⟩ := hg
    have hh : X.A.in1.handled = none := I.ok.hd hc
    have hzl : z < s.heap.objs.size := Heap.lt_size hz
    refine wpAny_pyNext_zipD2_item S (Draws.text hh i1 x t) (Draws.text hh i2 y u) hz hTI hTO h1 h2 g1 g2 fun x1 x2 h' tk p1 p2 h1' TO' s1 s2 hT hsz hk => ?_
    obtain ⟨c, tc, hc1, rfl⟩ := p1
    obtain ⟨d, td, hd1, rfl⟩ := p2
    refine ⟨_, rfl, wpAny_letOwnedTupleGo_zip (s := { s with heap := h', toks := tk }) h1' fun h'' z'' sb => ?_⟩
    have hT2 : h''.get? s.heap.objs.size = some { cls := .type "tuple", data := .seq #[Value.str ⟨#[c]⟩ tc, Value.str ⟨#[d]⟩ td] } := (sb.2 _ (Nat.ne_of_gt hzl)).trans hT
    have new : ObjOk X.prog X.w (upd H s.heap.objs.size (.tup [.str ⟨#[c]⟩, .str ⟨#[d]⟩])) h'' s.heap.objs.size (.tup [.str ⟨#[c]⟩, .str ⟨#[d]⟩]) :=
      ⟨by show 2 ≤ sizeLine; decide, [Value.str ⟨#[c]⟩ tc, Value.str ⟨#[d]⟩ td], .cons ⟨tc, rfl⟩ (.cons ⟨td, rfl⟩ .nil), ⟨_, hT2, rfl, _, rfl⟩⟩
    have I1 : Inv X pins σ (upd H s.heap.objs.size (.tup [.str ⟨#[c]⟩, .str ⟨#[d]⟩])) { s with heap := h'', toks := tk } :=
      I.turnedNew (t' := tk) (ch := [z, TI, TO, i1, i2]) (fun c o hb q => (sb.2 c (fun q' => hb (by simp [q']))).trans (hk c o (fun q' => hb (by simp [q'])) (fun q' => hb (by simp [q'])) (fun q' => hb (by simp [q'])) (fun q' => hb (by simp [q'])) q)) hf (Nat.le_refl _) new
    have st1 : h''.IsStrIter i1 (strIterType x) x t (i + 1) := by
      obtain ⟨o, e, r⟩ := s1
      exact ⟨o, (sb.2 _ (fun q => S.zf1 (by rw [← q]; simp))).trans e, r⟩
    have st2 : h''.IsStrIter i2 (strIterType y) y u (i + 1) := by
      obtain ⟨o, e, r⟩ := s2
      exact ⟨o, (sb.2 _ (fun q => S.zf2 (by rw [← q]; simp))).trans e, r⟩
    refine ⟨.ref s.heap.objs.size, _, I1, rfl, ⟨_, c, d, rfl, I.hok.fresh (Nat.le_refl _), rfl, hc1, hd1⟩, ⟨z'', ?_, ⟨.str ⟨#[c]⟩ tc, .str ⟨#[d]⟩ td, ?_⟩, st1, st2⟩, fun b hbm => ?_⟩
    · exact (sb.2 _ S.TIz).trans (hk _ _ S.TIz S.TITO S.TIi1 S.TIi2 hTI)
    · exact (sb.2 _ S.TOz).trans TO'
    · have hlt : b < s.heap.objs.size := by
        have e' : b = z ∨ b = TI ∨ b = TO ∨ b = i1 ∨ b = i2 := by simpa using hbm
        rcases e' with q | q | q | q | q
        · rw [q]; exact hzl
        · rw [q]; exact Heap.lt_size hTI
        · rw [q]; exact Heap.lt_size hTO
        · rw [q]; obtain ⟨_, e1, _⟩ := h1; exact Heap.lt_size e1
        · rw [q]; obtain ⟨_, e2, _⟩ := h2; exact Heap.lt_size e2
      rw [upd_ne (Nat.ne_of_lt hlt)]
      exact (hf b hbm).1
  done := by
    intro X hP hw hK hc i pins s σ H E I hf st hg
    subst hP hw hK
    obtain ⟨hz, hTI, ⟨a0, b0, hTO⟩, h1, h2⟩ := st
    obtain ⟨⟨g1, g2⟩, g3⟩ := hg
    have hh : X.A.in1.handled = none := I.ok.hd hc
    exact wpAny_pyNext_zipD2_end S (Draws.text hh i1 x t) (Draws.text hh i2 y u) hz hTI hTO h1 h2 g1 g2 g3 fun h' tk hk => ⟨rfl, I.turnedL (t' := tk) (ch := [z, TI, TO, i1, i2]) (fun c o hb q =>
      hk c o (fun q' => hb (by simp [q'])) (fun q' => hb (by simp [q'])) (fun q' => hb (by simp [q'])) (fun q' => hb (by simp [q'])) q) hf⟩
  self := fun A i s Q E st h => wpAny_pyIter_zip st.1 h
def iZipS (ta : TA) : TI := fun σ H R => ta σ H fun vs H1 => ∃ x y, vs = [.str x, .str y] ∧ R (Itzs x y) H1
theorem pi_zipS {X : Cx} {e e2 : Expr} {ta : TA} {p pos tpos : Pos} {elts : List Expr} {kk : Nat} (hg : Gl X "zip") (hm : X.mg "zip" = none) (ha : PA X [e, e2] ta)
    (hs : starEach [e, e2] X.env = (false, eval e X.env) :: starEach [e2] X.env := by rfl) (hpl : (backTo pos (starEach [e2] X.env)).any (·.1) = false := by rfl) :
    PI X (.Tuple elts kk tpos) (.Call (.Name "zip" p) [e, e2] [] pos) (iZipS ta) := by
  refine ⟨fun pins s σ H R I h => ?_⟩
  refine Call_ (ld_blt I hg hm PyProof.Rows.boot_zip (PyProof.Rows.callWith_type1 (thn (ha.run pos pins s σ H _ I h) fun us s1 ⟨vs, H1, I1, r1, q1⟩ => ?_) hs hpl))
  obtain ⟨x, y, ex, q⟩ := q1
  subst ex
  cases r1 with
  | cons r rr =>
    cases rr with
    | cons r' rr =>
      cases rr
      obtain ⟨t, rfl⟩ := r
      obtain ⟨u, rfl⟩ := r'
      refine zip_begins2 (begins_text x t) (begins_text y u) trivial trivial fun h' hz hTI hTO h1 h2 hsz hk => wpAny_pyIter_zip hz ?_
      have I2 : Inv X pins σ H1 { s1 with heap := h' } := I1.kept (t' := s1.toks) hk
      have S : ZipSep2 (s1.heap.objs.size + 4) (s1.heap.objs.size + 2) (s1.heap.objs.size + 3) s1.heap.objs.size (s1.heap.objs.size + 1) [s1.heap.objs.size] [s1.heap.objs.size + 1] :=
        zip_sep2 (fp1 := []) (fp2 := []) (fun b hb => by cases hb) (fun b hb => by cases hb)
      refine ⟨s1.heap.objs.size + 4, [s1.heap.objs.size + 4, s1.heap.objs.size + 2, s1.heap.objs.size + 3, s1.heap.objs.size, s1.heap.objs.size + 1], _, _, H1, rfl, I2, turn_zipS S x y t u, ⟨hz, hTI, ⟨_, _, hTO⟩, ⟨_, h1, rfl, rfl⟩, ⟨_, h2, rfl, rfl⟩⟩, fun c hcm => ?_, q⟩
      have e' : c = s1.heap.objs.size + 4 ∨ c = s1.heap.objs.size + 2 ∨ c = s1.heap.objs.size + 3 ∨ c = s1.heap.objs.size ∨ c = s1.heap.objs.size + 1 := by simpa using hcm
      have hle : s1.heap.objs.size ≤ c := by
        rcases e' with z | z | z | z | z
        · rw [z]; exact Nat.le_add_right _ _
        · rw [z]; exact Nat.le_add_right _ _
        · rw [z]; exact Nat.le_add_right _ _
        · rw [z]; exact Nat.le_refl _
        · rw [z]; exact Nat.le_add_right _ _
      exact I1.fpOk hle (I1.hok.fresh hle)
theorem walk_zipS {x y : Str} {n : Nat} (hn : n = min x.cps.size y.cps.size) : Walk (Itzs x y) n (fun _ => True) (fun i H v H' => ∃ T c d, v = .ref T ∧ H T = none ∧ H' = upd H T (.tup [.str ⟨#[c]⟩, .str ⟨#[d]⟩]) ∧ x.cps[i]? = some c ∧ y.cps[i]? = some d) := by
  subst hn
  exact ⟨fun _ _ hi _ => ⟨by omega, by omega⟩, fun _ _ => ⟨⟨by omega, by omega⟩, by omega⟩, fun _ _ _ _ _ _ y => y⟩
end L2

namespace L2
open PySem PySem.Spec PyProof.Rows
/-! ### rules whose readings name the written part, over any context that has it (a comprehension's block too) -/
section
variable {X : Cx} {K : PySem.W.Frag}
theorem ix_listK (h : X.K = K := by rfl) : IxR X (rIxL K) := h ▸ ix_list
theorem ix_tupK (h : X.K = K := by rfl) : IxR X (rIxT K) := h ▸ ix_tup
theorem sl_listK (h : X.K = K := by rfl) : SlR X (rSlL K) := h ▸ sl_list
theorem sl_tupK (h : X.K = K := by rfl) : SlR X (rSlT K) := h ▸ sl_tup
theorem op_inK (h : X.K = K := by rfl) : OpR X (compareOp .In) (rIn K false) := h ▸ op_in_seq
theorem op_notInK (h : X.K = K := by rfl) : OpR X (compareOp .NotIn) (rIn K true) := h ▸ op_notIn_seq
theorem op_eqDK (hu : X.A.units + 64 < cLine) (h : X.K = K := by rfl) : OpR X (compareOp .Eq) (rEqD K) := h ▸ op_eqD hu
theorem op_neDK (hu : X.A.units + 64 < cLine) (h : X.K = K := by rfl) : OpR X (compareOp .NotEq) (rNeD K) := h ▸ op_neD hu
theorem op_ltDK (hu : X.A.units + 64 < cLine) (h : X.K = K := by rfl) : OpR X (compareOp .Lt) (rLtD K) := h ▸ op_ltD hu
/-- len of a list or tuple -/
def rLenK (K : PySem.W.Frag) : List V → Hp → VK → Prop := fun xs H Q => ∃ p ys, xs = [.ref p] ∧ (SqL K H p ys ∨ SqT K H p ys) ∧ Q (.int ys.length) H
theorem call_lenK (h : X.K = K := by rfl) : CallR X (.builtin "len") (rLenK K) := h ▸ call_len_seq
def rListK (K : PySem.W.Frag) : List V → Hp → VK → Prop := fun xs H Q => ∃ p ys, xs = [.ref p] ∧ (SqL K H p ys ∨ SqT K H p ys) ∧ ∀ l, H l = none → Q (.ref l) (upd H l (.lst ys))
theorem call_listK (h : X.K = K := by rfl) : CallR X (.type "list") (rListK K) := h ▸ call_list_of
theorem cr_allK (hc : X.calm = true) (h : X.K = K := by rfl) : CallR X (.builtin "all") (rAll K) := h ▸ cr_all hc
theorem cr_anyK (hc : X.calm = true) (h : X.K = K := by rfl) : CallR X (.builtin "any") (rAny K) := h ▸ cr_any hc
theorem cr_sumK (hc : X.calm = true) (h : X.K = K := by rfl) : CallR X (.builtin "sum") (rSum K) := h ▸ cr_sum hc
theorem call_isiK1 (h : X.K = K := by rfl) : CallR X (.builtin "isinstance") (rIsi K) := h ▸ call_isi
theorem call_isiTK (h : X.K = K := by rfl) : CallR X (.builtin "isinstance") (rIsiT K) := h ▸ call_isiT
/-- sep.join(texts) -/
def rJoinK (K : PySem.W.Frag) : V → List V → Hp → VK → Prop := fun x xs H Q => ∃ a p, ∃ ys : List Str, x = .str a ∧ xs = [.ref p] ∧ (SqL K H p (ys.map V.str) ∨ SqT K H p (ys.map V.str)) ∧ (ys.map (·.length)).sum + ys.length * a.length ≤ 16777216 ∧ Q (.str (Txt.join a ys)) H
theorem mt_joinK (h : X.K = K := by rfl) : MtR X "str.join" (rJoinK K) := h ▸ mt_join
end
end L2

namespace L2
open PySem PySem.Spec PyProof.Rows
/-- a def with defaults that lets nothing out -/
theorem FunD.ok0 {P : Program} {w : World} {K : PySem.W.Frag} {mg : Str → Option Value} {base : Heap} {x qual : Str} {st : Stmt} {dvs : List V} {f : Addr} {fd : FuncData} {N ps : List Str} {k : Nat} {sp : Sp}
    (F : FunD K x qual (defArgs st) (defBody st) (defScope st) dvs [] f fd) (S : FnScope N ps (defScope st)) (len : ∀ vs H Q E, sp vs H Q E → vs.length = ps.length)
    (hbody : ∀ (cdv : Value) (A : Around) (outer : List Env) (s : Shared) (H : Hp) (vs : List V) (Q : VK) (E : XK), Room k (A.deeper (envOfC qual (defScope st) s.heap.objs.size f cdv)) → sp vs H Q E →
      ∃ t, PSs (cxOf CX0 P w K mg base N qual (defScope st) f cdv A outer s H E).nox (defBody st) t ∧ t { nx := fun _ H' => Q .non H', rt := Q } (start N vs) H) : FnOk P w K mg base CX0 (k + 1) f fd ps sp :=
  F.ok S len fun cdv A outer s H vs Q E hr hsp => by
    obtain ⟨t, h, q⟩ := hbody cdv A outer s H vs Q E hr hsp
    exact ⟨t, h.nox, q⟩
theorem funD_mk {K : PySem.W.Frag} {x qual : Str} {st : Stmt} {f T : Addr} {oc : Value} {od an : Option Addr} {osl : Array (Option Value)} {kV doc pm cdv ct : Value} {o : Obj} {its : List Value} {n : Nat} {dvs : List V}
    (l : K.lookup f = some ⟨oc, od, .func (PySem.W.fnOf x qual (defArgs st) (defBody st) (defScope st) (.ref T) kV doc pm an cdv ct), osl⟩)
    (c : PySem.W.codeIn K cdv qual = true) (k : PySem.W.keepIn K (.ref f) = true) (lT : K.lookup T = some o) (oT : o.data = .seq its.toArray n) (hv : Vals dvs its) (hd : dvs ≠ []) :
    FunD K x qual (defArgs st) (defBody st) (defScope st) dvs [] f (PySem.W.fnOf x qual (defArgs st) (defBody st) (defScope st) (.ref T) kV doc pm an cdv ct) :=
  ⟨⟨oc, od, .ref T, kV, doc, pm, an, cdv, ct, osl, rfl, l, c, .inr ⟨hd, T, o, its, n, rfl, lT, oT, hv⟩, .inl rfl⟩, k⟩
end L2

namespace L2
open PySem PySem.Spec PyProof.Rows
/-! ### a method called in a try's body; what is asked of an own class -/
section
variable {X : Cx} {CX : CXT} {k : Nat} {f C : Addr} {fd : FuncData} {ps : List Str} {sp : Sp} {dvs : List V} {ds : List Value} {E : St → XK} {o e : Expr} {es : List Expr} {ta : TE} {t : TA} {m : Str} {apos pos : Pos}
/-- o.m(e, ..) in a try's body -/
def tMethSD (C : Addr) (m : Str) (sp : Sp) (dvs : List V) (E : St → XK) (ta : TE) (t : TA) : TE := fun σ H Q => ta σ H fun x H1 => ∃ a dx fs, x = .ref a ∧ H1 a = some (.ins C dx fs) ∧ fs.lookup m = none ∧ t σ H1 fun vs H2 => sp (x :: (vs ++ dvs)) H2 Q (E σ)
theorem pe_methSD {pl : Sem Bool} (he : PE X o ta) (c : Cls X.K C) (hm : Meth X.K C m f) (F : FnOk X.prog X.w X.K X.mg X.base CX k f fd ps sp) (hr : Room k X.A) (hb : Binds X.K fd ps ds) (hd : Vals dvs ds) (hx : ∀ σ, PassesAt CX X σ (E σ)) (ha : PA X (e :: es) t)
    (hst : starEach (e :: es) X.env = (false, eval e X.env) :: starEach es X.env := by rfl) (hpl : (backTo pos (starEach es X.env)).any (·.1) = false := by rfl)
    (ht : eval (.Call (.Attribute o m apos) (e :: es) [] pos) X.env = (do
      let ov ← eval o X.env
      standAt apos.atName
      let (f, first) ← holding [ov] (getMethod ov m pl)
      callWith pos f first (backTo pos (starEach (e :: es) X.env)) (backToKw pos (keywordEach [] X.env))) := by rfl) :
    PE X (.Call (.Attribute o m apos) (e :: es) [] pos) (tMethSD C m sp dvs E ta t) := by
  refine ⟨fun pins s σ H Q I h => PySem.W.methodCall_KW (pl := pl) (thn (he.run pins s σ H _ I h) fun u s1 z => ?_) ht⟩
  obtain ⟨x, H1, J, rx, a, dx, fs, rfl, ea, l, q⟩ := z
  cases (show u = Value.ref a from rx)
  refine getmeth_ok J ea c hm l ?_
  refine PySem.W.callWith_K (first := [.ref a]) (h₀ := X.base) J.ok.mod.kin hm.kp (thn (ha.run pos pins s1 σ H1 _ J q) fun us s2 z => ?_) hst hpl
  obtain ⟨vs, H2, J2, r, q2⟩ := z
  have rr : Vals (V.ref a :: (vs ++ dvs)) (Value.ref a :: (us ++ ds)) := .cons rfl (r.append hd)
  refine ⟨J2.kIn, wpAny_call (codeAny_mono (F.run X.A X.stack s2 H2 ⟨.ref a :: us, []⟩ (.ref a :: (us ++ ds)) (.ref a :: (vs ++ dvs)) Q (E σ) hr J2.env0 (hb s2 (.ref a :: us) J2.kIn (rr.length.symm.trans (F.len _ _ _ _ q2))) rr q2) fun r s' z => ?_)⟩
  cases r with
  | error er => exact hx σ pins H2 s2 er s' J2 z
  | ok fl =>
    cases fl with
    | ret u => exact J2.after z
    | _ => exact False.elim z
end
/-- what the written part says of an own class -/
structure OwnK (K : PySem.W.Frag) (mg : Str → Option Value) (x : Str) (C : Addr) : Prop where
  gC : mg x = some (.ref C)
  cls : Cls K C
  made : PySem.W.makesIn K C = true
  kC : PySem.W.keepIn K (.ref C) = true
end L2

namespace Evl
open PySem L2
/-! ### what evaluates to what: texts -/
section
variable {K : PySem.W.Frag} {σ : L2.St} {H H' : Hp} {ta tb te tl : TE} {t : TT} {x y z v : V}
theorem ev_m0 {C : Str → Prop} {g : Str → V} {a : Str} (h : Ev te σ H (.str a)) (c : C a) : Ev (tM0 (fun x xs H Q => ∃ a, x = .str a ∧ xs = [] ∧ C a ∧ Q (g a) H) te) σ H (g a) := fun H1 e Q q =>
  h H1 e _ fun H2 e2 => ⟨⟨a, rfl⟩, a, rfl, rfl, c, q H2 e2⟩
theorem ev_m1 {g : Str → Str → V} {a b : Str} (h : Ev te σ H (.str a)) (h2 : Ev ta σ H (.str b)) : Ev (tM1 (fun x xs H Q => ∃ a b, x = .str a ∧ xs = [.str b] ∧ Q (g a b) H) te ta) σ H (g a b) := fun H1 e Q q =>
  h H1 e _ fun H2 e2 => ⟨⟨a, rfl⟩, h2 H2 (e.trans e2) _ fun H3 e3 => ⟨a, b, rfl, rfl, q H3 (e2.trans e3)⟩⟩
theorem ev_join {a : Str} {ys : List Str} (h : Ev te σ H (.str a)) (h2 : EvL tl σ H (ys.map V.str)) (hz : (ys.map (·.length)).sum + ys.length * a.length ≤ 16777216) :
    Ev (tM1 (rJoinK K) te tl) σ H (.str (Txt.join a ys)) := fun H1 e Q q =>
  h H1 e _ fun H2 e2 => ⟨⟨a, rfl⟩, h2 H2 (e.trans e2) _ fun p H3 _ e3 h3 => ⟨a, p, ys, rfl, rfl, .inl (sq_of h3), hz, q H3 (e2.trans e3)⟩⟩
theorem rv_addS {a b : Str} (h : a.length + b.length ≤ 100000) : RV (fun x y H Q => ∃ i j, x = .str i ∧ y = .str j ∧ i.length + j.length ≤ sizeLine ∧ Q (.str (i ++ j)) H) (.str a) (.str b) H (.str (a ++ b)) := fun H1 _ _ q => ⟨a, b, rfl, rfl, sz_of h, q H1 (Ex.refl H1)⟩
theorem rv_inS {c : Nat} {z : Str} : RV (fun x y H Q => ∃ (c : Nat) (z : Str), x = .str ⟨#[c]⟩ ∧ y = .str z ∧ Q (.bl (decide (c ∈ z.cps.toList))) H) (.str ⟨#[c]⟩) (.str z) H (.bl (decide (c ∈ z.cps.toList))) := fun H1 _ _ q => ⟨c, z, rfl, rfl, q H1 (Ex.refl H1)⟩
theorem rv_niS {c : Nat} {z : Str} : RV (fun x y H Q => ∃ (c : Nat) (z : Str), x = .str ⟨#[c]⟩ ∧ y = .str z ∧ Q (.bl (!decide (c ∈ z.cps.toList))) H) (.str ⟨#[c]⟩) (.str z) H (.bl (!decide (c ∈ z.cps.toList))) := fun H1 _ _ q => ⟨c, z, rfl, rfl, q H1 (Ex.refl H1)⟩
theorem rv_ltS {a b : Str} : RV (fun x y H Q => ∃ i j, x = .str i ∧ y = .str j ∧ Q (.bl (decide (i.cps.toList < j.cps.toList))) H) (.str a) (.str b) H (.bl (decide (a.cps.toList < b.cps.toList))) := fun H1 _ _ q => ⟨a, b, rfl, rfl, q H1 (Ex.refl H1)⟩
theorem ev_revS {a : Str} (h : Ev te σ H (.str a)) (hz : a.length ≤ 100000) : Ev (tRevS te) σ H (.str ⟨a.cps.toList.reverse.toArray⟩) := fun H1 e Q q => h H1 e _ fun H2 e2 => ⟨a, rfl, sz_of hz, q H2 e2⟩
theorem ev_slS {a : Str} {t1 t2 : TO} {lo hi : Option Int} (h : Ev te σ H (.str a)) (h1 : EvO t1 σ H lo) (h2 : EvO t2 σ H hi) (hz : a.length ≤ 100000) : Ev (tSl rSlS te t1 t2) σ H (.str (cutS a lo hi)) := fun H1 e Q q =>
  h H1 e _ fun H2 e2 => h1 H2 (e.trans e2) _ fun H3 e3 => h2 H3 ((e.trans e2).trans e3) _ fun H4 e4 => ⟨a, rfl, sz_of hz, q H4 ((e2.trans e3).trans e4)⟩
theorem ev_lenS {a : Str} (h : Ev te σ H (.str a)) (hz : a.length ≤ 100000) : Ev (tCB (fun xs H Q => ∃ z, xs = [.str z] ∧ z.length ≤ sizeLine ∧ Q (.int z.length) H) (tCons te tNil)) σ H (.int a.length) := fun H1 e Q q =>
  h H1 e _ fun H2 e2 => ⟨a, rfl, sz_of hz, q H2 e2⟩
theorem ev_intB {b : Bool} (h : Ev te σ H (.bl b)) : Ev (tCB (fun xs H Q => (∃ i, xs = [.int i] ∧ Q (.int i) H) ∨ ∃ k, xs = [.bl k] ∧ Q (.int (if k then 1 else 0)) H) (tCons te tNil)) σ H (.int (if b then 1 else 0)) := fun H1 e Q q =>
  h H1 e _ fun H2 e2 => .inr ⟨b, rfl, q H2 e2⟩
theorem ev_ixNew {xs : List V} {i : Int} (ha : EvL ta σ H xs) (hb : ∀ H1, Ex H H1 → Ev tb σ H1 (.int i)) (hi : atI xs i = some v) : Ev (tOp (rIxL K) ta tb) σ H v := ev_opL1 ha hb fun p H1 hp e => rv_ixL (sq_of hp) hi
theorem ev_isi {tc : TE} {c : V} {ty u : Value} {b : Bool} (h : Ev te σ H x) (h2 : Ev tc σ H c) (hc : ClsV c u) (hx : ∀ H1, Ex H H1 → TyX K H1 x ty) (hb : PySem.W.kitOne K ty u = some b) : Ev (tCB (rIsi K) (tCons te (tCons tc tNil))) σ H (.bl b) := fun H1 e Q q =>
  h H1 e _ fun H2 e2 => h2 H2 (e.trans e2) _ fun H3 e3 => ⟨x, c, ty, u, b, rfl, hc, hx H3 ((e.trans e2).trans e3), hb, q H3 (e2.trans e3)⟩
theorem ev_isiN {tc : TE} {c : V} {xs : List V} {ty u : Value} {b : Bool} (h : EvL te σ H xs) (h2 : ∀ H1, Ex H H1 → Ev tc σ H1 c) (hc : ClsV c u) (hx : ∀ p H1, H1 p = some (.lst xs) → TyX K H1 (.ref p) ty) (hb : PySem.W.kitOne K ty u = some b) : Ev (tCB (rIsi K) (tCons te (tCons tc tNil))) σ H (.bl b) := fun H1 e Q q =>
  h H1 e _ fun p H2 _ e2 hp => h2 H2 (e.trans e2) H2 (Ex.refl H2) _ fun H3 e3 => ⟨.ref p, c, ty, u, b, rfl, hc, hx p H3 (e3 _ _ hp), hb, q H3 (e2.trans e3)⟩
theorem ev_allN {bs : List Bool} (h : EvL te σ H (bs.map V.bl)) : Ev (tCB (rAll K) (tCons te tNil)) σ H (.bl (bs.all id)) := fun H1 e Q q =>
  h H1 e _ fun p H2 _ e2 hp => ⟨p, bs, rfl, sq_of hp, q H2 e2⟩
theorem ev_ifv {b : Bool} {v w : V} (h : EvT t σ H b) (h1 : b = true → Ev ta σ H v) (h2 : b = false → Ev tb σ H w) : Ev (tIf t ta tb) σ H (if b = true then v else w) := by
  refine ev_if h (fun e => ?_) (fun e => ?_)
  · rw [if_pos e]; exact h1 e
  · rw [if_neg (by rw [e]; decide)]; exact h2 e
theorem et_yes : EvT tYes σ H true := fun H1 _ _ q => q H1 (Ex.refl H1)
theorem given_all (n : Nat) (v : Nat → V) : given n (fun _ => true) v = (List.range n).map v := by
  unfold given
  congr 1
  exact List.filter_eq_self.mpr fun _ _ => rfl
theorem range_map {α : Type} (l : List α) (g : α → V) (d : α) : (List.range l.length).map (fun i => g (l.getD i d)) = l.map g := by
  apply List.ext_getElem
  · simp
  · intro i h1 h2
    simp at h1
    simp [List.getD, h1]
/-- [e for sign in text] -/
theorem el_lcS {s : Str} {j : Nat} {vs : List Nat} (f : Nat → Bool) (v : Nat → V) (h : Ev tl σ H (.str s)) (hz : s.length ≤ 40000) (hw : ∀ x, wipe ((wipe σ vs).set j (some x)) vs = wipe σ vs)
    (ht : ∀ (i c : Nat) H1, Ex H H1 → s.cps.toList[i]? = some c → EvT t ((wipe σ vs).set j (some (.str ⟨#[c]⟩))) H1 (f i))
    (he : ∀ (i c : Nat) H1, Ex H H1 → s.cps.toList[i]? = some c → f i = true → Ev te ((wipe σ vs).set j (some (.str ⟨#[c]⟩))) H1 (v i)) :
    EvL (tLc (iStr tl) (gName j) t te vs) σ H (given s.length f v) := fun H0 e Q q => h H0 e _ fun H1 e1 => ⟨s, rfl, fun Dl hD =>
  lc_it walk_str (Cw H1 f v Dl) ⟨hD, Ex.new hD, upd_same⟩ (fun _ _ _ _ => trivial) (fun i x H2 H' hi p hy => by
    obtain ⟨rfl, c, hc, rfl⟩ := hy
    have hc' : s.cps.toList[i]? = some c := by rw [Array.getElem?_toList]; exact hc
    exact ⟨hw _, cw_turn p (by have : s.length = s.cps.size := rfl; omega) (ht i c H1 (e.trans e1) hc') (fun hf => he i c H1 (e.trans e1) hc' hf)⟩)
    (fun H' p => q Dl H' (fresh_back e1 p.1) (e1.trans p.2.1) p.2.2)⟩
theorem el_mapS {s : Str} {j : Nat} {vs : List Nat} (g : Nat → V) (h : Ev tl σ H (.str s)) (hz : s.length ≤ 40000) (hw : ∀ x, wipe ((wipe σ vs).set j (some x)) vs = wipe σ vs)
    (he : ∀ (c : Nat) H1, Ex H H1 → c ∈ s.cps.toList → Ev te ((wipe σ vs).set j (some (.str ⟨#[c]⟩))) H1 (g c)) :
    EvL (tLc (iStr tl) (gName j) tYes te vs) σ H (s.cps.toList.map g) := by
  have := el_lcS (te := te) (t := tYes) (fun _ => true) (fun i => g (s.cps.toList.getD i 0)) h hz hw (fun _ _ _ _ _ => et_yes) (fun i c H1 e hc _ => by
    have : s.cps.toList.getD i 0 = c := by rw [List.getD_eq_getElem?_getD, hc]; rfl
    rw [this]
    exact he c H1 e (List.mem_of_getElem? hc))
  rw [given_all] at this
  have e2 : s.length = s.cps.toList.length := rfl
  rw [e2, range_map] at this
  exact this
end
end Evl

namespace L2
open PySem PySem.Spec PyProof.Rows
/-! ### sorted(list, key=f), f an own def whose keys read as data (lists too) -/
section
variable {X : Cx}
def rSortF (K : PySem.W.Frag) (f : Addr) (sp : Sp) (dvs : List V) : List V → List V → Hp → VK → Prop := fun vs zs H Q =>
  ∃ (p : Addr) (bs : List (V × PyData)), vs = [.ref p] ∧ zs = [.ref f] ∧ SqL K H p (bs.map (·.1)) ∧ PySem.W.AllAlike (bs.map (·.2)) ∧ PySem.W.Sortable (bs.map (·.2)) ∧ bs.length ≤ 100000 ∧ (∀ b ∈ bs, b.2.depth ≤ 50) ∧
    (∀ b ∈ bs, ∀ H1, Same H H1 → ∀ Q1 : VK, (∀ v H2, Same H1 H2 → (∀ H3, Same H2 H3 → Dp K H3 v b.2) → Q1 v H2) → sp (b.1 :: dvs) H1 Q1 fun _ _ _ => False) ∧
    ∀ q H2, Same H H2 → H q = none → H2 q = some (.lst ((bs.mergeSort (PySem.W.dataLe false (·.2))).map (·.1))) → Q (.ref q) H2
theorem each_ofF {R : Value → V × PyData → Prop} : ∀ {bs : List (V × PyData)} {us : List Value}, Vals (bs.map (·.1)) us → (∀ b ∈ bs, ∀ u, RelV b.1 u → R u b) → PySem.W.EachIs R us bs
  | [], _, r, _ => by cases r; exact .nil
  | b :: bs, _, r, h => by
    cases r with
    | cons a t => exact .cons (h b List.mem_cons_self _ a) (each_ofF t fun c hc => h c (List.mem_cons_of_mem _ hc))
theorem vals_eachF : ∀ {bs : List (V × PyData)} {us : List Value}, PySem.W.EachIs (fun u (b : V × PyData) => RelV b.1 u) us bs → Vals (bs.map (·.1)) us
  | _, _, .nil => .nil
  | _, _, .cons a t => .cons a (vals_eachF t)
/-- two new records of ours were changed, one of them is a list from now on -/
theorem Inv.two {pins : List (Addr × Obj)} {σ : St} {H : Hp} {s : Shared} {h' : Heap} {t' : Nat} {x a : Addr} {xs : List V} (I : Inv X pins σ H s) (k : ∀ b o, b ≠ x → b ≠ a → s.heap.get? b = some o → h'.get? b = some o)
    (hx : H x = none) (ha : H a = none) (lx : x ≠ X.env.locals) (la : a ≠ X.env.locals) (zx : X.s_0.heap.objs.size ≤ x) (za : X.s_0.heap.objs.size ≤ a) (cx : ∀ y c, X.env.cells.lookup y = some c → c ≠ x) (ca : ∀ y c, X.env.cells.lookup y = some c → c ≠ a)
    (px : ∀ p ∈ X.pn ++ pins, p.1 ≠ x) (pa : ∀ p ∈ X.pn ++ pins, p.1 ≠ a) (hne : x ≠ a) (new : ObjOk X.prog X.w (upd H a (.lst xs)) h' a (.lst xs)) : Inv X pins σ (upd H a (.lst xs)) { s with heap := h', toks := t' } := by
  have nx : ∀ b u, H b = some u → b ≠ x := fun b u e z => by rw [z, hx] at e; cases e
  have na : ∀ b u, H b = some u → b ≠ a := fun b u e z => by rw [z, ha] at e; cases e
  refine I.step (g' := s.gens) (d' := s.drawn) (ch := [x, a]) (fun b hb => ?_) (fun b o _ _ hc e _ => k b o (fun z => hc (by simp [z])) (fun z => hc (by simp [z])) e)
    (fun b o _ _ hc e _ => ⟨o.slots, k b o (fun z => hc (by simp [z])) (fun z => hc (by simp [z])) e⟩) (fun b o hc e n => by rw [upd_ne fun z => hc (by simp [z])]; exact n)
    (fun b o hc e => ⟨o, k b o (fun z => hc (by simp [z])) (fun z => hc (by simp [z])) e⟩) (fun b _ e => by rw [upd_ne (na b _ e)]; exact e) (fun b _ _ e => by rw [upd_ne (na b _ e)]; exact e)
    (fun b ps e => ⟨#[], by rw [upd_ne (na b _ e), e]; simp⟩) (fun m hm => ?_) (fun b u e => ?_) I.bare
  · rcases List.mem_cons.mp hb with rfl | hb
    · exact ⟨.inr zx, lx, cx, px⟩
    · rw [List.mem_singleton.mp hb]
      exact ⟨.inr za, la, ca, pa⟩
  · obtain ⟨o, es, ep, ho, r⟩ := hm
    exact ⟨o, es, ep, k _ o (Ne.symm lx) (Ne.symm la) ho, r⟩
  · by_cases q : b = a
    · subst q
      rw [upd_same] at e
      cases e
      exact new
    · rw [upd_ne q] at e
      refine (I.hok b u e).stay (fun c v hc g => ?_) (fun c g => by rw [upd_ne (na c _ g)]; exact g) fun c ys g => by rw [upd_ne (na c _ g)]; exact g
      refine k c v ?_ ?_ g
      · rcases hc with z | z
        · rw [z]; exact nx b u e
        · exact nx c _ z
      · rcases hc with z | z
        · rw [z]; exact q
        · exact na c _ z
/-- the keys, one by one -/
theorem keys_run {K : PySem.W.Frag} {k : Nat} {f : Addr} {fd : FuncData} {ps : List Str} {sp : Sp} {dvs : List V} {ds : List Value} {pins : List (Addr × Obj)} {σ : St} {H : Hp} {s : Shared} {bs : List (V × PyData)} {its : List Value} {x a : Addr} {e1 : Nat} {P : PySem.Fin → Shared → Prop} {E : Value → Shared → Prop}
    (F : FnOk X.prog X.w X.K X.mg X.base CX0 k f fd ps sp) (hr : Room (k + 2) X.A) (hb : Binds X.K fd ps ds) (hd : Vals dvs ds) (hK : X.K = K)
    (I : Inv X pins σ H s) (rv : Vals (bs.map (·.1)) its) (hx : H x = none) (ha : H a = none) (lx : x ≠ X.env.locals) (la : a ≠ X.env.locals) (zx : X.s_0.heap.objs.size ≤ x) (za : X.s_0.heap.objs.size ≤ a)
    (cx : ∀ y c, X.env.cells.lookup y = some c → c ≠ x) (ca : ∀ y c, X.env.cells.lookup y = some c → c ≠ a) (px : ∀ p ∈ X.pn ++ pins, p.1 ≠ x) (pa : ∀ p ∈ X.pn ++ pins, p.1 ≠ a) (fx : x ∉ X.fs) (fa : a ∉ X.fs) (hne : x ≠ a)
    (ox : s.heap.get? x = some (seqObj "list" #[] 0)) (oa : s.heap.get? a = some (seqObj "list" #[] e1)) (hz : bs.length ≤ 100000) (al : PySem.W.AllAlike (bs.map (·.2))) (so : PySem.W.Sortable (bs.map (·.2))) (dp : ∀ b ∈ bs, b.2.depth ≤ 50)
    (turn : ∀ b ∈ bs, ∀ H1, Same H H1 → ∀ Q1 : VK, (∀ v H2, Same H1 H2 → (∀ H3, Same H2 H3 → Dp K H3 v b.2) → Q1 v H2) → sp (b.1 :: dvs) H1 Q1 fun _ _ _ => False)
    (done : ∀ s' H' ys, Inv X pins σ (upd H' a (.lst ys)) s' → Same H H' → H' a = none → ys = (bs.mergeSort (PySem.W.dataLe false (·.2))).map (·.1) → P (.done (.ret .none)) s') :
    wpAny (model X.prog X.w) X.A.in1.in1 (PyProof.Rows.ksk_rest a (.ref f) false its.toArray e1 (.ref x)) P E s := by
  subst hK
  have hlen : its.length = bs.length := by rw [← rv.length, List.length_map]
  have big : (100000 : Nat) ≤ sizeLine := by decide
  unfold PyProof.Rows.ksk_rest
  refine wpAny_bind (wpAny_rule ?_)
  rw [List.forIn_toArray]
  refine wpAny_bind (PyProof.Rows.ksk_fold (fun i s' => ∃ H' us e, Inv X pins σ H' s' ∧ Same H H' ∧ H' x = none ∧ H' a = none ∧ s'.heap.get? x = some (seqObj "list" us e) ∧ s'.heap.get? a = some (seqObj "list" #[] e1) ∧
    PySem.W.EachIs (fun u (b : V × PyData) => ∃ v, RelV v u ∧ ∀ H3, Same H' H3 → Dp X.K H3 v b.2) us.toList (bs.take i)) its 0 s ⟨H, #[], 0, I, Same.refl H, hx, ha, ox, oa, by rw [List.take_zero]; exact .nil⟩ ?one ?all)
  case one =>
    rintro j u0 s1 hj ⟨H1, us, e, I1, s01, nx, na, g1, g2, hk⟩
    rw [Nat.zero_add] at hk ⊢
    have jl : j < bs.length := by have := (List.getElem?_eq_some_iff.mp hj).1; omega
    have bj : bs[j]? = some bs[j] := List.getElem?_eq_getElem jl
    have uz : us.size ≤ 100000 := by
      have := hk.length
      rw [Array.length_toList, List.length_take] at this
      omega
    have rj : RelV bs[j].1 u0 := by
      obtain ⟨u, hu, ru⟩ := rv.get (i := j) (x := bs[j].1) (by rw [List.getElem?_map, bj]; rfl)
      rw [hj] at hu
      cases hu
      exact ru
    have rr : Vals (bs[j].1 :: dvs) (u0 :: ds) := .cons rj hd
    refine wpAny_bind (wpAny_attempt ?_)
    refine wpAny_mono (Q := fun u s2 => ∃ v H2, Inv X pins σ H2 s2 ∧ RelV v u ∧ Same H1 H2 ∧ (∀ H3, Same H2 H3 → Dp X.K H3 v bs[j].2) ∧ H2 x = none ∧ H2 a = none ∧ s2.heap.get? x = some (seqObj "list" us e) ∧ s2.heap.get? a = some (seqObj "list" #[] e1)) (E := fun _ _ => False)
      (wpAny_call (codeAny_mono (F.run X.A.in1.in1 X.stack s1 H1 ⟨[u0], []⟩ (u0 :: ds) (bs[j].1 :: dvs) (fun v H2 => Same H1 H2 ∧ ∀ H3, Same H2 H3 → Dp X.K H3 v bs[j].2) (fun _ _ _ => False) hr.in1.in1 I1.env0.in1.in1
        (hb s1 [u0] I1.kIn (by rw [← F.len _ _ _ _ (turn _ (List.getElem_mem jl) H1 s01 (fun _ _ => True) fun _ _ _ _ => trivial)]; exact rr.length.symm)) rr (turn _ (List.getElem_mem jl) H1 s01 _ fun v H2 a b => ⟨a, b⟩)) fun r s2 hq => ?_)) (fun u s2 z => ?_) (fun _ _ z => z.elim)
    · cases r with
      | error er => exact hq.elim
      | ok fl =>
        cases fl with
        | ret u =>
          obtain ⟨v, H2, os, bare, un, hok, rv2, hs2, hd2⟩ := hq
          have nf : ∀ y, y ≠ X.env.locals → y ∉ X.fs → y ∉ frs X.stack := fun y ly fy z => by
            rcases List.mem_cons.mp (I1.stkSub y z) with q | q
            · exact ly q
            · exact fy q
          obtain ⟨hh, g, d, t, os'⟩ := s2
          obtain rfl : os' = s1.os := os
          exact ⟨v, H2, I1.call (h' := hh) (g' := g) (d' := d) (t' := t) (ch := []) un hok bare (fun b z => absurd z (by simp)), rv2, hs2, hd2, un.free x _ g1 nx (by simp), un.free a _ g2 na (by simp), un.keep x _ g1 nx (nf x lx fx) (by simp), un.keep a _ g2 na (nf a la fa) (by simp)⟩
        | next => exact hq.elim
        | brk => exact hq.elim
        | cont => exact hq.elim
    obtain ⟨v, H2, I2, rv2, s12, hd2, nx2, na2, g3, g4⟩ := z
    dsimp only
    have up := Heap.SameBut.update s2.heap x (Obj.mapSeq (·.push u))
    obtain ⟨c2, hc2⟩ : ∃ c2, (s2.heap.update x (Obj.mapSeq (·.push u))).get? x = some (seqObj "list" (us.push u) c2) := ⟨_, get?_update_seq g3 (·.push u)⟩
    refine wpAny_bind (listUpdate_at g3 rfl ?_ (by show us.size ≤ _; omega) (by show (us.push u).size ≤ _; rw [Array.size_push]; omega))
    refine wpAny_pure ⟨rfl, H2, us.push u, c2, I2.turned (fun b o hbx e => (up.2 b hbx).trans e) nx2 lx (.inr zx) cx px, Same.trans s01 s12, nx2, na2, hc2, (up.2 a hne.symm).trans g4, ?_⟩
    have et : bs.take (j + 1) = bs.take j ++ [bs[j]] := by rw [List.take_add_one, bj]; rfl
    rw [et, Array.toList_push]
    exact PySem.W.each_snoc (R := fun u (b : V × PyData) => ∃ v, RelV v u ∧ ∀ H3, Same H2 H3 → Dp X.K H3 v b.2) ⟨v, rv2, hd2⟩ (hk.mono fun u b ⟨w, rw', dw⟩ => ⟨w, rw', fun H3 s3 => dw H3 (Same.trans s12 s3)⟩)
  case all =>
    rintro s1 ⟨H1, us, e, I1, s01, nx, na, g1, g2, hk⟩
    rw [Nat.zero_add, List.take_of_length_le (by omega)] at hk
    have uz : us.size = bs.length := by
      have := hk.length
      rwa [Array.length_toList] at this
    refine wpAny_bind (listItems_at g1 rfl ?_)
    have hk2 : PySem.W.EachIs (fun u (b : V × PyData) => ∃ as, Reads s1.heap u b.2 as) us.toList bs := hk.mono fun u b ⟨v, ru, dv⟩ => Dp.reads I1 b.2 v u (dv H1 (Same.refl H1)) ru
    have hk3 : PySem.W.EachIs (fun u d => ∃ as, Reads s1.heap u d as) us.toList (bs.map (·.2)) := PySem.W.each_map (R := fun u d => ∃ as, Reads s1.heap u d as) (fun b : V × PyData => b.2) hk2
    have S := PySem.W.SortsAt.data (prog := X.prog) (w := X.w) (A := X.A.in1.in1) (s := s1) hk3 al so (fun d hd' => by
      obtain ⟨b, hb', rfl⟩ := List.mem_map.mp hd'
      have h1 := dp b hb'
      have h2 := hr.un
      show X.A.units + 1 + 1 + b.2.depth < cLine
      omega)
    refine PySem.W.keyH_end (κ := PySem.W.dataKind s1.heap (bs.map (·.2))) (h₁ := s1.heap.hide x) (s := s1) (fun b o _ q => Heap.of_hide q) (Heap.hide_self _ _) g1 g2 hne S (by rw [uz, hlen]) (by rw [hlen]; omega) fun h' tk c kp ga => ?_
    have hko : PySem.W.KeyedOut false (bs.map (·.2)) its (PySem.W.sortVals (PySem.W.dataKind s1.heap (bs.map (·.2))) false us.toList its) := ⟨s1.heap, us.toList, al, rfl, hk3⟩
    have ho := PySem.W.keyedOut_each (R := fun u (b : V × PyData) => RelV b.1 u) (fun b : V × PyData => b.2) hko (each_ofF rv fun b _ u ru => ru)
    have rv2 := vals_eachF ho
    refine done _ H1 _ (I1.two (fun b o n1 n2 q => kp b o n2 ((Heap.hide_ne _ n1).trans q)) nx na lx la zx za cx ca px pa hne ?_) s01 na rfl
    exact ⟨by rw [List.length_map, List.length_mergeSort]; omega, _, c, rv2, ga⟩
theorem call_sortF {K : PySem.W.Frag} {k : Nat} {f : Addr} {fd : FuncData} {ps : List Str} {sp : Sp} {dvs : List V} {ds : List Value} (F : FnOk X.prog X.w X.K X.mg X.base CX0 k f fd ps sp) (hr : Room (k + 2) X.A) (hb : Binds X.K fd ps ds) (hd : Vals dvs ds) (hK : X.K = K := by rfl) :
    CallRK X (.builtin "sorted") [Str.ofString "key"] (rSortF K f sp dvs) := by
  intro pins s σ H xs zs us ws Q I r1 r2 h
  obtain ⟨p, bs, rfl, rfl, hS, al, so, hz, dp, turn, q⟩ := h
  obtain ⟨u, rfl, ru⟩ := vals1 r1
  cases (show u = Value.ref p from ru)
  obtain ⟨g, rfl, rg⟩ := vals1 r2
  cases (show g = Value.ref f from rg)
  obtain ⟨its, rv, hl, _⟩ := I.list (hK ▸ hS)
  have hlen : its.length = bs.length := by rw [← rv.length, List.length_map]
  have big : (100000 : Nat) ≤ sizeLine := by decide
  have hle : its.length ≤ sizeLine := by omega
  refine PySem.W.sorted_of_sort (A := X.A) hl.isList hle (PyProof.Rows.ksk_s1 _ _) (fun _ => PyProof.Rows.ksk_l1 _ _) fun E' => ?_
  show wpAny _ _ (Builtin.«list.sort» ⟨[.ref (s.heap.objs.size + 1)], [(Str.ofString "key", .ref f)]⟩) _ _ _
  rw [PyProof.Rows.ksk_t1]
  have I1 : Inv X pins σ H { s with heap := PySem.W.copyHeap s.heap its } := I.kept (t' := s.toks) fun b o e => PySem.W.copyHeap_old e
  have ha : H (s.heap.objs.size + 1) = none := I.hok.fresh (Nat.le_succ _)
  have hx : H (s.heap.objs.size + 3) = none := I.hok.fresh (by omega)
  have ho : (PySem.W.copyHeap s.heap its).get? (s.heap.objs.size + 1) = some (seqObj "list" its.toArray 0) := PySem.W.copyHeap_at s.heap its
  have csz : (PySem.W.copyHeap s.heap its).objs.size = s.heap.objs.size + 2 := by
    unfold PySem.W.copyHeap
    rw [size_push', Heap.size_update, size_push']
  have lt := I.lt
  have sz := I.sz
  have nl : ∀ n, s.heap.objs.size ≤ n → n ≠ X.env.locals := fun n hn e => by
    rw [← e] at lt
    exact absurd lt (Nat.not_lt.mpr hn)
  have zl : ∀ n, s.heap.objs.size ≤ n → X.s_0.heap.objs.size ≤ n := fun n hn => Nat.le_trans sz hn
  have fa : s.heap.objs.size + 1 ∉ X.fs := I.nofs (Nat.le_succ _)
  have fx : s.heap.objs.size + 3 ∉ X.fs := I.nofs (by omega)
  have cc : ∀ n, s.heap.objs.size ≤ n → ∀ y c, X.env.cells.lookup y = some c → c ≠ n := fun n hn y c e z => by
    obtain ⟨v, o, e2, _⟩ := I.cell y c e
    have e3 := Heap.lt_size e2
    rw [z] at e3
    exact absurd e3 (Nat.not_lt.mpr hn)
  have pp : ∀ n, s.heap.objs.size ≤ n → ∀ p ∈ X.pn ++ pins, p.1 ≠ n := fun n hn p hp z => by
    have e3 := Heap.lt_size (I.pin p hp).1
    rw [z] at e3
    exact absurd e3 (Nat.not_lt.mpr hn)
  unfold PyProof.Rows.ksk_tree
  refine wpAny_bind (listItems_at ho rfl ?_)
  refine wpAny_bind (listUpdate_at ho rfl ?_ (by rw [List.size_toArray]; exact hle) (Nat.zero_le _))
  obtain ⟨e1, ho1⟩ : ∃ e1, ((PySem.W.copyHeap s.heap its).update (s.heap.objs.size + 1) (Obj.mapSeq fun _ => (#[] : Array Value))).get? (s.heap.objs.size + 1) = some (seqObj "list" #[] e1) := ⟨_, get?_update_seq ho fun _ => #[]⟩
  have up := Heap.SameBut.update (PySem.W.copyHeap s.heap its) (s.heap.objs.size + 1) (Obj.mapSeq fun _ => (#[] : Array Value))
  have I2 := I1.turned (t' := s.toks) (it := s.heap.objs.size + 1) (fun b o hbx e => (up.2 b hbx).trans e) ha (nl _ (Nat.le_succ _)) (.inr (zl _ (Nat.le_succ _))) (cc _ (Nat.le_succ _)) (pp _ (Nat.le_succ _))
  refine wpAny_bind (seqEpoch_at ho1 rfl ?_)
  refine wpAny_bind (wpAny_newTuple ?_ (by show its.length ≤ _; exact hle))
  refine wpAny_bind (wpAny_newList ?_ (Nat.zero_le _))
  refine wpAny_holding ?_
  dsimp only
  have us2 : ((PySem.W.copyHeap s.heap its).update (s.heap.objs.size + 1) (Obj.mapSeq fun _ => (#[] : Array Value))).objs.size = s.heap.objs.size + 2 := by rw [Heap.size_update, csz]
  have us3 : (((PySem.W.copyHeap s.heap its).update (s.heap.objs.size + 1) (Obj.mapSeq fun _ => (#[] : Array Value))).push (seqObj "tuple" its.toArray 0)).objs.size = s.heap.objs.size + 3 := by rw [size_push', us2]
  have I3 := I2.kept (t' := s.toks) (h' := (((PySem.W.copyHeap s.heap its).update (s.heap.objs.size + 1) (Obj.mapSeq fun _ => (#[] : Array Value))).push (seqObj "tuple" its.toArray 0)).push (seqObj "list" #[] 0)) fun b o e => Heap.get?_push_of_some _ (Heap.get?_push_of_some _ e)
  have gx : ((((PySem.W.copyHeap s.heap its).update (s.heap.objs.size + 1) (Obj.mapSeq fun _ => (#[] : Array Value))).push (seqObj "tuple" its.toArray 0)).push (seqObj "list" #[] 0)).get? (s.heap.objs.size + 3) = some (seqObj "list" #[] 0) := by
    have := Heap.get?_push_size (h := ((PySem.W.copyHeap s.heap its).update (s.heap.objs.size + 1) (Obj.mapSeq fun _ => (#[] : Array Value))).push (seqObj "tuple" its.toArray 0)) (o := seqObj "list" #[] 0) rfl
    rw [us3] at this
    exact this
  have ga := Heap.get?_push_of_some (seqObj "list" #[] 0) (Heap.get?_push_of_some (seqObj "tuple" its.toArray 0) ho1)
  have go := keys_run (x := s.heap.objs.size + 3) (a := s.heap.objs.size + 1) (e1 := e1) (E := E') (P := fun f s' => f = .done (.ret .none) ∧ EP X pins σ Q (.ref (s.heap.objs.size + 1)) s') F hr hb hd hK I3 rv hx ha (nl _ (by omega)) (nl _ (Nat.le_succ _)) (zl _ (by omega)) (zl _ (Nat.le_succ _)) (cc _ (by omega)) (cc _ (Nat.le_succ _)) (pp _ (by omega)) (pp _ (Nat.le_succ _)) fx fa (show (s.heap.objs.size + 3 : Nat) ≠ s.heap.objs.size + 1 by omega) gx ga hz al so dp turn
    (fun s' H' ys J sH na e => ⟨rfl, .ref (s.heap.objs.size + 1), _, J, rfl, q _ _ (Same.trans sH (fun b o e2 => by rw [upd_ne (fun z => by rw [z, na] at e2; cases e2)]; exact e2)) ha (by rw [upd_same, e])⟩)
  have ek : (((PySem.W.copyHeap s.heap its).update (s.heap.objs.size + 1) (Obj.mapSeq fun _ => (#[] : Array Value))).push { cls := .type "tuple", data := .seq its.toArray }).objs.size = s.heap.objs.size + 3 := us3
  rw [ek]
  exact go
end
end L2

namespace L2
open PySem PySem.Spec PyProof.Rows
/-! ### xs[::e] of a list, e being 1 or -1 -/
section
variable {X : Cx}
def tStepL (K : PySem.W.Frag) (te ti : TE) : TE := fun σ H Q => te σ H fun x H1 => ti σ H1 fun y H2 => ∃ a xs, x = .ref a ∧ SqL K H2 a xs ∧
  ((y = .int 1 ∧ ∀ p, H2 p = none → Q (.ref p) (upd H2 p (.lst xs))) ∨ (y = .int (-1) ∧ ∀ p, H2 p = none → Q (.ref p) (upd H2 p (.lst xs.reverse))))
theorem pick_fwd (its : List Value) : slicePick its.toArray none none (some 1) = its.toArray := by
  have h : slicePick its.toArray none none (some 1) = slicePick its.toArray none none none := rfl
  rw [h, slicePick_cut, HT.sIx_none, HT.sIx_none]
  simp
theorem pe_stepL {K : PySem.W.Frag} {e st : Expr} {te ti : TE} {p3 pos : Pos} (he : PE X e te) (hs : PE X st ti) (hK : X.K = K := by rfl) : PE X (.Subscript e (.Slice none none (some st) p3) pos) (tStepL K te ti) := by
  subst hK
  refine ⟨fun pins s σ H Q I h => ?_⟩
  refine Subscript_ (thn (he.run pins s σ H _ I h) fun v s1 z => ?_)
  obtain ⟨x, H1, I1, r1, q1⟩ := z
  refine wpAny_Slice (thn (po_none.run pins s1 σ H1 (fun o H2 => o = none ∧ H2 = H1) I1 ⟨rfl, rfl⟩) fun vl s2 z => ?_)
  obtain ⟨l, H2, I2, pl, el, e2⟩ := z
  subst el e2
  refine thn (po_none.run pins s2 σ H2 (fun o H3 => o = none ∧ H3 = H2) I2 ⟨rfl, rfl⟩) fun vu s3 z => ?_
  obtain ⟨u, H3, I3, pu, eu, e3⟩ := z
  subst eu e3
  have q2 : tPart ti σ H3 (fun o H4 => ∃ i, o = some i ∧ (i = 1 ∨ i = -1) ∧ ∃ a xs, x = .ref a ∧ SqL X.K H4 a xs ∧ ∀ p, H4 p = none → Q (.ref p) (upd H4 p (.lst (if i = 1 then xs else xs.reverse)))) := by
    refine (?_ : ti σ H3 _)
    have mono : (fun y H2 => ∃ a xs, x = V.ref a ∧ SqL X.K H2 a xs ∧ ((y = .int 1 ∧ ∀ p, H2 p = none → Q (.ref p) (upd H2 p (.lst xs))) ∨ (y = .int (-1) ∧ ∀ p, H2 p = none → Q (.ref p) (upd H2 p (.lst xs.reverse))))) =
        (fun (y : V) (H2 : Hp) => ∃ i, y = .int i ∧ ∃ j, some i = some j ∧ (j = 1 ∨ j = -1) ∧ ∃ a xs, x = .ref a ∧ SqL X.K H2 a xs ∧ ∀ p, H2 p = none → Q (.ref p) (upd H2 p (.lst (if j = 1 then xs else xs.reverse)))) := by
      funext y H2
      refine propext ⟨?_, ?_⟩
      · rintro ⟨a, xs, rfl, hx, ⟨rfl, q⟩ | ⟨rfl, q⟩⟩
        · exact ⟨1, rfl, 1, rfl, .inl rfl, a, xs, rfl, hx, q⟩
        · exact ⟨-1, rfl, -1, rfl, .inr rfl, a, xs, rfl, hx, q⟩
      · rintro ⟨i, rfl, j, e, hj, a, xs, rfl, hx, q⟩
        injection e with e
        subst e
        rcases hj with rfl | rfl
        · exact ⟨a, xs, rfl, hx, .inl ⟨rfl, q⟩⟩
        · exact ⟨a, xs, rfl, hx, .inr ⟨rfl, q⟩⟩
    exact mono ▸ q1
  refine thn ((po_some hs).run pins s3 σ H3 _ I3 q2) fun vs s4 z => ?_
  obtain ⟨o, H4, I4, ps, i, rfl, hi, a, xs, rfl, hx, q⟩ := z
  cases r1
  have I5 : Inv X pins σ H4 { s4 with heap := s4.heap.push { cls := .type "slice", data := .fields #[vl, vu, vs] } } := I4.kept (t' := s4.toks) fun b ob q => Heap.get?_push_of_some _ q
  obtain ⟨its, r, ht, hz⟩ := I5.list hx
  have hlen := r.length
  show wpAny (model X.prog X.w) X.A (subscriptTail e (.Slice none none (some st) p3) (.ref a) (.ref s4.heap.objs.size)) (EP X pins σ Q) X.xe { s4 with heap := s4.heap.push { cls := .type "slice", data := .fields #[vl, vu, vs] } }
  refine tail_any (ops := [.ref a, .ref s4.heap.objs.size]) ht.isList.typeIs (PySem.slot_list_getitem.lookup) ?_ (by with_unfolding_all rfl)
  refine wpAny_getItem_list_slice ht.isList (Heap.IsSliceOf.new _ vl vu vs) pl pu ps (by rcases hi with rfl | rfl <;> decide) ?_ (by rw [List.size_toArray]; omega)
  rcases hi with rfl | rfl
  · rw [pick_fwd]
    exact ⟨.ref _, _, I5.laid (t' := s4.toks) (o := .lst xs) (fun b ob q => Heap.get?_push_of_some _ q) (Nat.le_refl _) ⟨hz, _, 0, r, Heap.get?_push_size _ rfl⟩, rfl, q _ (I5.hok.fresh (Nat.le_refl _))⟩
  · rw [PySem.W.krv_pick]
    exact ⟨.ref _, _, I5.laid (t' := s4.toks) (o := .lst xs.reverse) (fun b ob q => Heap.get?_push_of_some _ q) (Nat.le_refl _) ⟨by rw [List.length_reverse]; exact hz, _, 0, r.reverse, Heap.get?_push_size _ rfl⟩, rfl, q _ (I5.hok.fresh (Nat.le_refl _))⟩
end
end L2

namespace L2
open PySem PySem.Spec PyProof.Rows
/-! ### text * number -/
section
variable {X : Cx}
theorem op_repS : OpR X (binaryOp .Mult) (fun x y H Q => ∃ (z : Str) (n : Int), x = .str z ∧ y = .int n ∧ MulOk z n ∧ Q (.str (Txt.mul z n)) H) := by
  intro pins s σ H x y v u Q I rx ry h
  obtain ⟨z, n, rfl, rfl, ok, q⟩ := h
  obtain ⟨t, rfl⟩ := rx
  obtain ⟨t', rfl⟩ := ry
  exact SB.mul ok fun t' tk => ⟨.str (Txt.mul z n), H, I.tok _, ⟨_, rfl⟩, q⟩
end
theorem rep_one (c : Nat) : ∀ (n : Nat) (a : Array Nat), ((List.replicate n (#[c] : Array Nat)).foldl (· ++ ·) a) = a ++ (List.replicate n c).toArray
  | 0, a => by simp
  | n + 1, a => by
    rw [List.replicate_succ, List.foldl_cons, rep_one c n, List.replicate_succ]
    apply Array.ext'
    simp
theorem mul_one {c n : Nat} (h : 2 ≤ n) : Txt.mul (⟨#[c]⟩ : Str) (n : Int) = ⟨(List.replicate n c).toArray⟩ := by
  unfold Txt.mul
  have e2 : ((n : Int) == 1 || (⟨#[c]⟩ : Str).length == 0) = false := by
    have : ((n : Int) == 1) = false := beq_eq_false_iff_ne.mpr (by omega)
    rw [this]
    rfl
  rw [if_neg (by omega), e2, if_neg (by decide), Int.toNat_natCast, rep_one]
  simp
end L2

namespace L2
open PySem PySem.Spec PyProof.Rows
/-! ### set(text): its signs; sorted of it -/
def keyT (e : Int × Value) : Str := match e.2 with | .str k _ => k | _ => Str.empty
def GoodT (w : World) (e : Int × Value) : Prop := ∃ k tk, e.2 = Value.str k tk ∧ e.1 = hashStr w k
/-- the set of texts at a: S its members, n their number -/
def SetT (w : World) (h : Heap) (a : Addr) (S : Str → Bool) (n : Nat) : Prop :=
  ∃ o es ep t, h.get? a = some o ∧ o.ExactSet ∧ o.data = .set es ep t ∧ (∀ e ∈ es.toList, GoodT w e) ∧ (es.toList.map keyT).Nodup ∧ (∀ k, S k = true ↔ k ∈ es.toList.map keyT) ∧
    es.size < scanBound ∧ t.fits es.size = true ∧ es.size = n ∧ Ris t.place.toList ∧ (w.params.followText "set-order" = true ∨ t.led = true)
section
variable {P : Program} {w : World} {h h' : Heap} {a : Addr} {S : Str → Bool} {n : Nat}
theorem SetT.at (R : SetT w h a S n) (k : ∀ o, h.get? a = some o → h'.get? a = some o) : SetT w h' a S n := by
  obtain ⟨o, es, ep, t, ho, r⟩ := R
  exact ⟨o, es, ep, t, k o ho, r⟩
theorem goodT_elems {l : List (Int × Value)} (g : ∀ e ∈ l, GoodT w e) : ElemsOf (PySem.strKind P w) l := fun e he => by
  obtain ⟨k, tk, h1, h2⟩ := g e he
  exact ⟨⟨k, by rw [h1]; exact strKind_is P w k tk, h2⟩, by rw [h1] <;> rfl⟩
theorem goodT_is {e : Int × Value} (g : GoodT w e) (k : Str) : (PySem.strKind P w).is k e.2 = true ↔ keyT e = k := by
  obtain ⟨k0, tk, h1, _⟩ := g
  unfold keyT
  rw [h1]
  exact ⟨fun q => (PySem.strKind P w).inj _ _ _ (strKind_is P w k0 tk) q, fun q => by subst q; exact strKind_is P w _ tk⟩
theorem goodT_mem {l : List (Int × Value)} (g : ∀ e ∈ l, GoodT w e) (k : Str) : k ∈ l.map keyT ↔ ∃ e ∈ l, (PySem.strKind P w).is k e.2 = true := by
  rw [List.mem_map]
  constructor
  · rintro ⟨e, he, q⟩
    exact ⟨e, he, (goodT_is (g e he) k).2 q⟩
  · rintro ⟨e, he, q⟩
    exact ⟨e, he, (goodT_is (g e he) k).1 q⟩
end
section
variable {P : Program} {w : World} {A : Around} {E : Value → Shared → Prop} {s : Shared} {a : Addr} {S : Str → Bool} {n : Nat}
theorem setT_add_tail {g : Bool → Sem Unit} (hg : ∀ (b : Bool) (s₁ : Shared) (Q' : Unit → Shared → Prop), Q' () s₁ → wpAny (model P w) A (g b) Q' E s₁)
    {o : Obj} {es : Array (Int × Value)} {ep : Nat} {t : SetTable} (ho : s.heap.get? a = some o) (hex : o.ExactSet) (hd : o.data = .set es ep t)
    {es1 : Array (Int × Value)} {t2 : SetTable} {S' : Str → Bool} (g1 : ∀ e ∈ es1.toList, GoodT w e) (nd1 : (es1.toList.map keyT).Nodup) (m1 : ∀ k, S' k = true ↔ k ∈ es1.toList.map keyT)
    (hb1 : es1.size < scanBound) (hf2 : t2.fits es1.size = true) (hr : Ris t2.place.toList) (hl : w.params.followText "set-order" = true ∨ t2.led = true) {wasDummy : Bool} {R : Option Bool → Shared → Prop}
    (hR : ∀ h', Heap.SameBut a s.heap h' → SetT w h' a S' es1.size → R (some true) { s with heap := h' }) :
    wpAny (model P w) A (do
        storeSet a es1 t2
        if (!wasDummy && t2.tooFull) = true then do
            g (relayAll t2 es1 (SetTable.grown es1.size)).2.2
            storeSet a (relayAll t2 es1 (SetTable.grown es1.size)).1 (relayAll t2 es1 (SetTable.grown es1.size)).2.1
            pure (some true)
          else pure (some true)) R E s := by
  refine wpAny_bind (wpAny_storeSet_of ho hd ?_ (fits_of_scanBound hb1))
  have ho1 := store_at (es' := es1) (t' := t2) ho hd
  have sb1 := Heap.SameBut.update s.heap a (Obj.putSet es1 t2)
  split
  · have pm := relayAll_perm t2 es1 (SetTable.grown es1.size)
    have hf3 := relayAll_fits t2 es1 (SetTable.grown es1.size)
    have hr3 := relayAll_ris t2 es1 (SetTable.grown es1.size)
    have hl3 := relayAll_led t2 es1 (SetTable.grown es1.size)
    generalize relayAll t2 es1 (SetTable.grown es1.size) = Z at pm hf3 hr3 hl3 ⊢
    obtain ⟨es2, t3, gave⟩ := Z
    dsimp only at pm hf3 hr3 hl3 ⊢
    have hsz : es2.size = es1.size := by rw [← Array.length_toList, pm.length_eq, Array.length_toList]
    have hb2 : es2.size < scanBound := by rw [hsz]; exact hb1
    refine wpAny_bind (hg _ _ _ ?_)
    refine wpAny_bind (wpAny_storeSet_of ho1 rfl ?_ (fits_of_scanBound hb2))
    have ho2 := store_at (es' := es2) (t' := t3) ho1 rfl
    refine wpAny_pure (hR _ (sb1.trans (Heap.SameBut.update _ a _)) ?_)
    exact ⟨_, es2, _, t3, ho2, hex, rfl, fun e he => g1 e (pm.mem_iff.mp he), (pm.map keyT).nodup_iff.mpr nd1, fun k => (m1 k).trans (pm.map keyT).mem_iff.symm, hb2, hf3, hsz, hr3,
      hl.imp id fun z => by rw [hl3]; exact z⟩
  · exact wpAny_pure (hR _ sb1 ⟨_, es1, _, t2, ho1, hex, rfl, g1, nd1, m1, hb1, hf2, rfl, hr, hl⟩)
theorem setT_add_hashed {k : Str} {tk : Tok} {Q : Bool → Shared → Prop} (R : SetT w s.heap a S n) (room : n + 1 < scanBound)
    (hQ : ∀ h', Heap.SameBut a s.heap h' → SetT w h' a (fun j => S j || decide (j = k)) (if S k = true then n else n + 1) → Q (!S k) { s with heap := h' }) :
    wpAny (model P w) A (setAddHashed a (.str k tk) ((PySem.strKind P w).hash k)) Q E s := by
  obtain ⟨o, es, ep, t, ho, hex, hd, g, nd, hm, hb, hf, hn, hr, hl⟩ := R
  have hkey : (PySem.strKind P w).is k (.str k tk) = true := strKind_is P w k tk
  have hsc : (Value.str k tk).scannable = true := rfl
  have hel : ElemsOf (PySem.strKind P w) es.toList := goodT_elems g
  unfold setAddHashed setAddHashedIn
  refine wpAny_holding (wpAny_bind (wpAny_setState_of ho hd hf ?_))
  dsimp only
  rw [byScan_of hsc hb hel]
  simp only [↓reduceIte]
  unfold setAddByScan
  refine wpAny_bind ?_
  refine wpAny_bind (wpAny_rule ?_)
  refine wpAny_bind (wpAny_setScan_of hkey ho hd hf hel ?_)
  cases hfi : List.findIdx? (fun e => (PySem.strKind P w).is k e.2) es.toList with
  | some j =>
    dsimp only
    obtain ⟨hj, pj, _⟩ := List.findIdx?_eq_some_iff_getElem.mp hfi
    have hSk : S k = true := (hm k).2 ((goodT_mem (P := P) (w := w) g k).2 ⟨es.toList[j], List.getElem_mem hj, pj⟩)
    refine wpAny_pure (wpAny_pure ?_)
    have q := hQ s.heap (Heap.SameBut.refl a s.heap) ⟨o, es, ep, t, ho, hex, hd, g, nd, fun i => by
      rw [Bool.or_eq_true, decide_eq_true_eq, ← hm i]
      exact ⟨fun z => z.elim id (fun e => e ▸ hSk), .inl⟩, hb, hf, by rw [if_pos hSk]; exact hn, hr, hl⟩
    rw [hSk] at q
    exact q
  | none =>
    dsimp only
    have hnk : k ∉ es.toList.map keyT := fun z => by
      obtain ⟨e, he, q⟩ := (goodT_mem (P := P) (w := w) g k).1 z
      have c := List.findIdx?_eq_none_iff.mp hfi e he
      rw [q] at c
      cases c
    have hSk : S k = false := by
      cases q : S k with
      | false => rfl
      | true => exact absurd ((hm k).1 q) hnk
    have hgw : ∀ (b : Bool) {s₁ : Shared} {Q' : Unit → Shared → Prop}, Q' () s₁ → wpAny (model P w) A (match b with | true => rule "set.scan.the-table-gave-way" | false => pure ()) Q' E s₁ :=
      fun b s₁ Q' q => by cases b <;> first | exact wpAny_pure q | exact wpAny_rule q
    have pm := layNew_perm t es ((PySem.strKind P w).hash k) (.str k tk)
    have hf1 := layNew_fits t es ((PySem.strKind P w).hash k) (.str k tk)
    have hr1 := layNew_ris t es ((PySem.strKind P w).hash k) (.str k tk) hr
    have hl1 := layNew_led t es ((PySem.strKind P w).hash k) (.str k tk)
    generalize layNew t es ((PySem.strKind P w).hash k) (.str k tk) = Z at pm hf1 hr1 hl1 ⊢
    obtain ⟨es1, t1, wasDummy, gave⟩ := Z
    dsimp only at pm hf1 hr1 hl1 ⊢
    rw [Array.toList_push] at pm
    have pc : es1.toList.Perm (((PySem.strKind P w).hash k, Value.str k tk) :: es.toList) := pm.trans (List.perm_append_singleton _ _)
    have pk : (es1.toList.map keyT).Perm (k :: es.toList.map keyT) := pc.map keyT
    have g1 : ∀ e ∈ es1.toList, GoodT w e := fun e he => by
      rcases List.mem_cons.mp (pc.mem_iff.mp he) with z | z
      · rw [z]; exact ⟨k, tk, rfl, rfl⟩
      · exact g e z
    have nd1 : (es1.toList.map keyT).Nodup := pk.nodup_iff.mpr (List.nodup_cons.mpr ⟨hnk, nd⟩)
    have m1 : ∀ i, (S i || decide (i = k)) = true ↔ i ∈ es1.toList.map keyT := fun i => by
      rw [Bool.or_eq_true, decide_eq_true_eq, hm i, pk.mem_iff, List.mem_cons]
      exact Or.comm
    have hsz : es1.size = n + 1 := by rw [← Array.length_toList, pc.length_eq, List.length_cons, Array.length_toList, hn]
    have hb1 : es1.size < scanBound := by rw [hsz]; exact room
    have hled : w.params.followText "set-order" = true ∨ t1.led = true := hl.imp id fun z => by rw [hl1]; exact z
    have fin : ∀ h', Heap.SameBut a s.heap h' → SetT w h' a (fun j => S j || decide (j = k)) es1.size → Q true { s with heap := h' } := fun h' sb r => by
      have q := hQ h' sb
      rw [hSk] at q
      rw [hsz] at r
      exact q r
    refine wpAny_bind (hgw _ ?_)
    split
    · refine wpAny_bind ?_
      rw [hashByValue_scannable 8 hsc]
      refine wpAny_pure ?_
      refine setT_add_tail ?_ ho hex hd g1 nd1 m1 hb1 ?_ ?_ ?_ ?_
      · intro b s₁ Q' q; cases b <;> first | exact wpAny_pure q | exact wpAny_rule q
      · first | (split <;> first | exact hf1 | exact SetTable.fits_plain_off hf1) | exact hf1
      · first | (split <;> exact hr1) | exact hr1
      · first | (split <;> exact hled) | exact hled
      · intro h' sb r; dsimp only; exact wpAny_pure (fin h' sb r)
    · refine wpAny_bind (wpAny_pure ?_)
      simp only [↓reduceIte]
      refine setT_add_tail ?_ ho hex hd g1 nd1 m1 hb1 hf1 hr1 hled ?_
      · intro b s₁ Q' q; cases b <;> first | exact wpAny_pure q | exact wpAny_rule q
      · intro h' sb r; dsimp only; exact wpAny_pure (fin h' sb r)
end
/-- the signs of a text up to a place, as texts -/
def sgnT (x : Str) (i : Nat) (k : Str) : Bool := ((x.cps.toList.take i).map fun c => (⟨#[c]⟩ : Str)).any (· == k)
theorem sgnT_succ {x : Str} {i c : Nat} (h : x.cps[i]? = some c) (k : Str) : sgnT x (i + 1) k = (sgnT x i k || decide (k = ⟨#[c]⟩)) := by
  have e : x.cps.toList[i]? = some c := by rw [Array.getElem?_toList]; exact h
  unfold sgnT
  rw [List.take_add_one, e, List.map_append, List.any_append]
  congr 1
  show ((⟨#[c]⟩ : Str) == k || false) = decide (k = ⟨#[c]⟩)
  rw [Bool.or_false]
  by_cases q : k = ⟨#[c]⟩
  · rw [q, beq_self_eq_true, decide_eq_true rfl]
  · rw [decide_eq_false q]
    exact beq_eq_false_iff_ne.mpr fun z => q z.symm
section
variable {prog : Program} {w : World} {A : Around} {R : Result → Shared → Prop} {I : Addr} {fp wr : List Addr} {G : Array GenState → Array GenState → Prop} {St : Nat → Shared → Prop} {x : Str}
theorem loopT (W : WalksS prog w A.in1 I fp wr G x.cps.size (SignAt x) St) (S : Addr) (hSf : S ∉ fp) (hb : x.cps.size + 1 < scanBound) :
    ∀ (k i m : Nat) (s : Shared), x.cps.size - i = k → i ≤ x.cps.size → St i s → m ≤ i → SetT w s.heap S (sgnT x i) m →
      (∀ s' m', Moved (S :: wr) G s s' → m' ≤ x.cps.size → SetT w s'.heap S (sgnT x x.cps.size) m' → R (.ok (.ret .none)) s') →
      codeAny (model prog w) A (.builtin "set.update.loop" ⟨[.ref S, .ref I], []⟩) R s := by
  have hSw : S ∉ wr := fun h => hSf (W.sub _ h)
  have hsub : ∀ b ∈ wr, b ∈ S :: wr := fun b hb => List.mem_cons_of_mem _ hb
  intro k
  induction k with
  | zero =>
    intro i m s hk hi hst hm0 hS hR
    have hin : i = x.cps.size := by omega
    refine codeAny_builtin F.entry_set_update_loop ?_
    rw [Around.under_plainId F.plain_set_update_loop _]
    show wpAny _ A.in1 (pyNext (.ref I) >>= _) _ _ s
    refine wpAny_bind (W.done s _ _ (hin ▸ hst) fun s' hm => ?_)
    show wpAny _ A.in1 (ret Value.none) _ _ s'
    refine wpAny_pure (hR s' m (hm.mono hsub) (by omega) ?_)
    rw [← hin]
    exact hS.at fun o ho => hm.heap S _ hSw ho
  | succ k ih =>
    intro i m s hk hi hst hm0 hS hR
    have hlt : i < x.cps.size := by omega
    refine codeAny_builtin F.entry_set_update_loop ?_
    rw [Around.under_plainId F.plain_set_update_loop _]
    show wpAny _ A.in1 (pyNext (.ref I) >>= _) _ _ s
    refine wpAny_bind (W.item i s _ _ hlt hst fun v s' hP hst' hm => ?_)
    obtain ⟨c, t, hc, rfl⟩ := hP
    have hS' : SetT w s'.heap S (sgnT x i) m := hS.at fun o ho => hm.heap S _ hSw ho
    show wpAny _ A.in1 (holding [Value.str ⟨#[c]⟩ t] (setAdd S (.str ⟨#[c]⟩ t)) >>= _) _ _ s'
    refine wpAny_bind (wpAny_holding ?_)
    unfold setAdd
    refine wpAny_holding ?_
    refine wpAny_bind ((PySem.strKind prog w).pyHash (k := (⟨#[c]⟩ : Str)) (strKind_is _ _ _ _) ?_)
    refine setT_add_hashed (s := { s' with toks := s'.toks + 1 }) hS' (by omega) fun h' hsb hS2 => ?_
    have hSi : SetT w h' S (sgnT x (i + 1)) (if sgnT x i ⟨#[c]⟩ = true then m else m + 1) := by
      have e : (fun j => sgnT x i j || decide (j = ⟨#[c]⟩)) = sgnT x (i + 1) := funext fun j => (sgnT_succ hc j).symm
      rw [← e]
      exact hS2
    refine wpAny_pure ⟨plainId_quiet F.plain_set_update_loop _, ih (i + 1) _ _ (by omega) hlt (W.frame _ s' _ _ hst' (Nat.le_succ _) fun b hb o e => ?_) (by split <;> omega) hSi fun s'' m' hm'' hz hS'' => ?_⟩
    · rw [hsb.2 b (fun h : b = S => hSf (by rw [← h]; exact hb))]; exact e
    · refine hR s'' m' (Moved.trans W.gtrans ((hm.mono hsub).then_heap (Nat.le_succ _) fun b o hb e => ?_) hm'') hz hS''
      rw [hsb.2 b (fun h : b = S => hb (by rw [h]; exact List.mem_cons_self))]; exact e
end
section
variable {prog : Program} {w : World} {A : Around} {E : Value → Shared → Prop} {s : Shared}
theorem code_set_led1 (a : Value) {Q₁ : Value → Shared → Prop}
    (h : Q₁ (.ref s.heap.objs.size) { s with heap := s.heap.push { cls := .type "set", dict := none, data := .set #[] 0 (.fresh 0 0 (!w.params.followText "set-order")) } }) :
    codeAny (model prog w) A (.call (.builtin "set.__new__") ⟨[.type "set", a], []⟩) (wants Q₁ E) s := by
  refine codeAny_of_tree ?_
  show wpAny _ A.in1 (do checkBuiltinCall "set.__new__" ⟨[.type "set", a], []⟩; again (.builtin "set.__new__" ⟨[.type "set", a], []⟩)) _ _ s
  refine wpAny_bind (wpAny_of_eq (F.newCall_set_1 a) (wpAny_pure ⟨plainId_quiet F.plain_set_new _, codeAny_builtin F.entry_set_new ?_⟩))
  rw [Around.under_plainId F.plain_set_new _]
  unfold Builtin.«set.__new__» Builtin.Frozenset.newClass
  have hsub := sub_set_self
  obtain ⟨hp, g, d, tk, os⟩ := s
  dsimp only
  wp_walk
  refine wpAny_askSetting (wpAny_pure ?_)
  dsimp only
  simp only [newObj]
  refine wpAny_bind (wpAny_alloc (wpAny_pure ?_))
  exact wpAny_pure h
theorem setT_fresh {h : Heap} (w : World) : SetT w (h.push { cls := .type "set", dict := none, data := .set #[] 0 (.fresh 0 0 (!w.params.followText "set-order")) }) h.objs.size (fun _ => false) 0 :=
  ⟨_, #[], 0, _, Heap.get?_push_size _ rfl, ⟨rfl, rfl, rfl⟩, rfl, (fun e he => by simp at he), (by simp), (fun k => by simp), (by decide), (by rfl), rfl, List.Pairwise.nil, by
    show _ ∨ (!w.params.followText "set-order") = true
    cases w.params.followText "set-order"
    · exact .inr rfl
    · exact .inl rfl⟩
theorem sub_str_set : isSubtype (.type "str") (.type "set") = pure false := by rw [isSubtype_type]; kernel_rfl
theorem sub_str_frozenset : isSubtype (.type "str") (.type "frozenset") = pure false := by rw [isSubtype_type]; kernel_rfl
set_option maxHeartbeats 3200000 in
theorem call_set_str {x : Str} {t : Tok} {Q : Value → Shared → Prop}
    (hh : A.handled = none) (hb : x.cps.size + 1 < scanBound)
    (h : ∀ (h' : Heap) (tk m : Nat), m ≤ x.cps.size → SetT w h' s.heap.objs.size (sgnT x x.cps.size) m →
      (∀ b o, b < s.heap.objs.size → s.heap.get? b = some o → h'.get? b = some o) → Q (.ref s.heap.objs.size) { s with heap := h', toks := tk }) :
    wpAny (model prog w) A (call (.type "set") [.str x t]) Q E s := by
  obtain ⟨c, tl, hmro⟩ := PySem.F.called_set.mro
  have hmade := PySem.F.called_set.made
  have hsub := PySem.F.called_set.sub
  refine wpAny_call (codeAny_of_tree ?_)
  show wpAny _ _ (callAny (.type "set") _) _ _ _
  refine wpAny_pure ⟨Code.quiet_builtin _ (by decide +kernel), codeAny_builtin PySem.F.entry_type_call ?_⟩
  rw [Around.under_plain (weight_type_call_type "set" [.str x t] []) rfl]
  have h1 := PySem.F.called_set.notType
  have h2 := PySem.F.called_set.canCreate
  have hct := PySem.F.typeCall_set_1 (.str x t)
  repeat (any_goals (first | assumption | wp_step))
  refine codeAny_mono (code_set_led1 (.str x t) (E := E) (Q₁ := fun obj s₁ => obj = .ref s.heap.objs.size ∧ s₁ = { s with heap := s.heap.push { cls := .type "set", dict := none, data := .set #[] 0 (.fresh 0 0 (!w.params.followText "set-order")) } }) ⟨rfl, rfl⟩) fun r s₁ hr => ?_
  cases r with
  | error e => exact hr
  | ok fl =>
    cases fl with
    | ret obj =>
      obtain ⟨rfl, rfl⟩ := hr
      have hS : (s.heap.push { cls := .type "set", dict := none, data := .set #[] 0 (.fresh 0 0 (!w.params.followText "set-order")) }).get? s.heap.objs.size = some { cls := .type "set", dict := none, data := .set #[] 0 (.fresh 0 0 (!w.params.followText "set-order")) } := Heap.get?_push_size _ rfl
      have hT : Shared.TypeIs { s with heap := s.heap.push { cls := .type "set", dict := none, data := .set #[] 0 (.fresh 0 0 (!w.params.followText "set-order")) } } (.ref s.heap.objs.size) "set" := ⟨_, hS, rfl⟩
      have hli := PySem.F.called_set.init.lookup
      have hbi := PySem.F.called_set.init.bind (.ref s.heap.objs.size)
      repeat (any_goals (first | assumption | wp_step))
      refine codeAny_mono (codeAny_call_builtin (R := wants (fun r s₂ => r = .none ∧ ∃ h' tk m, s₂ = { s with heap := h', toks := tk } ∧ m ≤ x.cps.size ∧
          SetT w h' s.heap.objs.size (sgnT x x.cps.size) m ∧
          (∀ b o, b < s.heap.objs.size → s.heap.get? b = some o → h'.get? b = some o)) E) PySem.F.called_set.init.plain PySem.F.entry_set_init (check_set_init_1 hT ?_)) fun r₂ s₂ hr₂ => ?_
      · have hsls := sub_str_set
        have hslf := sub_str_frozenset
        have hne : (Value.type "str" == Value.type "dict") = false := by decide
        unfold Builtin.«set.__init__» noKeywords Builtin.Frozenset.updateFrom
        generalize hPI : pyIter = PI
        wp_walk
        subst hPI
        refine wpAny_pyIter_str (s := { s with heap := s.heap.push { cls := .type "set", dict := none, data := .set #[] 0 (.fresh 0 0 (!w.params.followText "set-order")) } }) fun oi St hW hst => ?_
        refine wpAny_bind (wpAny_runValue ?_)
        have hSf : s.heap.objs.size ∉ [(s.heap.push { cls := .type "set", dict := none, data := .set #[] 0 (.fresh 0 0 (!w.params.followText "set-order")) }).objs.size] := by
          rw [Heap.size_push]; simp only [List.mem_singleton]
          exact Nat.ne_of_lt (Nat.lt_succ_self _)
        refine loopT ((hW _ (by simp [hh])).toS) s.heap.objs.size hSf hb (x.cps.size - 0) 0 0 _ (by omega) (Nat.zero_le _) hst (Nat.le_refl _) ?hS0 ?hR
        case hS0 =>
          exact (setT_fresh w).at fun o ho => Heap.get?_push_of_some _ ho
        case hR =>
          intro s' m' hm hz hS'
          obtain ⟨h', g', d', tk', os'⟩ := s'
          have eg : g' = s.gens := hm.gens
          have ed : d' = s.drawn := hm.drawn
          have eo : os' = s.os := hm.os
          subst eg; subst ed; subst eo
          show wpAny _ _ _ _ _ _
          refine wpAny_pure ?_
          show wpAny _ _ (ret Value.none) _ _ _
          refine wpAny_pure ⟨rfl, h', tk', m', rfl, hz, hS', fun b o hb e => ?_⟩
          have hb1 : b ≠ s.heap.objs.size := Nat.ne_of_lt hb
          have hb2 : b ≠ (s.heap.push { cls := .type "set", dict := none, data := .set #[] 0 (.fresh 0 0 (!w.params.followText "set-order")) }).objs.size := by
            rw [Heap.size_push]; exact Nat.ne_of_lt (Nat.lt_succ_of_lt hb)
          exact hm.heap b o (by simp only [List.mem_cons, List.not_mem_nil, or_false, not_or]; exact ⟨hb1, hb2⟩) (Heap.get?_push_of_some _ (Heap.get?_push_of_some _ e))
      · cases r₂ with
        | error e => exact hr₂
        | ok fl₂ =>
          cases fl₂ with
          | ret r =>
            obtain ⟨rfl, h', tk, m, rfl, hz, hS', hk'⟩ := hr₂
            repeat (any_goals (first | assumption | wp_step))
            exact h _ _ _ hz hS' hk'
          | _ => exact hr₂.elim
    | _ => exact hr.elim
theorem strs_of : ∀ (l : List Value), (∀ v ∈ l, ∃ k tk, v = Value.str k tk) → StrsAre l (l.map fun v => match v with | .str k _ => k | _ => Str.empty)
  | [], _ => .nil
  | v :: l, h => by
    obtain ⟨k, tk, rfl⟩ := h v List.mem_cons_self
    exact .cons k tk (strs_of l fun u hu => h u (List.mem_cons_of_mem _ hu))
theorem sorted_setT {a : Addr} {S : Str → Bool} {n : Nat} {Q : Value → Shared → Prop} (R : SetT w s.heap a S n) (hh : A.handled = none)
    (hQ : ∀ s' p (out : Array Value) (c : Nat) (ys : List Str), (∀ b o, s.heap.get? b = some o → s'.heap.get? b = some o) → s'.gens = s.gens → s'.os = s.os → s.heap.objs.size ≤ p →
      s'.heap.get? p = some (seqObj "list" out c) → StrsAre out.toList ys → sortedS ys = true → ys.Nodup → (∀ k, k ∈ ys ↔ S k = true) → ys.length = n → Q (.ref p) s') :
    wpAny (model prog w) A (call (.builtin "sorted") [.ref a]) Q E s := by
  obtain ⟨o, es, ep, t, ho, hex, hd, g, nd, hm, hb, hf, hn, hr, hl⟩ := R
  refine Calls.call_function_entry kind_sorted plain_sorted entry_sorted (args_sorted1 _) ?_
  unfold Builtin.«sorted»
  refine wpAny_bind (m := checkCount "sorted" 1 1 _) (wpAny_pure ?_)
  refine wpAny_bind (collect_set (A := A.in1) hh ⟨o, ho, hex.1, hd⟩ hf hb hr hl fun s1 vs k1 hz g1 o1 pm => ?_)
  have hvl : vs.length = n := by rw [pm.length_eq, List.length_map, Array.length_toList]; exact hn
  have hnz : n ≤ sizeLine := by rw [← hn]; exact fits_of_scanBound hb
  have hI : StrsAre vs (vs.map fun v => match v with | .str k _ => k | _ => Str.empty) := strs_of vs fun v hv => by
    obtain ⟨e, he, q⟩ := List.mem_map.mp (pm.mem_iff.mp hv)
    obtain ⟨k, tk, h1, _⟩ := g e he
    exact ⟨k, tk, by rw [← q]; exact h1⟩
  have pk : (vs.map fun v => match v with | .str k _ => k | _ => Str.empty).Perm (es.toList.map keyT) := by
    have q := pm.map (fun v => match v with | .str k _ => k | _ => Str.empty)
    rw [List.map_map] at q
    exact q
  refine wpAny_bind (wpAny_newList ?_ (by rw [hvl]; exact hnz))
  have hoL : (s1.heap.push (seqObj "list" vs.toArray 0)).get? s1.heap.objs.size = some (seqObj "list" vs.toArray 0) := Heap.get?_push_size _ rfl
  refine wpAny_bind (wpAny_holding (wpAny_call_entry slot_list_sort ⟨_, hoL, rfl⟩ entry_list_sort (list_sort_treeKAny strKind_oneLt hoL hI.keysOf (fun v₁ v₂ rest e => keyKind_strs (by rw [← e]; exact hI)) (by rw [hvl]; exact hnz) fun st' b1 b2 => ⟨_, rfl, ?_⟩) (args_list_sort _)))
  obtain ⟨ys, a1, a2, a3⟩ := sorted_out_str hI b1 b2
  obtain ⟨c, hc⟩ := sortedHeap_at (vs := vs) (out := (arrOf st').map (·.2)) hoL
  have pn : ys.Perm (es.toList.map keyT) := a2.trans pk
  refine wpAny_pure ⟨_, rfl, hQ _ s1.heap.objs.size _ c ys (fun b u e => ?_) g1 o1 hz hc a1 a3 (pn.nodup_iff.mpr nd) (fun k => by rw [pn.mem_iff, ← hm k]) ?_⟩
  · have q := k1 b u e
    have hlt := Heap.lt_size q
    show (sortedHeap (s1.heap.push (seqObj "list" vs.toArray 0)) s1.heap.objs.size vs ((arrOf st').map (·.2))).get? b = some u
    rw [sortedHeap_old (Nat.ne_of_lt hlt) (by rw [size_push']; exact Nat.lt_succ_of_lt hlt)]
    exact Heap.get?_push_of_some _ q
  · rw [pn.length_eq, List.length_map, Array.length_toList]; exact hn
end
/-- the set of texts at a -/
def SetTO (w : World) (a : Addr) (S : Str → Bool) (n : Nat) : HO := .ext fun h => SetT w h a S n
section
variable {X : Cx}
theorem setTO_new {w : World} {P : Program} {H : Hp} {h : Heap} {a : Addr} {S : Str → Bool} {n : Nat} (R : SetT w h a S n) : ObjOk P w H h a (SetTO w a S n) := by
  have ⟨o, _, _, _, ho, _⟩ := R
  exact ⟨R, ⟨o, ho⟩, fun h1 h2 p k => SetT.at p k⟩
theorem setTO_get {pins : List (Addr × Obj)} {σ : St} {H : Hp} {s : Shared} {a : Addr} {S : Str → Bool} {n : Nat} (I : Inv X pins σ H s) (ha : H a = some (SetTO X.w a S n)) : SetT X.w s.heap a S n := (I.hok a _ ha).1
/-- set(text) -/
def rSetT (w : World) : List V → Hp → VK → Prop := fun xs H Q => ∃ x : Str, xs = [.str x] ∧ x.cps.size + 1 < scanBound ∧ ∀ p m, m ≤ x.cps.size → H p = none → Q (.ref p) (upd H p (SetTO w p (sgnT x x.cps.size) m))
theorem call_setT (hc : X.calm = true) : CallR X (.type "set") (rSetT X.w) := by
  intro pins s σ H xs us Q I r h
  obtain ⟨x, rfl, hz, q⟩ := h
  obtain ⟨u, rfl, ru⟩ := vals1 r
  obtain ⟨t, rfl⟩ := ru
  refine call_set_str (I.ok.hd hc) hz fun h' tk m hm hS hk => ?_
  exact ⟨.ref s.heap.objs.size, _, I.laid (t' := tk) (a := s.heap.objs.size) (o := SetTO X.w s.heap.objs.size (sgnT x x.cps.size) m) (fun b o z => hk b o (Heap.lt_size z) z) (Nat.le_refl _) (setTO_new hS), rfl, q _ m hm (I.hok.fresh (Nat.le_refl _))⟩
/-- sorted(set of texts) -/
def rSortedSetT (w : World) : List V → Hp → VK → Prop := fun vs H Q => ∃ (a : Addr) (S : Str → Bool) (n : Nat), vs = [V.ref a] ∧ H a = some (SetTO w a S n) ∧ n ≤ 40000 ∧
  ∀ (ys : List Str) (p : Addr), sortedS ys = true → ys.Nodup → (∀ k : Str, k ∈ ys ↔ S k = true) → ys.length = n → H p = none → Q (.ref p) (upd H p (.lst (ys.map V.str)))
theorem call_sortedSetT (hc : X.calm = true) : CallR X (.builtin "sorted") (rSortedSetT X.w) := by
  intro pins s σ H vs us Q I r h
  obtain ⟨a, S, n, rfl, ha, hz, q⟩ := h
  have R := setTO_get I ha
  rw [Vals.ref1 r]
  refine sorted_setT R (I.ok.hd hc) fun s' p out c ys k g o hp hg hi hs hd hm hl => ?_
  have hlen : (ys.map V.str).length ≤ sizeLine := by rw [List.length_map, hl]; exact Nat.le_trans hz (by decide)
  have hn : H p = none := I.hok.fresh hp
  have J : Inv X pins σ (upd H p (.lst (ys.map V.str))) { s with heap := s'.heap, gens := s'.gens, drawn := s'.drawn, toks := s'.toks } :=
    I.call (ch := []) (Un.laid k hp hn) (I.hok.laid k hp ⟨hlen, out.toList, c, vals_of_strs hi, hg⟩) (by rw [g]; exact I.bare) (fun _ z => nomatch z)
  have e : s' = { s with heap := s'.heap, gens := s'.gens, drawn := s'.drawn, toks := s'.toks } := by
    cases s'
    cases s
    cases o
    rfl
  rw [e]
  exact ⟨.ref p, _, J, rfl, q ys p hs hd hm hl hn⟩
/-- tuple(list) -/
def rTupL (K : PySem.W.Frag) : List V → Hp → VK → Prop := fun xs H Q => ∃ p ys, xs = [.ref p] ∧ SqL K H p ys ∧ ∀ l, H l = none → Q (.ref l) (upd H l (.tup ys))
theorem call_tupleL {K : PySem.W.Frag} (hK : X.K = K := by rfl) : CallR X (.type "tuple") (rTupL K) := by
  subst hK
  intro pins s σ H xs us Q I r h
  obtain ⟨p, ys, e, hS, q⟩ := h
  exact call_tuple_of pins s σ H xs us Q I r ⟨p, ys, e, .inl ⟨hS, q⟩⟩
end
end L2

namespace Toy
open PySem L2

def top (i : Nat) : Stmt := PySem.Challenge.pw_undotrees_k02_contrary_and_plain.main.body.getD i (.Pass ⟨0, 0, 0, 0⟩)
abbrev s_law_pool : Stmt := top 15
abbrev s_law_take : Stmt := top 16
abbrev s_law_turned : Stmt := top 17
abbrev s_law_row : Stmt := top 18
abbrev s_is_row_within : Stmt := top 5
abbrev s_is_row : Stmt := top 6
abbrev s_look_at_row : Stmt := top 7
abbrev s_contrary_sign : Stmt := top 8
abbrev s_turned : Stmt := top 9
abbrev s_contrary : Stmt := top 11
abbrev s_law_taken_out : Stmt := top 19
abbrev s_made_plain : Stmt := top 10
abbrev s_plain : Stmt := top 12
abbrev s_deeds_of : Stmt := top 13
abbrev s_law : Stmt := top 20
open RowM (sgns con ix Row)
open TL
/-- the reading, as far as it goes by itself -/
local macro_rules | `(tactic| walk_at "rd") => `(tactic| repeat (first
  | refine ⟨_, rfl, ?_⟩
  | refine ⟨_, _, rfl, rfl, ?_⟩
  | refine ⟨rfl, ?_⟩
  | refine ⟨(by show (0 : Int) < _; omega), ?_⟩
  | refine ⟨⟨by omega, by omega⟩, ?_⟩
  | refine ⟨(by decide), ?_⟩
  | refine ⟨(by omega), ?_⟩))
/-- the text of a list of signs' numbers -/
abbrev S (l : List Nat) : Str := ⟨l.toArray⟩
/-- all but the object at p is as it was -/
def Off (p : Addr) (H H' : Hp) : Prop := ∀ b o, b ≠ p → H b = some o → H' b = some o
theorem Off.refl (p : Addr) (H : Hp) : Off p H H := fun _ _ _ h => h
theorem Off.trans {p : Addr} {H H1 H2 : Hp} (a : Off p H H1) (b : Off p H1 H2) : Off p H H2 := fun c o n h => b c o n (a c o n h)
theorem off_of {p : Addr} {H H' : Hp} (a : Same H H') : Off p H H' := fun c o _ h => a c o h
theorem Off.upd {p : Addr} {H H' : Hp} {o : HO} (a : Off p H H') : Off p H (upd H' p o) := fun c u n h => by
  rw [upd_ne n]
  exact a c u n h
/-- the law's own pool of draws -/
def Pool (H : Hp) (p : Addr) : Prop := ∃ c n : Int, H p = some (.lst [.int c, .int n]) ∧ 0 ≤ n ∧ n < 2147483647
theorem Pool.same {H H' : Hp} {p : Addr} (h : Pool H p) (s : Same H H') : Pool H' p := by
  obtain ⟨c, n, e, r⟩ := h
  exact ⟨c, n, s _ _ e, r⟩
theorem Same.new {H : Hp} {p : Addr} {o : HO} (h : H p = none) : Same H (upd H p o) := fun b u e => by
  rw [upd_ne (ne_of_none e h)]
  exact e
theorem atI0 {α : Type} {a : α} {l : List α} : atI (a :: l) 0 = some a := atI_nat (xs := a :: l) (j := 0) rfl
theorem atI1 {α : Type} {a b : α} {l : List α} : atI (a :: b :: l) 1 = some b := atI_nat (xs := a :: b :: l) (j := 1) rfl
theorem one_le {c : Nat} : (⟨#[c]⟩ : Str).length ≤ 5592405 := by show 1 ≤ _; decide
/-! ### signs -/
open RowM (lo up)
theorem low1 : ∀ c ∈ sgns, Txt.lower (S [c]) = S [lo c] := by decide +kernel
theorem up1 : ∀ c ∈ sgns, Txt.upper (S [c]) = S [up c] := by decide +kernel
theorem isup1 : ∀ c ∈ sgns, Txt.isupper (S [c]) = decide (c < 97) := by decide +kernel
theorem islo1 : ∀ c ∈ sgns, Txt.islower (S [c]) = decide (97 ≤ c) := by decide +kernel
theorem six1 : ∀ c ∈ sgns, ∃ r, Builtin.Str.occurrences "aAbBcCdDeEfF" (S [c]) 0 12 1 = ix c :: r := by
  intro c hc
  have h : ∀ c ∈ sgns, (Builtin.Str.occurrences "aAbBcCdDeEfF" (S [c]) 0 12 1).head? = some (ix c) := by decide +kernel
  have := h c hc
  cases e : Builtin.Str.occurrences "aAbBcCdDeEfF" (S [c]) 0 12 1 with
  | nil => rw [e] at this; cases this
  | cons a r => rw [e] at this; cases this; exact ⟨r, rfl⟩
theorem sgns_at : ∀ i : Nat, i < 12 → ∃ c, (Str.ofString "aAbBcCdDeEfF").cps.toList[i]? = some c ∧ c ∈ sgns ∧ ix c = i := by
  have h : ∀ i ∈ List.range 12, (Str.ofString "aAbBcCdDeEfF").cps.toList[i]? = sgns[i]? ∧ (sgns[i]?).isSome = true ∧ ix (sgns.getD i 0) = i := by decide +kernel
  intro i hi
  obtain ⟨h1, h2, h3⟩ := h i (List.mem_range.mpr hi)
  have h4 : i < sgns.length := hi
  refine ⟨sgns[i], by rw [h1, List.getElem?_eq_getElem h4], List.getElem_mem _, ?_⟩
  rw [List.getD_eq_getElem?_getD, List.getElem?_eq_getElem h4] at h3
  exact h3
theorem sgns_mem : ∀ c : Nat, (c ∈ (Str.ofString "aAbBcCdDeEfF").cps.toList) = (c ∈ sgns) := by
  have h : (Str.ofString "aAbBcCdDeEfF").cps.toList = sgns := by decide +kernel
  intro c
  rw [h]
theorem sign_of_at {i : Int} {z : Str} (h0 : 0 ≤ i) (h1 : i < 12) (hz : z = Str.ofString "aAbBcCdDeEfF") : ∃ c, atI z.cps.toList i = some c ∧ c ∈ sgns ∧ (ix c : Int) = i := by
  subst hz
  obtain ⟨c, e, hc, hi⟩ := sgns_at i.toNat (by omega)
  refine ⟨c, ?_, hc, by omega⟩
  have : i = (i.toNat : Int) := by omega
  rw [this]
  exact atI_nat e
theorem el_is {te : TE} {σ : L2.St} {H : Hp} {xs ys : List V} (h : Evl.EvL te σ H xs) (e : xs = ys) : Evl.EvL te σ H ys := e ▸ h
theorem len_S (l : List Nat) : (S l).length = l.length := by simp [S, Str.length]
theorem add_S (l m : List Nat) : S l ++ S m = S (l ++ m) := ext_tl (by rw [tl_append])
theorem joinL_nil : ∀ ps : List (List Nat), joinL [] ps = ps.flatten
  | [] => rfl
  | [p] => by simp [joinL]
  | p :: q :: r => by rw [joinL, joinL_nil (q :: r)]; simp
theorem join_S (a : Str) (ha : tl a = []) (l : List Nat) : Txt.join a (l.map fun c => S [c]) = S l := by
  refine ext_tl ?_
  rw [join_eq, tl_join, ha, joinL_nil]
  show _ = l
  induction l with
  | nil => rfl
  | cons c l ih => simp [tl] at ih ⊢; exact ih
theorem sum_ones (l : List Nat) : ((l.map fun c => S [c]).map (·.length)).sum = l.length := by
  induction l with
  | nil => rfl
  | cons c l ih => simp only [List.map_cons, List.sum_cons, List.length_cons, ih, len_S]; simp; omega
section
open Evl
variable {K : PySem.W.Frag} {σ : L2.St} {H : Hp} {te tl' to : TE} {j : Nat} {vs : List Nat}
/-- "".join([e for sign in text]), each e a sign -/
theorem ev_joinMap {a s : Str} (g : Nat → Nat) (ho : Ev to σ H (.str a)) (ha : tl a = []) (h : Ev tl' σ H (.str s)) (hz : s.length ≤ 40000) (hw : ∀ x, wipe ((wipe σ vs).set j (some x)) vs = wipe σ vs)
    (he : ∀ (c : Nat) H1, Ex H H1 → c ∈ s.cps.toList → Ev te ((wipe σ vs).set j (some (.str ⟨#[c]⟩))) H1 (.str (S [g c]))) :
    Ev (tM1 (rJoinK K) to (tLc (iStr tl') (gName j) tYes te vs)) σ H
      (.str (S (s.cps.toList.map g))) := by
  have e1 : s.cps.toList.map (fun c => V.str (S [g c])) = ((s.cps.toList.map g).map fun c => S [c]).map V.str := by simp [List.map_map, Function.comp]
  have e2 : a.length = 0 := by rw [len_tl, ha]; rfl
  have z : s.cps.toList.length = s.length := rfl
  refine ev_is (ev_join ho (el_is (el_mapS (fun c => .str (S [g c])) h hz hw he) e1) ?_) (by rw [join_S a ha])
  rw [sum_ones, e2, List.length_map, z]
  omega
end
/-- [sign.upper(), sign.lower()][int(sign.isupper())] -/
theorem at_turn {c : Nat} (hc : c ∈ sgns) : atI [V.str (Txt.upper (S [c])), V.str (Txt.lower (S [c]))] (if Txt.isupper (S [c]) then 1 else 0) = some (.str (S [con c])) := by
  rw [up1 c hc, low1 c hc, isup1 c hc]
  unfold con up lo
  by_cases h : c < 97
  · have h2 : ¬ 97 ≤ c := by omega
    rw [if_neg h2, if_neg h2, if_neg h2, decide_eq_true h]
    exact atI1
  · have h2 : 97 ≤ c := by omega
    rw [if_pos h2, if_pos h2, if_pos h2, decide_eq_false h]
    exact atI0
theorem sz_str {l m : List Nat} (h1 : l.length < 40000) (h2 : m.length < 40000) : (S l).length + (S m).length ≤ sizeLine := by
  rw [len_S, len_S]
  exact Nat.le_trans (by omega : _ ≤ 100000) (by decide)
theorem row_snoc {l : List Nat} {c : Nat} (h : Row l) (hc : c ∈ sgns) : Row (l ++ [c]) := fun d hd => by
  rcases List.mem_append.mp hd with q | q
  · exact h d q
  · rw [List.mem_singleton.mp q]; exact hc
theorem all_snoc {P : Nat → Prop} {l : List Nat} {c : Nat} (h : ∀ d ∈ l, P d) (hc : P c) : ∀ d ∈ l ++ [c], P d := fun d hd => by
  rcases List.mem_append.mp hd with q | q
  · exact h d q
  · rw [List.mem_singleton.mp q]; exact hc
theorem at_last {m : List Nat} {d : Nat} : atI (S (m ++ [d])).cps.toList (-(1 : Int)) = some d := by
  show atI (m ++ [d]) (-1) = some d
  unfold atI ixN
  have h : -(((m ++ [d]).length : Nat) : Int) ≤ -1 := by simp; omega
  rw [if_neg (by decide), if_pos h]
  have e : ((-1 : Int) + ((m ++ [d]).length : Nat)).toNat = m.length := by simp; omega
  rw [e]
  simp
theorem cut_S (l : List Nat) (lo hi : Option Int) : cutS (S l) lo hi = S ((l.drop (HT.sIx l.length 0 lo)).take (HT.sIx l.length l.length hi - HT.sIx l.length 0 lo)) := by
  unfold cutS
  rw [len_S]
theorem cut_last {m : List Nat} {d : Nat} : cutS (S (m ++ [d])) none (some (-1)) = S m := by
  rw [cut_S, HT.sIx_none]
  have e : HT.sIx (m ++ [d]).length (m ++ [d]).length (some (-1)) = m.length := by
    show (if (-1 : Int) < 0 then ((-1 : Int) + ((m ++ [d]).length : Nat)).toNat else min (-1 : Int).toNat (m ++ [d]).length) = _
    rw [if_pos (by decide)]
    simp
    omega
  rw [e, List.drop_zero, Nat.sub_zero]
  simp
theorem sz_of' {n : Nat} (h : n ≤ 100000) : n ≤ sizeLine := Nat.le_trans h (by decide)
theorem exists_snoc {α : Type} {m : List α} (h : m ≠ []) : ∃ l d, m = l ++ [d] := ⟨m.dropLast, m.getLast h, (List.dropLast_concat_getLast h).symm⟩
theorem ix_con {c : Nat} (h : c ∈ sgns) : ix (con c) / 2 = ix c / 2 := by
  have : ∀ c ∈ sgns, ix (con c) / 2 = ix c / 2 := by decide
  exact this c h
/-! ### the rank of a row, as data -/
def intsD (xs : List Nat) : List PyData := xs.map fun (c : Nat) => .int (c : Int)
def rankD (l : List Nat) : PyData := .tuple [.int l.length, .list (intsD (l.map ix))]
theorem alike_ints : ∀ xs ys : List Nat, PySem.W.alikeAll (intsD xs) (intsD ys) = true
  | [], _ => by simp [intsD, PySem.W.alikeAll]
  | _ :: _, [] => by simp [intsD, PySem.W.alikeAll]
  | x :: xs, y :: ys => by
    have ih := alike_ints xs ys
    simp only [intsD] at ih ⊢
    simp [PySem.W.alikeAll, PySem.W.alike, ih]
theorem alike_rank (l m : List Nat) : PySem.W.alike (rankD l) (rankD m) = true := by
  simp [rankD, PySem.W.alike, PySem.W.alikeAll, alike_ints]
theorem eqv_int (a b : Int) : PyData.eqv (.int a) (.int b) = decide (a = b) := by
  simp [PyData.eqv]
  by_cases h : a = b <;> simp [h]
theorem lex_ints : ∀ xs ys : List Nat, xs.length = ys.length → PyProof.Rows.lexLt PyProof.Rows.itemOrd (PySem.W.keyToksAll (intsD xs)) (PySem.W.keyToksAll (intsD ys)) = RowM.lexI xs ys
  | [], [], _ => by decide
  | [], _ :: _, h => by simp at h
  | _ :: _, [], h => by simp at h
  | x :: xs, y :: ys, h => by
    have ih := lex_ints xs ys (by simpa using h)
    show PyProof.Rows.lexLt PyProof.Rows.itemOrd (PySem.W.keyToksAll (.int (x : Int) :: intsD xs)) (PySem.W.keyToksAll (.int (y : Int) :: intsD ys)) = _
    by_cases e : x = y
    · rw [PySem.W.dataLt_all_yes rfl (by rw [eqv_int]; simp [e]), ih, RowM.lexI, if_pos e]
    · rw [PySem.W.dataLt_all_no rfl (by rw [eqv_int]; simp; omega), PySem.W.dataLt_int, RowM.lexI, if_neg e]
      congr 1
      simp
theorem eqv_list_len : ∀ xs ys : List Nat, PyData.eqvAll (intsD xs) (intsD ys) = true → xs = ys
  | [], [], _ => rfl
  | [], _ :: _, h => by simp [intsD, PyData.eqvAll] at h
  | _ :: _, [], h => by simp [intsD, PyData.eqvAll] at h
  | x :: xs, y :: ys, h => by
    have h2 : PyData.eqvAll (.int (x : Int) :: intsD xs) (.int (y : Int) :: intsD ys) = true := h
    rw [PySem.W.eqv_all_cons, Bool.and_eq_true, eqv_int] at h2
    have := eqv_list_len xs ys h2.2
    have e := of_decide_eq_true h2.1
    rw [this]
    congr 1
    omega
theorem lt_rank {l m : List Nat} : PySem.W.dataLt (rankD l) (rankD m) = RowM.before l m := by
  unfold rankD
  rw [PySem.W.dataLt_tuple]
  unfold RowM.before
  by_cases e : l.length = m.length
  · rw [if_pos e, PySem.W.dataLt_all_yes rfl (by rw [eqv_int]; simp [e])]
    by_cases q : PyData.eqv (.list (intsD (l.map ix))) (.list (intsD (m.map ix))) = true
    · rw [PySem.W.dataLt_all_yes (by rw [PySem.W.alike]; exact alike_ints _ _) q]
      have : l.map ix = m.map ix := eqv_list_len _ _ (by simpa [PyData.eqv] using q)
      rw [this]
      have z : ∀ n : List Nat, RowM.lexI n n = false := by
        intro n
        induction n with
        | nil => rfl
        | cons a n ih => simp [RowM.lexI, ih]
      rw [z]
      decide
    · rw [PySem.W.dataLt_all_no (by rw [PySem.W.alike]; exact alike_ints _ _) (by simpa using q), PySem.W.dataLt_list, lex_ints _ _ (by simpa using e)]
  · rw [if_neg e, PySem.W.dataLt_all_no rfl (by rw [eqv_int]; simp; omega), PySem.W.dataLt_int]
    congr 1
    simp
section
variable {K : PySem.W.Frag} {H : Hp}
theorem dp_ints : ∀ xs : List Nat, DpAll K H (xs.map fun (c : Nat) => V.int (c : Int)) (intsD xs)
  | [] => .nil
  | x :: xs => .cons (.int _) (dp_ints xs)
theorem dp_rank {t q : Addr} {l : List Nat} (ht : H t = some (.tup [.int l.length, .ref q])) (hq : H q = some (.lst (l.map fun c => V.int (ix c : Nat)))) : Dp K H (.ref t) (rankD l) :=
  .tup (SqT.of ht) (.cons (.int _) (.cons (.lst (SqL.of hq) (by
    have := dp_ints (K := K) (H := H) (l.map ix)
    rw [List.map_map] at this
    exact this)) .nil))
end
theorem depth_ints : ∀ xs : List Nat, PyData.depthAll (intsD xs) = 0
  | [] => rfl
  | x :: xs => by
    have := depth_ints xs
    simp only [intsD, List.map_cons, PyData.depthAll, PyData.depth] at this ⊢
    omega
theorem depth_rank (l : List Nat) : (rankD l).depth ≤ 60 := by
  simp [rankD, PyData.depth, PyData.depthAll, depth_ints]
def isRow (l : List Nat) : Bool := decide (l.length ≤ 60) && l.all fun c => decide (c ∈ sgns)
theorem isRow_iff {l : List Nat} : isRow l = true ↔ l.length ≤ 60 ∧ Row l := by
  simp [isRow, RowM.Row]
theorem turns_ok (x t : Int) (h : 1 ≤ t) : 1 ≤ (if (if t < x then t else x) > 1 then (if t < x then t else x) else 1) ∧ (if (if t < x then t else x) > 1 then (if t < x then t else x) else 1) ≤ t := by
  by_cases a : t < x
  · rw [if_pos a]
    by_cases b : t > 1
    · rw [if_pos b]; omega
    · rw [if_neg b]; omega
  · rw [if_neg a]
    by_cases b : x > 1
    · rw [if_pos b]; omega
    · rw [if_neg b]; omega
theorem at2 {α : Type} {a b : α} {v : Int} (h0 : 0 ≤ v) (h1 : v < 2) : ∃ x, atI [a, b] v = some x ∧ (x = a ∨ x = b) := by
  have : v = 0 ∨ v = 1 := by omega
  rcases this with rfl | rfl
  · exact ⟨a, atI0, .inl rfl⟩
  · exact ⟨b, atI1, .inr rfl⟩
theorem cut_to {l : List Nat} {k : Nat} (h : k ≤ l.length) : cutS (S l) none (some (k : Int)) = S (l.take k) := by
  rw [cut_S, HT.sIx_none, HT.sIx_nat, Nat.min_eq_left h, List.drop_zero, Nat.sub_zero]
theorem cut_from {l : List Nat} {k : Nat} : cutS (S l) (some (k : Int)) none = S (l.drop k) := by
  rw [cut_S, HT.sIx_none, HT.sIx_nat]
  congr 1
  by_cases h : k ≤ l.length
  · rw [Nat.min_eq_left h]
    have : (l.drop k).length = l.length - k := List.length_drop ..
    rw [← this, List.take_length]
  · have h2 : l.length ≤ k := by omega
    rw [Nat.min_eq_right h2, List.drop_eq_nil_of_le h2, Nat.sub_self, List.take_zero]
theorem str_dec {c d : Nat} : decide (V.str (S [c]) = V.str (S [d])) = decide (c = d) := by
  apply decide_eq_decide.mpr
  constructor
  · intro h
    have h1 := congrArg (fun v => match v with | V.str z => z.cps.toList | _ => []) h
    simpa using h1
  · intro h; rw [h]
theorem row_sub {l m : List Nat} (h : Row l) (s : ∀ c ∈ m, c ∈ l) : Row m := fun c hc => h c (s c hc)
theorem row_app {l m : List Nat} (h : Row l) (h2 : Row m) : Row (l ++ m) := fun c hc => by
  rcases List.mem_append.mp hc with q | q
  · exact h c q
  · exact h2 c q
theorem at2of3 {α : Type} {a b c : α} {l : List α} : atI (a :: b :: c :: l) 2 = some c := atI_nat (xs := a :: b :: c :: l) (j := 2) rfl
theorem at3 {α : Type} {a b c : α} {v : Int} (h0 : 0 ≤ v) (h1 : v < 3) : ∃ x, atI [a, b, c] v = some x ∧ (x = a ∨ x = b ∨ x = c) := by
  have : v = 0 ∨ v = 1 ∨ v = 2 := by omega
  rcases this with rfl | rfl | rfl
  · exact ⟨a, atI0, .inl rfl⟩
  · exact ⟨b, atI1, .inr (.inl rfl)⟩
  · exact ⟨c, at2of3, .inr (.inr rfl)⟩
theorem at4 {α : Type} {a b c d : α} {v : Int} (h0 : 0 ≤ v) (h1 : v < 4) : ∃ x, atI [a, b, c, d] v = some x ∧ (x = a ∨ x = b ∨ x = c ∨ x = d) := by
  have : v = 0 ∨ v = 1 ∨ v = 2 ∨ v = 3 := by omega
  rcases this with rfl | rfl | rfl | rfl
  · exact ⟨a, atI0, .inl rfl⟩
  · exact ⟨b, atI1, .inr (.inl rfl)⟩
  · exact ⟨c, at2of3, .inr (.inr (.inl rfl))⟩
  · exact ⟨d, atI_nat (xs := [a, b, c, d]) (j := 3) rfl, .inr (.inr (.inr rfl))⟩
theorem Pool.ne {H : Hp} {p d : Addr} (h : Pool H p) (hd : H d = none) : p ≠ d := fun e => by
  obtain ⟨_, _, q, _⟩ := h
  rw [e, hd] at q
  cases q
theorem Pool.new {H : Hp} {p d : Addr} {o : HO} (h : Pool H p) (hd : H d = none) : Pool (upd H d o) p := h.same (Same.new hd)
/-- what stood ahead of the pool stands -/
theorem Off.same {H0 H H' : Hp} {p : Addr} (hp : H0 p = none) (s : Same H0 H) (o : Off p H H') : Same H0 H' := fun b u e => o b u (fun q => by rw [q, hp] at e; cases e) (s b u e)
/-! ### things of any kind -/
def NotStr (H : Hp) (x : V) : Prop := x = .non ∨ (∃ i, x = .int i) ∨ (∃ b, x = .bl b) ∨ ∃ a, x = .ref a ∧ ((∃ xs, H a = some (.lst xs)) ∨ (∃ xs, H a = some (.tup xs)) ∨ ∃ kvs, H a = some (.dK kvs))
theorem NotStr.same {H H' : Hp} {x : V} (h : NotStr H x) (s : Same H H') : NotStr H' x := by
  rcases h with h | h | h | ⟨a, e, ⟨xs, h⟩ | ⟨xs, h⟩ | ⟨xs, h⟩⟩
  · exact .inl h
  · exact .inr (.inl h)
  · exact .inr (.inr (.inl h))
  · exact .inr (.inr (.inr ⟨a, e, .inl ⟨xs, s _ _ h⟩⟩))
  · exact .inr (.inr (.inr ⟨a, e, .inr (.inl ⟨xs, s _ _ h⟩)⟩))
  · exact .inr (.inr (.inr ⟨a, e, .inr (.inr ⟨xs, s _ _ h⟩)⟩))
theorem NotStr.ty {K : PySem.W.Frag} {H : Hp} {x : V} (h : NotStr H x) : ∃ t : String, TyX K H x (.type t) ∧ kitB t "str" = some false := by
  rcases h with rfl | ⟨i, rfl⟩ | ⟨b, rfl⟩ | ⟨a, rfl, ⟨xs, h⟩ | ⟨xs, h⟩ | ⟨xs, h⟩⟩
  · exact ⟨_, .base .non, by decide +kernel⟩
  · exact ⟨_, .base (.int _), by decide +kernel⟩
  · exact ⟨_, .base (.bl _), by decide +kernel⟩
  · exact ⟨_, .base (.lst h), by decide +kernel⟩
  · exact ⟨_, .base (.tup h), by decide +kernel⟩
  · exact ⟨_, .base (.dK h), by decide +kernel⟩
/-- whether x is a text of at most so many of the twelve signs -/
def IsRowW (H : Hp) (x : V) (most : Int) (r : Bool) : Prop := (∃ l : List Nat, x = .str (S l) ∧ l.length ≤ 40000 ∧ r = (decide ((l.length : Int) ≤ most) && l.all fun c => decide (c ∈ sgns))) ∨ (NotStr H x ∧ r = false)
def IsRowV (H : Hp) (x : V) (r : Bool) : Prop := (∃ l : List Nat, x = .str (S l) ∧ l.length ≤ 40000 ∧ r = isRow l) ∨ (NotStr H x ∧ r = false)
theorem IsRowV.same {H H' : Hp} {x : V} {r : Bool} (h : IsRowV H x r) (s : Same H H') : IsRowV H' x r := by
  rcases h with h | ⟨h, e⟩
  · exact .inl h
  · exact .inr ⟨h.same s, e⟩
theorem IsRowV.w {H : Hp} {x : V} {r : Bool} (h : IsRowV H x r) : IsRowW H x 60 r := by
  rcases h with ⟨l, e, z, q⟩ | h
  · refine .inl ⟨l, e, z, ?_⟩
    rw [q]
    unfold isRow
    have z : decide ((l.length : Int) ≤ 60) = decide (l.length ≤ 60) := decide_eq_decide.mpr (by omega)
    rw [z]
  · exact .inr h
theorem Off.mut {p D : Addr} {H H' : Hp} {o : HO} (a : Off p H H') (hD : H D = none) : Off p H (L2.upd H' D o) := fun b u n h => by
  rw [L2.upd_ne (ne_of_none h hD)]
  exact a b u n h
theorem str_at {z : Str} {u : Int} (h0 : 0 ≤ u) (h1 : u < (z.length : Int)) : ∃ c, atI z.cps.toList u = some c ∧ c ∈ z.cps.toList := by
  obtain ⟨n, rfl⟩ : ∃ n : Nat, u = (n : Int) := ⟨u.toNat, by omega⟩
  have h2 : n < z.cps.toList.length := by
    have : z.cps.toList.length = z.length := rfl
    omega
  exact ⟨z.cps.toList[n], atI_nat (List.getElem?_eq_getElem h2), List.getElem_mem _⟩
/-! ### the ten things that are no texts -/
def oddL (t1 l1 d1 l2 t2 l3 : Addr) : List V := [.non, .int 0, .bl true, .ref t1, .ref l1, .ref d1, .ref l2, .ref t2, .ref l3, .int ((10 : Int) ^ (30 : Int).toNat)]
def oddH (H : Hp) (t1 l1 d1 l2 t2 l3 O : Addr) : Hp := upd (upd (upd (upd (upd (upd (upd H t1 (.tup [])) l1 (.lst [])) d1 (.dK [])) l2 (.lst [.str (Str.ofString "a")])) t2 (.tup [.str (Str.ofString "a")])) l3 (.lst [.str (Str.ofString "a"), .str (Str.ofString "b")])) O (.lst (oddL t1 l1 d1 l2 t2 l3))
theorem oddH_ok {H H1 H2 H3 H4 H5 H6 : Hp} {t1 l1 d1 l2 t2 l3 O : Addr} (e1 : H1 = upd H t1 (.tup [])) (e2 : H2 = upd H1 l1 (.lst [])) (e3 : H3 = upd H2 d1 (.dK [])) (e4 : H4 = upd H3 l2 (.lst [.str (Str.ofString "a")])) (e5 : H5 = upd H4 t2 (.tup [.str (Str.ofString "a")])) (e6 : H6 = upd H5 l3 (.lst [.str (Str.ofString "a"), .str (Str.ofString "b")]))
    (n1 : H t1 = none) (n2 : H1 l1 = none) (n3 : H2 d1 = none) (n4 : H3 l2 = none) (n5 : H4 t2 = none) (n6 : H5 l3 = none) (n7 : H6 O = none) :
    Same H (oddH H t1 l1 d1 l2 t2 l3 O) ∧ oddH H t1 l1 d1 l2 t2 l3 O O = some (.lst (oddL t1 l1 d1 l2 t2 l3)) ∧ ∀ x ∈ oddL t1 l1 d1 l2 t2 l3, NotStr (oddH H t1 l1 d1 l2 t2 l3 O) x := by
  have eH : oddH H t1 l1 d1 l2 t2 l3 O = upd H6 O (.lst (oddL t1 l1 d1 l2 t2 l3)) := by rw [e6, e5, e4, e3, e2, e1]; rfl
  rw [eH]
  have s6 : Same H6 (upd H6 O (.lst (oddL t1 l1 d1 l2 t2 l3))) := Same.new n7
  have s5 : Same H5 _ := Same.trans (e6 ▸ Same.new n6) s6
  have s4 : Same H4 _ := Same.trans (e5 ▸ Same.new n5) s5
  have s3 : Same H3 _ := Same.trans (e4 ▸ Same.new n4) s4
  have s2 : Same H2 _ := Same.trans (e3 ▸ Same.new n3) s3
  have s1 : Same H1 _ := Same.trans (e2 ▸ Same.new n2) s2
  have s0 : Same H _ := Same.trans (e1 ▸ Same.new n1) s1
  refine ⟨s0, upd_same, fun x hx => ?_⟩
  simp only [oddL, List.mem_cons, List.not_mem_nil, or_false] at hx
  rcases hx with rfl | rfl | rfl | rfl | rfl | rfl | rfl | rfl | rfl | rfl
  · exact .inl rfl
  · exact .inr (.inl ⟨_, rfl⟩)
  · exact .inr (.inr (.inl ⟨_, rfl⟩))
  · exact .inr (.inr (.inr ⟨_, rfl, .inr (.inl ⟨_, s1 _ _ (by rw [e1]; exact upd_same)⟩)⟩))
  · exact .inr (.inr (.inr ⟨_, rfl, .inl ⟨_, s2 _ _ (by rw [e2]; exact upd_same)⟩⟩))
  · exact .inr (.inr (.inr ⟨_, rfl, .inr (.inr ⟨_, s3 _ _ (by rw [e3]; exact upd_same)⟩)⟩))
  · exact .inr (.inr (.inr ⟨_, rfl, .inl ⟨_, s4 _ _ (by rw [e4]; exact upd_same)⟩⟩))
  · exact .inr (.inr (.inr ⟨_, rfl, .inr (.inl ⟨_, s5 _ _ (by rw [e5]; exact upd_same)⟩)⟩))
  · exact .inr (.inr (.inr ⟨_, rfl, .inl ⟨_, s6 _ _ (by rw [e6]; exact upd_same)⟩⟩))
  · exact .inr (.inl ⟨_, rfl⟩)
/-- a sign among the twelve, in a list of them -/
theorem inV_signs (c : Nat) : inV (V.str (S [c])) ((Str.ofString "aAbBcCdDeEfF").cps.toList.map fun d => V.str ⟨#[d]⟩) = decide (c ∈ sgns) := by
  have h : (Str.ofString "aAbBcCdDeEfF").cps.toList = sgns := by decide +kernel
  rw [h]
  unfold inV
  rw [List.any_map]
  have e : ∀ d : Nat, eqV (V.str ⟨#[d]⟩) (V.str (S [c])) = decide (d = c) := fun d => by
    show ((⟨#[d]⟩ : Str) == S [c]) = decide (d = c)
    by_cases q : d = c
    · subst q; simp
    · rw [decide_eq_false q]
      apply beq_eq_false_iff_ne.mpr
      intro z
      have := congrArg (fun z : Str => z.cps.toList) z
      simp at this
      exact q this
  rw [show (sgns.any ((fun y => eqV y (V.str (S [c]))) ∘ fun d => V.str ⟨#[d]⟩)) = sgns.any fun d => decide (d = c) from by congr 1; funext d; exact e d]
  by_cases q : c ∈ sgns
  · rw [decide_eq_true q]
    exact List.any_eq_true.mpr ⟨c, q, by simp⟩
  · rw [decide_eq_false q]
    exact List.any_eq_false.mpr fun d hd => by simp; intro z; subst z; exact q hd
theorem dp_strs {K : PySem.W.Frag} {H : Hp} : ∀ zs : List Str, DpAll K H (zs.map V.str) (zs.map PyData.str)
  | [] => .nil
  | z :: zs => .cons (.str z) (dp_strs zs)
theorem eqv_nil : ∀ ds : List PyData, PyData.eqv (.list ds) (.list []) = ds.isEmpty
  | [] => by simp [PyData.eqv, PyData.eqvAll]
  | _ :: _ => by simp [PyData.eqv, PyData.eqvAll]
/-- a list of code points that a text may hold -/
def Chs (l : List Nat) : Prop := ∀ c ∈ l, c < 1114112
theorem chs_in {l m : List Nat} (h : ∀ c ∈ l, c ∈ m) (g : (m.all fun c => decide (c < 1114112)) = true) : Chs l := fun c hc => of_decide_eq_true (List.all_eq_true.mp g c (h c hc))
theorem chs_sgns : (sgns.all fun c => decide (c < 1114112)) = true := by decide
theorem Chs.app {l m : List Nat} (a : Chs l) (b : Chs m) : Chs (l ++ m) := fun c h => by
  rcases List.mem_append.mp h with h | h
  · exact a c h
  · exact b c h
theorem shaped_strs (zs : List Str) (hz : zs.all PyData.strOk = true) : SeqAt.shaped (.list (zs.map PyData.str)) = true := by
  have h1 : PyData.canLayAll0 (zs.map PyData.str) = true := by
    induction zs with
    | nil => rfl
    | cons z zs ih =>
      simp only [List.all_cons, Bool.and_eq_true] at hz
      simp [PyData.canLayAll0, PyData.canLay0, hz.1, ih hz.2]
  have h2 : ∀ zs : List Str, PyData.depthAll (zs.map PyData.str) = 0 := by
    intro zs
    induction zs with
    | nil => rfl
    | cons z zs ih => simp [PyData.depthAll, PyData.depth, ih]
  simp [SeqAt.shaped, PyData.canLay0, h1, PyData.depth, h2]
/-- the signs of a text that are none of the twelve -/
def strays (l : List Nat) : List Str := ((List.range l.length).filter fun i => !decide (l.getD i 0 ∈ sgns)).map fun i => S [l.getD i 0]
theorem given_strays (l : List Nat) : Evl.given l.length (fun i => !decide (l.getD i 0 ∈ sgns)) (fun i => V.str (S [l.getD i 0])) = (strays l).map V.str := by
  unfold Evl.given strays
  rw [List.map_map]
  rfl
theorem getD_mem {l : List Nat} {i : Nat} (h : i < l.length) : l.getD i 0 ∈ l := by
  rw [List.getD_eq_getElem?_getD, List.getElem?_eq_getElem h]
  exact List.getElem_mem _
theorem strays_ok {l : List Nat} (h : Chs l) : (strays l).all PyData.strOk = true := by
  refine List.all_eq_true.mpr fun z hz => ?_
  unfold strays at hz
  obtain ⟨i, hi, rfl⟩ := List.mem_map.mp hz
  have hi := (List.mem_filter.mp hi).1
  have := h _ (getD_mem (List.mem_range.mp hi))
  simp [PyData.strOk]
  simpa using this
theorem strays_none (l : List Nat) : (strays l).isEmpty = l.all fun c => decide (c ∈ sgns) := by
  by_cases h : ∀ c ∈ l, c ∈ sgns
  · have e : strays l = [] := by
      unfold strays
      rw [List.map_eq_nil_iff, List.filter_eq_nil_iff]
      intro i hi
      have := h _ (getD_mem (List.mem_range.mp hi))
      simpa using this
    rw [e, List.all_eq_true.mpr fun c hc => decide_eq_true (h c hc)]
    rfl
  · rw [show (l.all fun c => decide (c ∈ sgns)) = false from by
      cases q : l.all fun c => decide (c ∈ sgns)
      · rfl
      · exact absurd (fun c hc => of_decide_eq_true (List.all_eq_true.mp q c hc)) h]
    cases q : (strays l).isEmpty
    · rfl
    · refine absurd (fun c hc => ?_) h
      obtain ⟨i, hi, e⟩ := List.getElem_of_mem hc
      have z := List.isEmpty_iff.mp q
      unfold strays at z
      rw [List.map_eq_nil_iff, List.filter_eq_nil_iff] at z
      have := z i (List.mem_range.mpr hi)
      rw [List.getD_eq_getElem?_getD, List.getElem?_eq_getElem hi] at this
      simpa [e] using this
/-! ### walks -/
open WalkM (PRow Tree addK gone srt)
theorem S_inj1 {l m : List Nat} (h : S l = S m) : l = m := by
  have := congrArg (fun z : Str => z.cps.toList) h
  simpa using this
theorem sT_inj {l m : List Nat} (h : V.str (S l) = .str (S m)) : l = m := by
  injection h with h
  exact S_inj1 h
theorem no_both {x y : Option HO} {o : HO} (h : x = none) (g : y = some o) (e : x = y := by rfl) : False := by
  rw [← e, h] at g
  cases g
/-- a row as a value, as a key -/
def sT (p : List Nat) : V := .str (S p)
def kT (p : List Nat) : Key := Sum.inr (S p)
def kvT (ks : List (List Nat)) : List (Key × V) := ks.map fun p => (kT p, .bl true)
theorem kT_inj {p q : List Nat} : kT p = kT q ↔ p = q := ⟨fun h => by injection h with h; exact S_inj1 h, fun h => by rw [h]⟩
theorem kV_kT (p : List Nat) : kV (kT p) = sT p := rfl
theorem keys_T (ks : List (List Nat)) : (kvT ks).map (fun kv => kV kv.1) = ks.map sT := by simp [kvT, Function.comp, kV_kT]
theorem val_T (ks : List (List Nat)) (p : List Nat) : valV (kvT ks) (kT p) = if p ∈ ks then some (.bl true) else none := by
  unfold valV kvT
  induction ks with
  | nil => rfl
  | cons q ks ih =>
    rw [List.map_cons, List.find?_cons]
    by_cases h : kT q = kT p
    · have := kT_inj.mp h
      subst this
      simp
    · have h2 : ¬ p = q := fun e => h (by rw [e])
      simp only [h, decide_false]
      rw [ih]
      simp [h2]
theorem put_T (ks : List (List Nat)) (p : List Nat) : putK (kvT ks) (kT p) (.bl true) = kvT (addK ks p) := by
  have e : (kvT ks).any (fun kv => decide (kv.1 = kT p)) = decide (p ∈ ks) := by
    unfold kvT
    rw [List.any_map]
    induction ks with
    | nil => rfl
    | cons q ks ih =>
      rw [List.any_cons, ih]
      by_cases h : q = p
      · subst h; simp
      · have h2 : ¬ p = q := fun e => h e.symm
        simp [kT_inj, h, h2]
  unfold putK addK
  rw [e]
  by_cases h : p ∈ ks
  · rw [if_pos h, decide_eq_true h, if_pos rfl]
    unfold kvT
    rw [List.map_map]
    refine List.map_congr_left fun q _ => ?_
    simp only [Function.comp]
    by_cases h2 : kT q = kT p
    · rw [if_pos h2]
    · rw [if_neg h2]
  · rw [if_neg h, decide_eq_false h, if_neg (by decide)]
    simp [kvT]
theorem merge_T (p : List Nat) : mergeK [] [(kT p, V.bl true)] = kvT [p] := rfl
theorem len_kvT (ks : List (List Nat)) : (kvT ks).length = ks.length := by simp [kvT]
/-- the last sign of a text -/
theorem ends_last {l : List Nat} {d : Nat} : Txt.endswith (S l) (S [d]) = decide (l.getLast? = some d) := by
  have e1 : (S [d]).length = 1 := rfl
  have e : Txt.endswith (S l) (S [d]) = (decide ((S [d]).length ≤ (S l).length) && Builtin.Str.subAt (S l) (S [d]) ((S l).length - (S [d]).length)) := by
    unfold Txt.endswith
    simp
  rw [e, PySem.StrLaws.subAt_eq, e1, len_S]
  show (decide (1 ≤ l.length) && ((l.drop (l.length - 1)).take 1 == [d])) = _
  rcases List.eq_nil_or_concat l with rfl | ⟨m, x, rfl⟩
  · rfl
  · have h1 : (m.concat x).length - 1 = m.length := by simp
    rw [h1, List.concat_eq_append, List.drop_left]
    by_cases h : x = d <;> simp [h]
theorem made_on {l : List Nat} {i c : Nat} (hc : l[i]? = some c) : RowM.plain (l.take (i + 1)) = WalkM.on (RowM.plain (l.take i)) c := by
  rw [List.take_add_one, hc]
  exact WalkM.plain_snoc _ _
/-- a walk in the heap: the object, the list of its places, the places, the end -/
def wkfs (q : Addr) (e : List Nat) : List (Str × V) := [(Str.ofString "own_places", .ref q), (Str.ofString "own_end", sT e)]
def WkAt (C : Addr) (H : Hp) (a q : Addr) (ps : List (List Nat)) (e : List Nat) : Prop := (∃ dx, H a = some (.ins C dx (wkfs q e))) ∧ H q = some (.lst (ps.map sT))
theorem WkAt.same {C : Addr} {H H' : Hp} {a q : Addr} {ps : List (List Nat)} {e : List Nat} (h : WkAt C H a q ps e) (s : Same H H') : WkAt C H' a q ps e := ⟨let ⟨dx, z⟩ := h.1; ⟨dx, s _ _ z⟩, s _ _ h.2⟩
theorem WkAt.off {C p : Addr} {H H' : Hp} {a q : Addr} {ps : List (List Nat)} {e : List Nat} (h : WkAt C H a q ps e) (s : Off p H H') (n1 : a ≠ p) (n2 : q ≠ p) : WkAt C H' a q ps e := ⟨let ⟨dx, z⟩ := h.1; ⟨dx, s _ _ n1 z⟩, s _ _ n2 h.2⟩
theorem le_rank (l m : List Nat) : PySem.W.dataLe false (fun b : V × PyData => b.2) (sT l, rankD l) (sT m, rankD m) = WalkM.leR l m := by
  show (!PySem.W.dataLt (rankD m) (rankD l)) = _
  rw [lt_rank]
  rfl
def bsT (ts : List (List Nat)) : List (V × PyData) := ts.map fun p => (sT p, rankD p)
theorem bsT_fst (ts : List (List Nat)) : (bsT ts).map (·.1) = ts.map sT := by simp [bsT, Function.comp]
theorem sort_bsT (ts : List (List Nat)) : ((bsT ts).mergeSort (PySem.W.dataLe false (·.2))).map (·.1) = (srt ts).map sT := by
  have h : (ts.mergeSort WalkM.leR).map (fun p => ((sT p, rankD p) : V × PyData)) = (bsT ts).mergeSort (PySem.W.dataLe false (·.2)) :=
    List.map_mergeSort fun a _ b _ => (le_rank a b).symm
  rw [← h, List.map_map]
  rfl
theorem alike_bsT (ts : List (List Nat)) : PySem.W.AllAlike ((bsT ts).map (·.2)) := fun d hd d' hd' => by
  simp only [bsT, List.map_map, List.mem_map, Function.comp] at hd hd'
  obtain ⟨p, _, rfl⟩ := hd
  obtain ⟨q, _, rfl⟩ := hd'
  exact alike_rank p q
theorem sortable_bsT (ts : List (List Nat)) : PySem.W.Sortable ((bsT ts).map (·.2)) := .inl fun d hd => by
  simp only [bsT, List.map_map, List.mem_map, Function.comp] at hd
  obtain ⟨p, _, rfl⟩ := hd
  exact ⟨_, _, rfl⟩
theorem depth_rank2 (l : List Nat) : (rankD l).depth ≤ 50 := by
  simp [rankD, PyData.depth, PyData.depthAll, depth_ints]
theorem in_texts (ts : List (List Nat)) (p : List Nat) : inV (sT p) (ts.map sT) = decide (p ∈ ts) := by
  unfold inV sT
  rw [List.any_map]
  induction ts with
  | nil => rfl
  | cons q ts ih =>
    rw [List.any_cons, ih]
    by_cases h : p = q
    · subst h; simp [eqV]
    · have h2 : ¬ S p = S q := fun e => h (S_inj1 e)
      have h3 : ¬ S q = S p := fun e => h (S_inj1 e).symm
      simp [eqV, h, h2, h3]
theorem flat_T (ts : List (List Nat)) : (ts.map sT).all flatV = true := by
  rw [List.all_map]
  exact List.all_eq_true.mpr fun _ _ => rfl
/-- a tree whose rows are short -/
structure TreeS (ts : List (List Nat)) : Prop where
  t : Tree ts
  z : ∀ p ∈ ts, p.length ≤ 60
  n0 : 1 ≤ ts.length
  n1 : ts.length ≤ 61
theorem treeS_gone {l : List Nat} (h : Row l) (z : l.length ≤ 60) : TreeS (gone l) :=
  ⟨WalkM.tree_gone h, fun p hp => Nat.le_trans (WalkM.gone_small l p hp) z, WalkM.gone_pos l, Nat.le_trans (WalkM.gone_length l) (by omega)⟩
theorem on_snoc {m : List Nat} {c : Nat} : WalkM.on (m ++ [con c]) c = m := by
  unfold WalkM.on
  rw [if_pos (by simp)]
  simp
theorem on_else {p : List Nat} {c : Nat} (h : ¬ p.getLast? = some (con c)) : WalkM.on p c = p ++ [c] := if_neg h
theorem TreeS.row {ts : List (List Nat)} (h : TreeS ts) {p : List Nat} (hp : p ∈ ts) : isRow p = true := isRow_iff.mpr ⟨h.z p hp, (h.t.pr p hp).1⟩
/-- what lies within -/
def within (l m : List Nat) : Bool := (gone l).all fun p => decide (p ∈ gone m)
theorem within_srt (l m : List Nat) : ((srt (gone l)).all fun p => decide (p ∈ srt (gone m))) = within l m := by
  unfold within
  rw [(WalkM.srt_perm (gone l)).all_eq]
  simp only [WalkM.srt_mem]
theorem con_is {c : Nat} (hc : c ∈ sgns) : (if Txt.isupper (S [c]) = true then V.str (Txt.lower (S [c])) else V.str (Txt.upper (S [c]))) = .str (S [con c]) := by
  rw [up1 c hc, low1 c hc, isup1 c hc]
  unfold con lo up
  by_cases h : c < 97
  · have h2 : ¬ 97 ≤ c := by omega
    rw [decide_eq_true h, if_pos rfl, if_neg h2, if_neg h2]
  · have h2 : 97 ≤ c := by omega
    rw [decide_eq_false h, if_neg (by decide), if_pos h2, if_pos h2]
theorem ne_nil {l : List Nat} (h : l ≠ []) : decide (V.str (S l) = V.str (Str.ofString "")) = false := decide_eq_false fun e => h (sT_inj (l := l) (m := []) e)
theorem dec_nil (l : List Nat) : decide (V.str (S l) = V.str (Str.ofString "")) = decide (l = []) := decide_eq_decide.mpr ⟨fun e => sT_inj (l := l) (m := []) e, fun e => by rw [e]; rfl⟩
theorem dec_str (l m : List Nat) : decide (V.str (S l) = V.str (S m)) = decide (l = m) := decide_eq_decide.mpr ⟨sT_inj, fun e => by rw [e]⟩
/-- rows as data -/
def sD (ts : List (List Nat)) : List PyData := (ts.map S).map PyData.str
theorem sT_map (ts : List (List Nat)) : ts.map sT = (ts.map S).map V.str := by rw [List.map_map]; rfl
theorem dp_T {K : PySem.W.Frag} {H : Hp} {q : Addr} {ts : List (List Nat)} (h : H q = some (.lst (ts.map sT))) : Dp K H (.ref q) (.list (sD ts)) := .lst (SqL.of h) (by rw [sT_map]; exact dp_strs _)
theorem strOk_row {l : List Nat} (h : Row l) : PyData.strOk (S l) = true := by
  have := strays_ok (l := l) (chs_in (m := sgns) h chs_sgns)
  have q : ∀ c ∈ l, c < 1114112 := chs_in (m := sgns) h chs_sgns
  unfold PyData.strOk
  simp only [List.all_eq_true, Array.all_eq_true, decide_eq_true_eq]
  first
    | exact q
    | (intro i hi; exact q _ (by simpa using List.getElem_mem (l := l) (by simpa using hi)))
theorem shaped_T {ts : List (List Nat)} (h : ∀ p ∈ ts, Row p) : SeqAt.shaped (.list (sD ts)) = true := shaped_strs _ (by
  rw [List.all_map]
  exact List.all_eq_true.mpr fun p hp => strOk_row (h p hp))
theorem eqv_sD : ∀ ts us : List (List Nat), PyData.eqvAll (sD ts) (sD us) = decide (ts = us)
  | [], [] => by simp [sD, PyData.eqvAll]
  | [], _ :: _ => by simp [sD, PyData.eqvAll]
  | _ :: _, [] => by simp [sD, PyData.eqvAll]
  | t :: ts, u :: us => by
    have ih := eqv_sD ts us
    have e : sD (t :: ts) = .str (S t) :: sD ts := rfl
    have e2 : sD (u :: us) = .str (S u) :: sD us := rfl
    rw [e, e2, PySem.W.eqv_all_cons, ih]
    have e3 : PyData.eqv (.str (S t)) (.str (S u)) = decide (t = u) := by
      simp only [PyData.eqv]
      by_cases h : t = u
      · subst h; simp
      · have : ¬ S t = S u := fun z => h (S_inj1 z)
        simp [h, this]
    rw [e3]
    by_cases h1 : t = u
    · by_cases h2 : ts = us
      · simp [h1, h2]
      · simp [h1, h2]
    · simp [h1]
theorem eqv_T (ts us : List (List Nat)) : PyData.eqv (.list (sD ts)) (.list (sD us)) = decide (ts = us) := by rw [PyData.eqv, eqv_sD]
theorem within_nil (l m : List Nat) : decide (((gone l).filter fun p => !decide (p ∈ gone m)) = []) = within l m := by
  unfold within
  rw [Bool.eq_iff_iff, decide_eq_true_iff, List.filter_eq_nil_iff, List.all_eq_true]
  simp
theorem turn_one (c : Nat) : RowM.turn [c] = [con c] := rfl
theorem isRow_of {l : List Nat} (h : Row l) (z : l.length ≤ 60) : isRow l = true := isRow_iff.mpr ⟨z, h⟩

/-- the small letters of a row, rising -/
def deedsL (l : List Nat) : List Nat := [97, 98, 99, 100, 101, 102].filter fun c => decide (c ∈ l.map RowM.lo)
theorem sgn_128 : ∀ c ∈ sgns, decide (c < 128) = true ∧ PyProof.Rows.lo1 c = RowM.lo c ∧ RowM.lo c ∈ [97, 98, 99, 100, 101, 102] := by decide
theorem lower_row {l : List Nat} (h : Row l) : Txt.lower (S l) = S (l.map RowM.lo) := by
  rw [SX.lower_S (a := l) (List.all_eq_true.mpr fun c hc => (sgn_128 c (h c hc)).1)]
  exact congrArg S (List.map_congr_left fun c hc => (sgn_128 c (h c hc)).2.1)
theorem ris_cs : ∀ (p : Nat) (cs : List Nat), PyProof.Rows.risingS (S [p]) (cs.map fun c => S [c]) = true → (p :: cs).Pairwise (· ≤ ·)
  | p, [], _ => by simp
  | p, x :: r, h => by
    have h2 : (!PySem.Spec.ltCps [x] [p] && PyProof.Rows.risingS (S [x]) (r.map fun c => S [c])) = true := h
    rw [Bool.and_eq_true] at h2
    have h3 := ris_cs x r h2.2
    have h4 : p ≤ x := by
      have := h2.1
      simp [PySem.Spec.ltCps] at this
      omega
    refine List.pairwise_cons.mpr ⟨fun y hy => ?_, h3⟩
    rcases List.mem_cons.mp hy with rfl | hy
    · exact h4
    · exact Nat.le_trans h4 ((List.pairwise_cons.mp h3).1 y hy)
theorem srtS_cs : ∀ cs : List Nat, PyProof.Rows.sortedS (cs.map fun c => S [c]) = true → cs.Pairwise (· ≤ ·)
  | [], _ => List.Pairwise.nil
  | p :: cs, h => ris_cs p cs h
theorem sgnT_mem {x : List Nat} {k : Str} : sgnT (S x) x.length k = true ↔ ∃ c ∈ x, k = S [c] := by
  unfold sgnT
  have e : (S x).cps.toList.take x.length = x := by simp
  rw [e]
  simp only [List.any_eq_true, List.mem_map]
  constructor
  · rintro ⟨s, ⟨c, hc, rfl⟩, e⟩
    exact ⟨c, hc, (beq_iff_eq.mp e).symm⟩
  · rintro ⟨c, hc, rfl⟩
    exact ⟨_, ⟨c, hc, rfl⟩, beq_self_eq_true _⟩
theorem one_inj {c d : Nat} (h : S [c] = S [d]) : c = d := by
  injection h with h
  simpa using h
theorem tup_deeds {l : List Nat} (h : Row l) {ys : List Str} (hs : PyProof.Rows.sortedS ys = true) (hd : ys.Nodup) (hm : ∀ k, k ∈ ys ↔ sgnT (S (l.map RowM.lo)) (l.map RowM.lo).length k = true) : ys = (deedsL l).map fun c => S [c] := by
  have ey : ys = (ys.map fun y => y.cps.toList.headD 0).map fun c => S [c] := by
    rw [List.map_map]
    refine (List.map_id ys).symm.trans (List.map_congr_left fun y hy => ?_)
    obtain ⟨c, hc, rfl⟩ := sgnT_mem.mp ((hm y).mp hy)
    rfl
  generalize ys.map (fun y => y.cps.toList.headD 0) = cs at ey
  subst ey
  have hc : ∀ c, c ∈ cs ↔ c ∈ l.map RowM.lo := fun c => by
    have q := hm (S [c])
    rw [sgnT_mem] at q
    constructor
    · intro z
      obtain ⟨d, hd, e⟩ := q.mp (List.mem_map.mpr ⟨c, z, rfl⟩)
      rw [one_inj e]; exact hd
    · intro z
      obtain ⟨d, hd, e⟩ := List.mem_map.mp (q.mpr ⟨c, z, rfl⟩)
      rw [← one_inj e]; exact hd
  have nd : cs.Nodup := (List.pairwise_map.mp hd).imp fun h e => h (by rw [e])
  congr 1
  refine List.Perm.eq_of_pairwise (le := fun a b : Nat => a ≤ b) (fun a b _ _ h1 h2 => Nat.le_antisymm h1 h2) (srtS_cs cs hs) ?_ ?_
  · exact List.Pairwise.filter _ (by decide)
  · refine (List.perm_ext_iff_of_nodup nd (List.Pairwise.filter _ (by decide))).mpr fun c => ?_
    rw [hc c]
    rw [List.mem_filter, decide_eq_true_eq]
    refine ⟨fun z => ⟨?_, z⟩, fun z => z.2⟩
    obtain ⟨d, hd, rfl⟩ := List.mem_map.mp z
    exact (sgn_128 d (h d hd)).2.2
theorem deeds_small (l : List Nat) : (deedsL l).length ≤ 6 := List.length_filter_le _ _
/-- of two rows with the same deeds -/
theorem deeds_turn {l : List Nat} (h : Row l) : deedsL (RowM.turn l) = deedsL l := by
  unfold deedsL
  refine List.filter_congr fun c _ => decide_eq_decide.mpr ?_
  have lc : ∀ c ∈ sgns, RowM.lo (con c) = RowM.lo c := by decide
  simp only [List.mem_map, RowM.turn, List.mem_map, List.mem_reverse]
  constructor
  · rintro ⟨_, ⟨d, hd, rfl⟩, e⟩
    exact ⟨d, hd, (lc d (h d hd)).symm.trans e⟩
  · rintro ⟨d, hd, e⟩
    exact ⟨_, ⟨d, hd, rfl⟩, (lc d (h d hd)).trans e⟩
/-! ### taken out from behind -/
theorem red_two {a b : Nat} {r : List Nat} (ha : a ∈ sgns) (hb : b ∈ sgns) (h : RowM.Red (b :: r)) (n : a ≠ con b) : RowM.Red (a :: b :: r) := ⟨fun e => n (by rw [e, RowM.con_con ha]), h⟩
theorem drop_two {f : List Nat} {i : Nat} (h : i + 2 ≤ f.length) : ∃ a b, f[i]? = some a ∧ f[i + 1]? = some b ∧ f.drop i = a :: b :: f.drop (i + 2) ∧ f.drop (i + 1) = b :: f.drop (i + 2) ∧ f = f.take i ++ a :: b :: f.drop (i + 2) := by
  have h0 : i < f.length := by omega
  have h1 : i + 1 < f.length := by omega
  have e : f.drop i = f[i] :: f[i + 1] :: f.drop (i + 2) := by rw [List.drop_eq_getElem_cons h0, List.drop_eq_getElem_cons h1]
  refine ⟨f[i], f[i + 1], List.getElem?_eq_getElem h0, List.getElem?_eq_getElem h1, e, List.drop_eq_getElem_cons h1, ?_⟩
  rw [← e, List.take_append_drop]
theorem red_tail (f : List Nat) {n : Nat} (h : f.length ≤ n + 1) : RowM.Red (f.drop n) := by
  have z : (f.drop n).length ≤ 1 := by rw [List.length_drop]; omega
  match f.drop n, z with
  | [], _ => trivial
  | [_], _ => trivial
/-- a letter that stands in a row, small or not -/
theorem in_deeds {l : List Nat} (h : Row l) {c : Nat} (hc : c ∈ [97, 98, 99, 100, 101, 102]) : (decide (c ∈ l) || decide (RowM.up c ∈ l)) = decide (c ∈ l.map RowM.lo) := by
  rw [← Bool.decide_or]
  refine decide_eq_decide.mpr ⟨?_, ?_⟩
  · have q : ∀ c ∈ [97, 98, 99, 100, 101, 102], RowM.lo c = c ∧ RowM.lo (RowM.up c) = c := by decide
    rintro (z | z)
    · exact List.mem_map.mpr ⟨c, z, (q c hc).1⟩
    · exact List.mem_map.mpr ⟨_, z, (q c hc).2⟩
  · intro z
    obtain ⟨d, hd, e⟩ := List.mem_map.mp z
    have q : ∀ d ∈ sgns, d = RowM.lo d ∨ d = RowM.up (RowM.lo d) := by decide
    rcases q d (h d hd) with q | q
    · left; rw [← e, ← q]; exact hd
    · right; rw [← e, ← q]; exact hd
theorem deeds_succ (l : List Nat) {i c : Nat} (h : [97, 98, 99, 100, 101, 102][i]? = some c) :
    ([97, 98, 99, 100, 101, 102].take (i + 1)).filter (fun c => decide (c ∈ l.map RowM.lo)) = ([97, 98, 99, 100, 101, 102].take i).filter (fun c => decide (c ∈ l.map RowM.lo)) ++ (if decide (c ∈ l.map RowM.lo) = true then [c] else []) := by
  rw [List.take_add_one, h, List.filter_append]
  congr 1
  show List.filter _ [c] = _
  rw [List.filter_cons, List.filter_nil]
theorem S_of {l m : List Nat} (h : V.str (S l) = V.str (S m)) : S l = S m := by injection h

theorem cut_30 (l : List Nat) : cutS (S l) none (some 30) = S (l.take 30) := by
  by_cases h : 30 ≤ l.length
  · exact cut_to (k := 30) h
  · rw [cut_S]
    have e1 : HT.sIx l.length 0 none = 0 := rfl
    have e2 : HT.sIx l.length l.length (some 30) = l.length := by
      unfold HT.sIx
      simp
      omega
    rw [e1, e2, List.drop_zero, List.take_of_length_le (by omega), List.take_of_length_le (by omega)]
theorem deeds_row (l : List Nat) : ∀ r ∈ (deedsL l).map (fun c => [c]), Row r := fun r hr => by
  obtain ⟨c, hc, rfl⟩ := List.mem_map.mp hr
  have : ∀ c ∈ [97, 98, 99, 100, 101, 102], c ∈ sgns := by decide
  exact fun d hd => by rw [List.mem_singleton.mp hd]; exact this c (List.mem_filter.mp hc).1
theorem deeds_sT (l : List Nat) : ((deedsL l).map fun c => V.str (S [c])) = ((deedsL l).map fun c => [c]).map sT := by rw [List.map_map]; rfl
theorem dp_U {K : PySem.W.Frag} {H : Hp} {q : Addr} {ts : List (List Nat)} (h : H q = some (.tup (ts.map sT))) : Dp K H (.ref q) (.tuple (sD ts)) := .tup (SqT.of h) (by
  cases dp_T (K := K) (H := upd H q (.lst (ts.map sT))) (q := q) (ts := ts) upd_same with
  | lst _ d => rw [sT_map]; exact dp_strs _)
theorem shaped_U {ts : List (List Nat)} (h : ∀ p ∈ ts, Row p) : SeqAt.shaped (.tuple (sD ts)) = true := shaped_T h
theorem eqv_U (ts us : List (List Nat)) : PyData.eqv (.tuple (sD ts)) (.tuple (sD us)) = decide (ts = us) := by rw [PyData.eqv, eqv_sD]

/-- a def that the caller knows: where it stands, how its arguments bind, what it promises -/
def KN (P : Program) (w : World) (K : PySem.W.Frag) (mg : Str → Option Value) (base : Heap) (CX : CXT) (k : Nat) (ps : List Str) (sp : Sp) (x : Str) (dvs : List V) : Prop :=
  ∃ (f : Addr) (fd : FuncData) (ds : List Value), mg x = some (.ref f) ∧ PySem.W.keepIn K (.ref f) = true ∧ Vals dvs ds ∧ Binds K fd ps ds ∧ FnOk P w K mg base CX k f fd ps sp
/-- a method that the caller knows -/
def KM (P : Program) (w : World) (K : PySem.W.Frag) (mg : Str → Option Value) (base : Heap) (CX : CXT) (k : Nat) (ps : List Str) (sp : Sp) (C : Addr) (n : Str) (dvs : List V) : Prop :=
  ∃ (f : Addr) (fd : FuncData) (ds : List Value), PySem.W.findIn K (.ref C) n = some (some (.ref f)) ∧ PySem.W.typeIn K (.ref f) = some (.type "function") ∧ PySem.W.isFn K (.ref f) = true ∧ PySem.W.keepIn K (.ref f) = true ∧ Vals dvs ds ∧ Binds K fd ps ds ∧ FnOk P w K mg base CX k f fd ps sp
structure Txt (K : PySem.W.Frag) (mg : Str → Option Value) : Prop where
  b_all : mg "all" = none
  b_int : mg "int" = none
  b_isinstance : mg "isinstance" = none
  b_len : mg "len" = none
  b_list : mg "list" = none
  b_max : mg "max" = none
  b_min : mg "min" = none
  b_range : mg "range" = none
  b_set : mg "set" = none
  b_sorted : mg "sorted" = none
  b_str : mg "str" = none
  b_tuple : mg "tuple" = none
  g_MOST_SIGNS : ∃ u, mg "MOST_SIGNS" = some u ∧ RelV (.int 60) u
  g_SIGNS : ∃ u, mg "SIGNS" = some u ∧ RelV (.str "aAbBcCdDeEfF") u
def sp_law_pool (K : PySem.W.Frag) : Sp := fun vs H Q E => ∃ (a : Addr) (ns : List Int) (i : Int), vs = [.ref a, .int i] ∧ (SqL K H a (ns.map V.int)) ∧ (0 ≤ i) ∧ (i < 1000) ∧ ∀ (p : Addr) (H' : Hp), H p = none → Same H H' → Pool H' p → Q (.ref p) H'
def sp_law_take : Sp := fun vs H Q E => ∃ (p : Addr) (m : Int), vs = [.ref p, .int m] ∧ (Pool H p) ∧ (0 < m) ∧ (m < 18446744073709551616) ∧ ∀ (v : Int) (H' : Hp), 0 ≤ v → v < m → Off p H H' → Pool H' p → Q (.int v) H'
def sp_law_turned : Sp := fun vs H Q E => ∃ (l : List Nat), vs = [.str (S l)] ∧ (Row l) ∧ (l.length ≤ 40000) ∧ ∀ H' : Hp, Same H H' → Q (.str (S (RowM.turn l))) H'
def sp_law_row : Sp := fun vs H Q E => ∃ (p : Addr) (most deeds : Int), vs = [.ref p, .int most, .int deeds] ∧ (Pool H p) ∧ (0 ≤ most) ∧ (most ≤ 1000) ∧ (1 ≤ deeds) ∧ (deeds ≤ 6) ∧ ∀ (l : List Nat) (H' : Hp), Row l → (l.length : Int) ≤ most → (∀ c ∈ l, (ix c : Int) < 2 * deeds) → Off p H H' → Pool H' p → Q (.str (S l)) H'
def sp_is_row_within : Sp := fun vs H Q E => ∃ (l : List Nat) (most : Int), vs = [.str (S l), .int most] ∧ (l.length ≤ 40000) ∧ ∀ H' : Hp, Same H H' → Q (.bl (decide ((l.length : Int) ≤ most) && l.all fun c => decide (c ∈ sgns))) H'
def sp_is_row : Sp := fun vs H Q E => ∃ (l : List Nat), vs = [.str (S l)] ∧ (l.length ≤ 40000) ∧ ∀ H' : Hp, Same H H' → Q (.bl (isRow l)) H'
def sp_look_at_row : Sp := fun vs H Q E => ∃ (l : List Nat), vs = [.str (S l)] ∧ (isRow l = true) ∧ ∀ H' : Hp, Same H H' → Q .non H'
def sp_contrary_sign : Sp := fun vs H Q E => ∃ (c : Nat), vs = [.str (S [c])] ∧ (c ∈ sgns) ∧ ∀ H' : Hp, Same H H' → Q (.str (S [con c])) H'
def sp_turned : Sp := fun vs H Q E => ∃ (l : List Nat), vs = [.str (S l)] ∧ (Row l) ∧ (l.length ≤ 40000) ∧ ∀ H' : Hp, Same H H' → Q (.str (S (RowM.turn l))) H'
def sp_contrary : Sp := fun vs H Q E => ∃ (l : List Nat), vs = [.str (S l)] ∧ (isRow l = true) ∧ ∀ H' : Hp, Same H H' → Q (.str (S (RowM.turn l))) H'
def sp_law_taken_out : Sp := fun vs H Q E => ∃ (l : List Nat), vs = [.str (S l)] ∧ (Row l) ∧ (l.length ≤ 60) ∧ ∀ H' : Hp, Same H H' → Q (.str (S (RowM.plain l))) H'
def sp_made_plain : Sp := fun vs H Q E => ∃ (l : List Nat), vs = [.str (S l)] ∧ (Row l) ∧ (l.length ≤ 40000) ∧ ∀ H' : Hp, Same H H' → Q (.str (S (RowM.plain l))) H'
def sp_plain : Sp := fun vs H Q E => ∃ (l : List Nat), vs = [.str (S l)] ∧ (isRow l = true) ∧ ∀ H' : Hp, Same H H' → Q (.str (S (RowM.plain l))) H'
def sp_deeds_of (K : PySem.W.Frag) : Sp := fun vs H Q E => ∃ (l : List Nat), vs = [.str (S l)] ∧ (isRow l = true) ∧ ∀ (p : Addr) (H' : Hp), H p = none → Same H H' → H' p = some (.tup ((deedsL l).map fun c => V.str (S [c]))) → Q (.ref p) H'
def sp_law (K : PySem.W.Frag) : Sp := fun vs H Q E => ∃ (a : Addr) (ns : List Int), vs = [.ref a] ∧ (SqL K H a (ns.map V.int)) ∧ (ns.length ≤ 63) ∧ ∀ H', Q (.bl true) H'
section
variable {P : Program} {w : World} {K : PySem.W.Frag} {mg : Str → Option Value} {base : Heap}
theorem sc_law_pool : FnScope ["_law_script", "_law_k", "_law_cell", "_law_number"] ["_law_script", "_law_k"] (defScope s_law_pool) := ⟨rfl, rfl, rfl, by decide +kernel, rfl, by decide +kernel, by decide +kernel⟩
theorem ok_law_pool {f : Addr} {fd : FuncData} (F : Fun K "_law_pool" "_law_pool" s_law_pool f fd) (T : Txt K mg) : FnOk P w K mg base CX0 1 f fd ["_law_script", "_law_k"] (sp_law_pool K) := by
  refine F.ok sc_law_pool (fun vs H Q E h => ?_) (fun cdv A outer s H vs Q E hr h => ?_)
  · obtain ⟨a, ns, i, rfl, _⟩ := h
    all_goals rfl
  · obtain ⟨a, ns, i, rfl, ha, h0, h1, k⟩ := h
    refine ⟨_, (pss_cons (ps_set (i := 2) sc_law_pool.nd rfl (Or.inl rfl) pe_int)
    (pss_cons (ps_if (pt_cmpR op_lt (pv 1) (pe_callB (call_lenK (K := K)) (by rfl) T.b_len (by decide +kernel) (pa_cons (pv 0) pa_nil)) (nomark _)) (pss_one (ps_set (i := 2) sc_law_pool.nd rfl (Or.inl rfl) (pe_ix (ix_listK (K := K)) (pv 0) (pv 1) (fun _ _ => rfl)))) pss_nil)
    (pss_cons (ps_set (i := 3) sc_law_pool.nd rfl (Or.inl rfl) (pe_op op_mod (pe_op op_pow (pe_op op_add (pe_op op_add (pe_op op_mod (pv 2) pe_int) (pe_op op_mul (pe_op op_mul pe_int (pv 1)) (pv 1))) pe_int) pe_int) pe_int))
    (pss_cons (ps_if (pt_cmpR op_lt (pv 2) (pe_op op_pow pe_int pe_int) (nomark _)) (pss_one (ps_set (i := 2) sc_law_pool.nd rfl (Or.inl rfl) pe_int)) pss_nil)
    (pss_one (ps_ret (pe_lst (pa_cons (pv 2) (pa_cons (pv 3) pa_nil))))))))), ?_⟩
    have go : ∀ c : Int, tSeq (tAsg (tOp (rI (fun x j => 0 < j) fun i j => V.int (i % j))
                (tOp (rI CPow fun i j => V.int (i ^ j.toNat))
                  (tOp (rI0 fun i j => V.int (i + j))
                    (tOp (rI0 fun i j => V.int (i + j))
                      (tOp (rI (fun x j => 0 < j) fun i j => V.int (i % j)) (tVar 2) (tC (V.int 2147483629)))
                      (tOp (rI CMul fun i j => V.int (i * j))
                        (tOp (rI CMul fun i j => V.int (i * j)) (tC (V.int 104729)) (tVar 1)) (tVar 1)))
                    (tC (V.int 11)))
                  (tC (V.int 3)))
                (tC (V.int 2147483647)))
              (gName 3))
            (tSeq
              (tIfS
                (tTest
                  (tOp (rI0 fun i j => V.bl (decide (i < j))) (tVar 2)
                    (tOp (rI CPow fun i j => V.int (i ^ j.toNat)) (tC (V.int 10)) (tC (V.int 18)))))
                (tAsg (tC (V.int 0)) (gName 2)) tNext)
              (tRet (tLst (tCons (tVar 2) (tCons (tVar 3) tNil))))) { nx := fun x H' => Q V.non H', rt := Q } [some (.ref a), some (.int i), some (.int c), none] H := fun c => by
        have z0 : 0 ≤ c % 2147483629 := Int.emod_nonneg _ (by decide)
        have z1 : c % 2147483629 < 2147483629 := Int.emod_lt_of_pos _ (by decide)
        have m0 : 0 ≤ i * i := Int.mul_nonneg h0 h0
        have m1 : i * i < 1000000 := by
          have : i * i ≤ 999 * 999 := Int.mul_le_mul (by omega) (by omega) h0 (by decide)
          omega
        have ea : 104729 * i * i = 104729 * (i * i) := Int.mul_assoc _ _ _
        refine ⟨_, rfl, _, _, rfl, rfl, (by show (0 : Int) < 2147483629; decide), _, rfl, _, _, rfl, rfl, .inl ⟨by decide, by decide⟩, _, rfl, _, _, rfl, rfl, .inr ⟨by omega, by omega⟩, _, _, rfl, rfl, _, _, rfl, rfl, _, _, rfl, rfl, ⟨by decide, by decide, by omega⟩, _, _, rfl, rfl, (by show (0 : Int) < 2147483647; decide), ?_⟩
        have y0 : 0 ≤ ((c % 2147483629 + 104729 * i * i + 11) ^ (3 : Int).toNat) % 2147483647 := Int.emod_nonneg _ (by decide)
        have y1 : ((c % 2147483629 + 104729 * i * i + 11) ^ (3 : Int).toNat) % 2147483647 < 2147483647 := Int.emod_lt_of_pos _ (by decide)
        refine ⟨_, rfl, _, _, rfl, rfl, ⟨by decide, by decide, by decide⟩, _, _, rfl, rfl, _, rfl, ?_⟩
        refine ite2 (fun _ => ?_) (fun _ => ?_)
        · exact ⟨_, rfl, _, rfl, (by show 2 ≤ sizeLine; decide), fun p hp => k p _ hp (Same.new hp) ⟨_, _, upd_same, y0, y1⟩⟩
        · exact ⟨_, rfl, _, rfl, (by show 2 ≤ sizeLine; decide), fun p hp => k p _ hp (Same.new hp) ⟨_, _, upd_same, y0, y1⟩⟩
    refine ⟨_, rfl, _, rfl, _, _, rfl, .inl ha, _, _, rfl, rfl, _, rfl, ?_⟩
    refine ite2 (fun q => ?_) (fun _ => go 0)
    have hl : i < (ns.length : Int) := by
      have q := of_decide_eq_true q
      rw [List.length_map] at q
      exact q
    obtain ⟨j, rfl⟩ : ∃ j : Nat, i = (j : Int) := ⟨i.toNat, by omega⟩
    have hj : j < ns.length := by omega
    refine ⟨_, rfl, _, rfl, _, _, _, _, rfl, rfl, ha, atI_nat (by rw [List.getElem?_map, List.getElem?_eq_getElem hj]; rfl), go _⟩
theorem sc_law_take : FnScope ["_law_pool_here", "_law_many", "_law_found"] ["_law_pool_here", "_law_many"] (defScope s_law_take) := ⟨rfl, rfl, rfl, by decide +kernel, rfl, by decide +kernel, by decide +kernel⟩
theorem ok_law_take {f : Addr} {fd : FuncData} (F : Fun K "_law_take" "_law_take" s_law_take f fd) (T : Txt K mg) : FnOk P w K mg base CX0 1 f fd ["_law_pool_here", "_law_many"] (sp_law_take) := by
  refine F.ok sc_law_take (fun vs H Q E h => ?_) (fun cdv A outer s H vs Q E hr h => ?_)
  · obtain ⟨p, m, rfl, _⟩ := h
    all_goals rfl
  · obtain ⟨p, m, rfl, hp, h0, h1, k⟩ := h
    refine ⟨_, (pss_cons (ps_if (pt_cmpR op_gt (pe_ix (ix_listK (K := K)) (pv 0) pe_int (fun _ _ => rfl)) pe_int (nomark _)) (pss_cons (ps_set (i := 2) sc_law_take.nd rfl (Or.inl rfl) (pe_op op_mod (pe_ix (ix_listK (K := K)) (pv 0) pe_int (fun _ _ => rfl)) (pv 1)))
    (pss_cons (ps_asg (pe_op op_fdivW (pe_ix (ix_listK (K := K)) (pv 0) pe_int (fun _ _ => rfl)) (pv 1)) (pg_sub (pv 0) pe_int set_list))
    (pss_one (ps_ret (pv 2))))) pss_nil)
    (pss_cons (ps_asg (pe_op op_mod (pe_op op_add (pe_op op_mul (pe_ix (ix_listK (K := K)) (pv 0) pe_int (fun _ _ => rfl)) pe_int) pe_int) pe_int) (pg_sub (pv 0) pe_int set_list))
    (pss_one (ps_ret (pe_op op_mod (pe_op op_fdiv (pe_op op_mod (pe_op op_mul (pe_ix (ix_listK (K := K)) (pv 0) pe_int (fun _ _ => rfl)) (pe_ix (ix_listK (K := K)) (pv 0) pe_int (fun _ _ => rfl))) pe_int) pe_int) (pv 1)))))), ?_⟩
    obtain ⟨c, n, hp, n0, n1⟩ := hp
    refine ⟨_, rfl, _, _, _, _, rfl, rfl, SqL.of hp, atI0, _, _, rfl, rfl, _, rfl, ?_⟩
    refine ite2 (fun _ => ?_) (fun _ => ?_)
    · refine ⟨_, rfl, _, _, _, _, rfl, rfl, SqL.of hp, atI0, _, rfl, _, _, rfl, rfl, h0, ?_⟩
      refine ⟨_, rfl, _, _, _, _, rfl, rfl, SqL.of hp, atI0, _, rfl, _, _, rfl, rfl, wide_div h0 (b := 64) (by omega) (by decide) (by decide), _, rfl, _, _, _, 0, rfl, rfl, hp, rfl, ?_⟩
      exact ⟨_, rfl, k _ _ (Int.emod_nonneg _ (by omega)) (Int.emod_lt_of_pos _ h0) (Off.upd (Off.refl _ _)) ⟨_, n, upd_same, n0, n1⟩⟩
    · refine ⟨_, rfl, _, _, _, _, rfl, rfl, SqL.of hp, atI1, _, _, rfl, rfl, .inr ⟨by decide, by decide⟩, _, _, rfl, rfl, _, _, rfl, rfl, (by show (0 : Int) < 2147483647; decide), _, rfl, _, _, _, 1, rfl, rfl, hp, rfl, ?_⟩
      have z0 : 0 ≤ (n * 48271 + 11) % 2147483647 := Int.emod_nonneg _ (by decide)
      have z1 : (n * 48271 + 11) % 2147483647 < 2147483647 := Int.emod_lt_of_pos _ (by decide)
      refine ⟨_, rfl, _, _, _, _, rfl, rfl, SqL.of upd_same, atI1, _, rfl, _, _, _, _, rfl, rfl, SqL.of upd_same, atI1, _, _, rfl, rfl, .inl ⟨by omega, by omega⟩, _, _, rfl, rfl, (by show (0 : Int) < 2147483629; decide), _, _, rfl, rfl, ⟨by decide, by decide⟩, _, rfl, _, _, rfl, rfl, h0, ?_⟩
      exact k _ _ (Int.emod_nonneg _ (by omega)) (Int.emod_lt_of_pos _ h0) (Off.upd (Off.refl _ _)) ⟨_, _, upd_same, z0, z1⟩
theorem sc_law_turned : FnScope ["_law_text", "_law_sign"] ["_law_text"] (defScope s_law_turned) := ⟨rfl, rfl, rfl, by decide +kernel, rfl, by decide +kernel, by decide +kernel⟩
theorem ok_law_turned {f : Addr} {fd : FuncData} (F : Fun K "_law_turned" "_law_turned" s_law_turned f fd) (T : Txt K mg) : FnOk P w K mg base CX0 1 f fd ["_law_text"] (sp_law_turned) := by
  refine F.ok sc_law_turned (fun vs H Q E h => ?_) (fun cdv A outer s H vs Q E hr h => ?_)
  · obtain ⟨l, rfl, _⟩ := h
    all_goals rfl
  · obtain ⟨l, rfl, hl, hz, k⟩ := h
    refine ⟨_, (pss_one (ps_ret (pe_m1 PySem.F.slot_str_join PySem.F.type_str_join (mt_joinK (K := K)) pe_str (pe_lc (own := [("_law_sign", 1)]) (g := gName 1) (tt := tYes) rfl sc_law_turned.nd (pi_str (pe_revS (pv 0))) (blkOk_by (own := [("_law_sign", 1)]) (N := ["_law_text", "_law_sign"]) (sc := defScope s_law_turned) (by decide +kernel)) (fun _ _ _ _ _ => (pg_name (i := 1) sc_law_turned.nd rfl (Or.inl rfl))) (fun _ _ _ _ _ => pts_nil) (fun _ _ _ _ _ => (pe_ix (ix_listK (K := K)) (pe_lst (pa_cons (pe_upper (pv 1)) (pa_cons (pe_lower (pv 1)) pa_nil))) (pe_callTy call_int1 (by rfl) T.b_int (by decide +kernel) (pa_cons (pe_m0 PySem.F.slot_str_isupper PySem.F.type_str_isupper mt_isupper (pv 1)) pa_nil)) (fun _ _ => rfl))))))), ?_⟩
    refine Evl.s_ret (Evl.ev_is (ev_joinMap con Evl.ev_c (by decide) (Evl.ev_revS (Evl.ev_var rfl) (by rw [len_S]; omega)) (by show (S l.reverse).length ≤ _; rw [len_S, List.length_reverse]; omega) (fun _ => rfl) (fun c H1 e hc => ?_)) rfl) fun H1 e => k H1 e
    have hc : c ∈ sgns := hl c (List.mem_reverse.mp hc)
    exact Evl.ev_ixNew (Evl.el_lst (Evl.ea_cons (Evl.ev_m0 (Evl.ev_var rfl) one_le) (Evl.ea_cons (Evl.ev_m0 (Evl.ev_var rfl) one_le) Evl.ea_nil)) (by show 2 ≤ _; decide)) (fun H1 e => Evl.ev_intB (Evl.ev_m0 (Evl.ev_var rfl) trivial)) (at_turn hc)
theorem sc_law_row : FnScope ["_law_pool_here", "_law_most", "_law_deeds", "_law_way", "_law_found", "_law_left", "_law_k", "_law_sign"] ["_law_pool_here", "_law_most", "_law_deeds"] (defScope s_law_row) := ⟨rfl, rfl, rfl, by decide +kernel, rfl, by decide +kernel, by decide +kernel⟩
theorem ok_law_row {f : Addr} {fd : FuncData} (F : Fun K "_law_row" "_law_row" s_law_row f fd) (T : Txt K mg) (kn_law_take : KN P w K mg base CX0 1 ["_law_pool_here", "_law_many"] (sp_law_take) "_law_take" []) (kn_law_turned : KN P w K mg base CX0 1 ["_law_text"] (sp_law_turned) "_law_turned" []) : FnOk P w K mg base CX0 2 f fd ["_law_pool_here", "_law_most", "_law_deeds"] (sp_law_row) := by
  obtain ⟨f_law_take, fd_law_take, ds_law_take, m_law_take, k_law_take, v_law_take, b_law_take, G_law_take⟩ := kn_law_take
  obtain ⟨f_law_turned, fd_law_turned, ds_law_turned, m_law_turned, k_law_turned, v_law_turned, b_law_turned, G_law_turned⟩ := kn_law_turned
  refine F.ok sc_law_row (fun vs H Q E h => ?_) (fun cdv A outer s H vs Q E hr h => ?_)
  · obtain ⟨p, most, deeds, rfl, _⟩ := h
    all_goals rfl
  · obtain ⟨p, most, deeds, rfl, hp, m0, m1, d0, d1, k⟩ := h
    refine ⟨_, (pss_cons (ps_set (i := 3) sc_law_row.nd rfl (Or.inl rfl) (pe_call G_law_take (hr.mono (by decide)) rfl m_law_take k_law_take b_law_take v_law_take pass0 (pa_cons (pv 0) (pa_cons pe_int pa_nil))))
    (pss_cons (ps_set (i := 4) sc_law_row.nd rfl (Or.inl rfl) pe_str)
    (pss_cons (ps_set (i := 5) sc_law_row.nd rfl (Or.inl rfl) pe_str)
    (pss_cons (ps_for PassesOwn.never rfl (pi_range1 (by rfl) T.b_range (pa_cons (pe_call G_law_take (hr.mono (by decide)) rfl m_law_take k_law_take b_law_take v_law_take pass0 (pa_cons (pv 0) (pa_cons (pe_op op_add (pv 1) pe_int) pa_nil))) pa_nil)) (pg_name (i := 6) sc_law_row.nd rfl (Or.inl rfl)) (pss_cons (ps_set (i := 7) sc_law_row.nd rfl (Or.inl rfl) (pe_ix ix_str pe_str (pe_call G_law_take (hr.mono (by decide)) rfl m_law_take k_law_take b_law_take v_law_take pass0 (pa_cons (pv 0) (pa_cons (pe_op op_mul pe_int (pv 2)) pa_nil))) (fun _ _ => rfl)))
    (Evl.pss_cut (ps_if (PW.pt (pw_and (pt_cmpR op_gt (pv 3) pe_int (nomark _)) (pw_and (pt_cmpR op_ne (pv 5) pe_str (nomark _)) (pw_and1 (pt_cmpR op_gt (pe_call G_law_take (hr.mono (by decide)) rfl m_law_take k_law_take b_law_take v_law_take pass0 (pa_cons (pv 0) (pa_cons (pe_op op_add pe_int (pv 3)) pa_nil))) pe_int (nomark _)))))) (pss_cons (ps_set (i := 7) sc_law_row.nd rfl (Or.inl rfl) (pe_call G_law_turned (hr.mono (by decide)) rfl m_law_turned k_law_turned b_law_turned v_law_turned pass0 (pa_cons (pe_ix ix_str (pv 5) (pe_un un_neg pe_int) (fun _ _ => rfl)) pa_nil)))
    (pss_one (ps_set (i := 5) sc_law_row.nd rfl (Or.inl rfl) (pe_slice sl_str (pv 5) po_none (po_some (pe_un un_neg pe_int)))))) (pss_one (ps_set (i := 5) sc_law_row.nd rfl (Or.inl rfl) (pe_op op_add_str (pv 5) (pv 7)))))
    (pss_one (ps_set (i := 4) sc_law_row.nd rfl (Or.inl rfl) (pe_op op_add_str (pv 4) (pv 7)))))))
    (pss_one (ps_ret (pv 4))))))), ?_⟩
    refine ⟨_, rfl, p, 3, rfl, hp, by decide, by decide, fun way H1 w0 w1 o1 p1 => ?_⟩
    refine ⟨_, rfl, _, rfl, _, _, rfl, rfl, p, most + 1, rfl, p1, by omega, by omega, fun n H2 n0 n1 o2 p2 => ?_⟩
    refine ⟨n, rfl, by omega, by omega, for_range (lo := 0) (n := n.toNat) (fun i σ H' => ∃ (l m : List Nat) (x y : Option V), σ = [some (.ref p), some (.int most), some (.int deeds), some (.int way), some (.str (S l)), some (.str (S m)), x, y] ∧
        Row l ∧ Row m ∧ (∀ c ∈ l, (ix c : Int) < 2 * deeds) ∧ (∀ c ∈ m, (ix c : Int) < 2 * deeds) ∧ l.length = i ∧ m.length ≤ i ∧ Off p H H' ∧ Pool H' p)
      ⟨[], [], none, none, rfl, RowM.nil_row, RowM.nil_row, (by intro c q; cases q), (by intro c q; cases q), rfl, Nat.le_refl _, o1.trans o2, p2⟩ ?_ ?_⟩
    · rintro i σ H' hi ⟨l, m, x, y, rfl, hl, hm, il, im, zl, zm, o, hp⟩
      have hin : (i : Int) < n := by omega
      refine ⟨_, rfl, _, rfl, _, _, rfl, rfl, .inl ⟨by decide, by decide⟩, p, 2 * deeds, rfl, hp, by omega, by omega, fun v H3 v0 v1 o3 p3 => ?_⟩
      obtain ⟨c, hc, sc, ic⟩ := sign_of_at (i := v) v0 (by omega) rfl
      refine ⟨_, _, c, rfl, rfl, (by decide), hc, ?_⟩
      have icd : (ix c : Int) < 2 * deeds := by omega
      have z1 : l.length < 2000 := by omega
      have z2 : m.length < 2000 := by omega
      refine ⟨fun σ H' => ∃ (m : List Nat) (c : Nat), σ = [some (.ref p), some (.int most), some (.int deeds), some (.int way), some (.str (S l)), some (.str (S m)), some (.int (0 + i)), some (.str (S [c]))] ∧
        Row m ∧ c ∈ sgns ∧ (∀ c ∈ m, (ix c : Int) < 2 * deeds) ∧ (ix c : Int) < 2 * deeds ∧ m.length ≤ i + 1 ∧ Off p H H' ∧ Pool H' p, ?_, ?_⟩
      · have add : ∀ H4, Off p H H4 → Pool H4 p → ∀ (D : Ends), D.nx = (fun σ H' => ∃ (m : List Nat) (c : Nat), σ = [some (.ref p), some (.int most), some (.int deeds), some (.int way), some (.str (S l)), some (.str (S m)), some (.int (0 + i)), some (.str (S [c]))] ∧
            Row m ∧ c ∈ sgns ∧ (∀ c ∈ m, (ix c : Int) < 2 * deeds) ∧ (ix c : Int) < 2 * deeds ∧ m.length ≤ i + 1 ∧ Off p H H' ∧ Pool H' p) →
            tAsg (tOp (fun x y H Q => ∃ i j, x = V.str i ∧ y = V.str j ∧ i.length + j.length ≤ sizeLine ∧ Q (V.str (i ++ j)) H) (tVar 5) (tVar 7)) (gName 5) D
              [some (.ref p), some (.int most), some (.int deeds), some (.int way), some (.str (S l)), some (.str (S m)), some (.int (0 + i)), some (.str (S [c]))] H4 := fun H4 o4 p4 D hD => by
          refine ⟨_, rfl, _, rfl, _, _, rfl, rfl, sz_str (m := [c]) (by omega) (by simp), ?_⟩
          show D.nx _ _
          rw [hD, add_S]
          exact ⟨m ++ [c], c, rfl, row_snoc hm sc, sc, all_snoc im icd, icd, by simp; omega, o4, p4⟩
        walk_at "rd"
        refine ite2 (fun _ => ?_) (fun _ => iteF (add _ (o.trans o3) p3 _ rfl))
        walk_at "rd"
        refine ite2 (fun q => ?_) (fun _ => iteF (add _ (o.trans o3) p3 _ rfl))
        have mne : m ≠ [] := fun e => by
          subst e
          exact absurd q (by decide)
        refine ⟨_, rfl, _, rfl, _, _, rfl, rfl, p, 1 + way, rfl, p3, by omega, by omega, fun u H4 u0 u1 o4 p4 => ?_⟩
        walk_at "rd"
        refine ite2 (fun _ => ?_) (fun _ => add _ ((o.trans o3).trans o4) p4 _ rfl)
        obtain ⟨m, d, rfl⟩ := exists_snoc mne
        have hd : d ∈ sgns := hm d (by simp)
        refine ⟨_, rfl, _, rfl, _, _, d, rfl, rfl, sz_of' (by rw [len_S]; omega), at_last, [d], rfl, (by intro e he; rw [List.mem_singleton.mp he]; exact hd), (by simp), fun H5 s5 => ?_⟩
        refine ⟨_, rfl, _, rfl, _, rfl, _, rfl, sz_of' (by rw [len_S]; omega), ?_⟩
        rw [cut_last]
        refine ⟨m, con d, rfl, (fun e he => hm e (List.mem_append_left _ he)), RowM.con_mem hd, (fun e he => im e (List.mem_append_left _ he)), ?_, by simp at zm; omega, ((o.trans o3).trans o4).trans (off_of s5), p4.same s5⟩
        have := im d (by simp)
        have q := ix_con hd
        omega
      · rintro σ H4 ⟨m, c, rfl, hm, sc, im, icd, zm, o4, p4⟩
        refine ⟨_, rfl, _, rfl, _, _, rfl, rfl, sz_str (m := [c]) (by omega) (by simp), ?_⟩
        rw [add_S]
        exact ⟨l ++ [c], m, _, _, rfl, row_snoc hl sc, hm, all_snoc il icd, im, by simp [zl], zm, o4, p4⟩
    · rintro σ H' ⟨l, m, x, y, rfl, hl, hm, il, im, zl, zm, o, hp⟩
      exact ⟨_, rfl, k l H' hl (by omega) il o hp⟩
theorem sc_is_row_within : FnScope ["thing", "most", "sign"] ["thing", "most"] (defScope s_is_row_within) := ⟨rfl, rfl, rfl, by decide +kernel, rfl, by decide +kernel, by decide +kernel⟩
theorem ok_is_row_within {f : Addr} {fd : FuncData} (F : Fun K "is_row_within" "is_row_within" s_is_row_within f fd) (T : Txt K mg) : FnOk P w K mg base CX0 1 f fd ["thing", "most"] (sp_is_row_within) := by
  refine F.ok sc_is_row_within (fun vs H Q E h => ?_) (fun cdv A outer s H vs Q E hr h => ?_)
  · obtain ⟨l, most, rfl, _⟩ := h
    all_goals rfl
  · obtain ⟨l, most, rfl, hz, k⟩ := h
    refine ⟨_, (pss_one (ps_ret (pe_and (pe_callB (call_isiK1 (K := K)) (by rfl) T.b_isinstance (by decide +kernel) (pa_cons (pv 0) (pa_cons (pe_bltn (v := .ty "str") (by rfl) T.b_str (by decide +kernel) rfl) pa_nil))) (pe_and (pe_cmpR op_le (pe_callB call_len_str (by rfl) T.b_len (by decide +kernel) (pa_cons (pv 0) pa_nil)) (pv 1) (nomark _)) (pe_one (pe_callB (cr_allK (K := K) rfl) (by rfl) T.b_all (by decide +kernel) (pa_cons (pe_lc (own := [("sign", 2)]) (g := gName 2) (tt := tYes) rfl sc_is_row_within.nd (pi_str (pv 0)) (blkOk_by (own := [("sign", 2)]) (N := ["thing", "most", "sign"]) (sc := defScope s_is_row_within) (by decide +kernel)) (fun _ _ _ _ _ => (pg_name (i := 2) sc_is_row_within.nd rfl (Or.inl rfl))) (fun _ _ _ _ _ => pts_nil) (fun _ _ _ _ _ => (pe_cmpR op_in_sign (pv 2) (pe_globC T.g_SIGNS) rfl))) pa_nil))))))), ?_⟩
    obtain ⟨u, hu, ru⟩ := T.g_SIGNS
    refine Evl.s_ret (Evl.ev_is (Evl.ev_andV (Evl.ev_isi (Evl.ev_var rfl) Evl.ev_c (.ty "str") (fun _ _ => .base (.str _)) (kit_ty (r := true) (by decide +kernel)))
      (fun _ => Evl.ev_andV (Evl.ev_op (Evl.ev_lenS (Evl.ev_var rfl) (by rw [len_S]; omega)) (Evl.ev_var rfl) Evl.rv_I0)
        (fun _ => Evl.ev_allN (bs := l.map fun c => decide (c ∈ sgns)) (el_is (Evl.el_mapS (fun c => .bl (decide (c ∈ sgns))) (Evl.ev_var rfl) (by rw [len_S]; omega) (fun _ => rfl)
          (fun c H1 e hc => Evl.ev_is (Evl.ev_op (Evl.ev_var rfl) Evl.ev_c Evl.rv_inS) (by rw [decide_eq_decide.mpr (iff_of_eq (sgns_mem c))]))) (by rw [List.map_map]; rfl))))) ?_) fun H1 e => k H1 e
    rw [len_S]
    simp [List.all_map, Function.comp]
theorem sc_is_row : FnScope ["thing"] ["thing"] (defScope s_is_row) := ⟨rfl, rfl, rfl, by decide +kernel, rfl, by decide +kernel, by decide +kernel⟩
theorem ok_is_row {f : Addr} {fd : FuncData} (F : Fun K "is_row" "is_row" s_is_row f fd) (T : Txt K mg) (kn_is_row_within : KN P w K mg base CX0 1 ["thing", "most"] (sp_is_row_within) "is_row_within" []) : FnOk P w K mg base CX0 2 f fd ["thing"] (sp_is_row) := by
  obtain ⟨f_is_row_within, fd_is_row_within, ds_is_row_within, m_is_row_within, k_is_row_within, v_is_row_within, b_is_row_within, G_is_row_within⟩ := kn_is_row_within
  refine F.ok sc_is_row (fun vs H Q E h => ?_) (fun cdv A outer s H vs Q E hr h => ?_)
  · obtain ⟨l, rfl, _⟩ := h
    all_goals rfl
  · obtain ⟨l, rfl, hz, k⟩ := h
    refine ⟨_, (pss_one (ps_ret (pe_call G_is_row_within (hr.mono (by decide)) rfl m_is_row_within k_is_row_within b_is_row_within v_is_row_within pass0 (pa_cons (pv 0) (pa_cons (pe_globC T.g_MOST_SIGNS) pa_nil))))), ?_⟩
    refine ⟨_, rfl, l, 60, rfl, hz, fun H1 e => ?_⟩
    have q := k H1 e
    unfold isRow at q
    have z : decide ((l.length : Int) ≤ 60) = decide (l.length ≤ 60) := decide_eq_decide.mpr (by omega)
    rw [z]
    exact q
theorem sc_look_at_row : FnScope ["thing"] ["thing"] (defScope s_look_at_row) := ⟨rfl, rfl, rfl, by decide +kernel, rfl, by decide +kernel, by decide +kernel⟩
theorem ok_look_at_row {f : Addr} {fd : FuncData} (F : Fun K "look_at_row" "look_at_row" s_look_at_row f fd) (T : Txt K mg) (kn_is_row : KN P w K mg base CX0 2 ["thing"] (sp_is_row) "is_row" []) : FnOk P w K mg base CX0 3 f fd ["thing"] (sp_look_at_row) := by
  obtain ⟨f_is_row, fd_is_row, ds_is_row, m_is_row, k_is_row, v_is_row, b_is_row, G_is_row⟩ := kn_is_row
  refine F.ok sc_look_at_row (fun vs H Q E h => ?_) (fun cdv A outer s H vs Q E hr h => ?_)
  · obtain ⟨l, rfl, _⟩ := h
    all_goals rfl
  · obtain ⟨l, rfl, hl, k⟩ := h
    refine ⟨_, (pss_one (ps_if (pt_not (pt_val (pe_call G_is_row (hr.mono (by decide)) rfl m_is_row k_is_row b_is_row v_is_row pass0 (pa_cons (pv 0) pa_nil)))) (pss_one ps_never) pss_nil)), ?_⟩
    have hz := (isRow_iff.mp hl).1
    refine ⟨_, rfl, l, rfl, by omega, fun H1 e => ⟨_, rfl, ?_⟩⟩
    rw [hl]
    exact iteF (k H1 e)
theorem sc_contrary_sign : FnScope ["sign"] ["sign"] (defScope s_contrary_sign) := ⟨rfl, rfl, rfl, by decide +kernel, rfl, by decide +kernel, by decide +kernel⟩
theorem ok_contrary_sign {f : Addr} {fd : FuncData} (F : Fun K "contrary_sign" "contrary_sign" s_contrary_sign f fd) (T : Txt K mg) : FnOk P w K mg base CX0 1 f fd ["sign"] (sp_contrary_sign) := by
  refine F.ok sc_contrary_sign (fun vs H Q E h => ?_) (fun cdv A outer s H vs Q E hr h => ?_)
  · obtain ⟨c, rfl, _⟩ := h
    all_goals rfl
  · obtain ⟨c, rfl, hc, k⟩ := h
    refine ⟨_, (pss_one (ps_ret (pe_ifExp (pt_val (pe_m0 PySem.F.slot_str_isupper PySem.F.type_str_isupper mt_isupper (pv 0))) (pe_lower (pv 0)) (pe_upper (pv 0))))), ?_⟩
    refine Evl.s_ret (Evl.ev_is (Evl.ev_ifv (Evl.et_B (Evl.ev_m0 (Evl.ev_var rfl) trivial)) (fun _ => Evl.ev_m0 (Evl.ev_var rfl) one_le) (fun _ => Evl.ev_m0 (Evl.ev_var rfl) one_le)) ?_) fun H1 e => k H1 e
    rw [up1 c hc, low1 c hc, isup1 c hc]
    unfold con lo up
    by_cases h : c < 97
    · have h2 : ¬ 97 ≤ c := by omega
      rw [decide_eq_true h, if_pos rfl, if_neg h2, if_neg h2]
    · have h2 : 97 ≤ c := by omega
      rw [decide_eq_false h, if_neg (by decide), if_pos h2, if_pos h2]
theorem sc_turned : FnScope ["text", "sign"] ["text"] (defScope s_turned) := ⟨rfl, rfl, rfl, by decide +kernel, rfl, by decide +kernel, by decide +kernel⟩
theorem ok_turned {f : Addr} {fd : FuncData} (F : Fun K "turned" "turned" s_turned f fd) (T : Txt K mg) (kn_contrary_sign : KN P w K mg base CX0 1 ["sign"] (sp_contrary_sign) "contrary_sign" []) : FnOk P w K mg base CX0 2 f fd ["text"] (sp_turned) := by
  obtain ⟨f_contrary_sign, fd_contrary_sign, ds_contrary_sign, m_contrary_sign, k_contrary_sign, v_contrary_sign, b_contrary_sign, G_contrary_sign⟩ := kn_contrary_sign
  refine F.ok sc_turned (fun vs H Q E h => ?_) (fun cdv A outer s H vs Q E hr h => ?_)
  · obtain ⟨l, rfl, _⟩ := h
    all_goals rfl
  · obtain ⟨l, rfl, hl, hz, k⟩ := h
    refine ⟨_, (pss_one (ps_ret (pe_m1 PySem.F.slot_str_join PySem.F.type_str_join (mt_joinK (K := K)) pe_str (pe_lc (own := [("sign", 1)]) (g := gName 1) (tt := tYes) rfl sc_turned.nd (pi_str (pe_revS (pv 0))) (blkOk_by (own := [("sign", 1)]) (N := ["text", "sign"]) (sc := defScope s_turned) (by decide +kernel)) (fun _ _ _ _ _ => (pg_name (i := 1) sc_turned.nd rfl (Or.inl rfl))) (fun _ _ _ _ _ => pts_nil) (fun _ _ _ _ _ => (pe_call G_contrary_sign (hr.mono (by decide)) rfl m_contrary_sign k_contrary_sign b_contrary_sign v_contrary_sign pass0 (pa_cons (pv 1) pa_nil))))))), ?_⟩
    refine Evl.s_ret (Evl.ev_is (ev_joinMap con Evl.ev_c (by decide) (Evl.ev_revS (Evl.ev_var rfl) (by rw [len_S]; omega)) (by show (S l.reverse).length ≤ _; rw [len_S, List.length_reverse]; omega) (fun _ => rfl) (fun c H1 e hc => ?_)) rfl) fun H1 e => k H1 e
    have hc : c ∈ sgns := hl c (List.mem_reverse.mp hc)
    exact Evl.ev_call (Evl.ea_cons (Evl.ev_var rfl) Evl.ea_nil) fun H1 e Q q E => ⟨c, rfl, hc, q⟩
theorem sc_contrary : FnScope ["row"] ["row"] (defScope s_contrary) := ⟨rfl, rfl, rfl, by decide +kernel, rfl, by decide +kernel, by decide +kernel⟩
theorem ok_contrary {f : Addr} {fd : FuncData} (F : Fun K "contrary" "contrary" s_contrary f fd) (T : Txt K mg) (kn_look_at_row : KN P w K mg base CX0 3 ["thing"] (sp_look_at_row) "look_at_row" []) (kn_turned : KN P w K mg base CX0 2 ["text"] (sp_turned) "turned" []) : FnOk P w K mg base CX0 4 f fd ["row"] (sp_contrary) := by
  obtain ⟨f_look_at_row, fd_look_at_row, ds_look_at_row, m_look_at_row, k_look_at_row, v_look_at_row, b_look_at_row, G_look_at_row⟩ := kn_look_at_row
  obtain ⟨f_turned, fd_turned, ds_turned, m_turned, k_turned, v_turned, b_turned, G_turned⟩ := kn_turned
  refine F.ok sc_contrary (fun vs H Q E h => ?_) (fun cdv A outer s H vs Q E hr h => ?_)
  · obtain ⟨l, rfl, _⟩ := h
    all_goals rfl
  · obtain ⟨l, rfl, hl, k⟩ := h
    refine ⟨_, (pss_cons (ps_expr (pe_call G_look_at_row (hr.mono (by decide)) rfl m_look_at_row k_look_at_row b_look_at_row v_look_at_row pass0 (pa_cons (pv 0) pa_nil)))
    (pss_one (ps_ret (pe_call G_turned (hr.mono (by decide)) rfl m_turned k_turned b_turned v_turned pass0 (pa_cons (pv 0) pa_nil))))), ?_⟩
    obtain ⟨zl, rl⟩ := isRow_iff.mp hl
    exact ⟨_, rfl, l, rfl, hl, fun H1 s1 => ⟨_, rfl, l, rfl, rl, by omega, fun H2 s2 => k H2 (Same.trans s1 s2)⟩⟩
theorem sc_law_taken_out : FnScope ["_law_text", "_law_found", "_law_at"] ["_law_text"] (defScope s_law_taken_out) := ⟨rfl, rfl, rfl, by decide +kernel, rfl, by decide +kernel, by decide +kernel⟩
theorem ok_law_taken_out {f : Addr} {fd : FuncData} (F : Fun K "_law_taken_out" "_law_taken_out" s_law_taken_out f fd) (T : Txt K mg) (kn_law_turned : KN P w K mg base CX0 1 ["_law_text"] (sp_law_turned) "_law_turned" []) : FnOk P w K mg base CX0 2 f fd ["_law_text"] (sp_law_taken_out) := by
  obtain ⟨f_law_turned, fd_law_turned, ds_law_turned, m_law_turned, k_law_turned, v_law_turned, b_law_turned, G_law_turned⟩ := kn_law_turned
  refine F.ok sc_law_taken_out (fun vs H Q E h => ?_) (fun cdv A outer s H vs Q E hr h => ?_)
  · obtain ⟨l, rfl, _⟩ := h
    all_goals rfl
  · obtain ⟨l, rfl, hl, hz, k⟩ := h
    refine ⟨_, (pss_cons (ps_set (i := 1) sc_law_taken_out.nd rfl (Or.inl rfl) (pv 0))
    (pss_cons (ps_set (i := 2) sc_law_taken_out.nd rfl (Or.inl rfl) (pe_op op_sub (pe_callB call_len_str (by rfl) T.b_len (by decide +kernel) (pa_cons (pv 1) pa_nil)) pe_int))
    (pss_cons (ps_while PassesOwn.never (pt_cmpR op_ge (pv 2) pe_int (nomark _)) (pss_one (ps_if (pt_cmpR op_eq (pe_ix ix_str (pv 1) (pv 2) (fun _ _ => rfl)) (pe_call G_law_turned (hr.mono (by decide)) rfl m_law_turned k_law_turned b_law_turned v_law_turned pass0 (pa_cons (pe_ix ix_str (pv 1) (pe_op op_add (pv 2) pe_int) (fun _ _ => rfl)) pa_nil)) (nomark _)) (pss_cons (ps_set (i := 1) sc_law_taken_out.nd rfl (Or.inl rfl) (pe_op op_add_str (pe_slice sl_str (pv 1) po_none (po_some (pv 2))) (pe_slice sl_str (pv 1) (po_some (pe_op op_add (pv 2) pe_int)) po_none)))
    (pss_one (ps_set (i := 2) sc_law_taken_out.nd rfl (Or.inl rfl) (pe_op op_sub (pe_callB call_len_str (by rfl) T.b_len (by decide +kernel) (pa_cons (pv 1) pa_nil)) pe_int)))) (pss_one (ps_set (i := 2) sc_law_taken_out.nd rfl (Or.inl rfl) (pe_op op_sub (pv 2) pe_int))))))
    (pss_one (ps_ret (pv 1)))))), ?_⟩
    refine ⟨_, rfl, _, rfl, _, rfl, sz_of' (by rw [len_S]; omega), _, _, rfl, rfl, ?_⟩
    rw [len_S]
    refine Evl.q_while (fun m σ H' => ∃ (f : List Nat) (i : Int), σ = [some (.str (S l)), some (.str (S f)), some (.int i)] ∧ Row f ∧ RowM.plain f = RowM.plain l ∧ f.length ≤ 60 ∧ -2 ≤ i ∧ i + 2 ≤ f.length ∧ (0 ≤ i + 1 ∨ f = []) ∧ RowM.Red (f.drop (i + 1).toNat) ∧ m = 100 * f.length + (i + 2).toNat ∧ Same H H') (101 * l.length) ⟨l, (l.length : Int) - 2, rfl, hl, rfl, hz, by omega, by omega, ?_, red_tail l (by omega), by omega, Same.refl H⟩ ?_
    · cases l with
      | nil => exact .inr rfl
      | cons c l => left; simp only [List.length_cons]; omega
    rintro m σ H3 ⟨f, i, rfl, rf, pf, zf, i0, i1, ie, rd, rfl, s3⟩
    refine ⟨_, Evl.et_test (Evl.ev_op (Evl.ev_var rfl) Evl.ev_c Evl.rv_I0), fun q H4 e4 => ?_, fun q H4 e4 => ?_⟩
    · have q2 : 0 ≤ i := of_decide_eq_true q
      obtain ⟨j, rfl⟩ : ∃ j : Nat, i = (j : Int) := ⟨i.toNat, by omega⟩
      obtain ⟨a, b, ha, hb, ed, ed1, ef⟩ := drop_two (f := f) (i := j) (by omega)
      have ra : a ∈ sgns := rf a (List.mem_of_getElem? ha)
      have rb : b ∈ sgns := rf b (List.mem_of_getElem? hb)
      have hb2 : atI (S f).cps.toList ((j : Int) + 1) = some b := atI_nat (xs := f) (j := j + 1) hb
      refine ⟨_, fun σ2 H2 h => h, ?_⟩
      refine ⟨_, rfl, _, rfl, _, _, a, rfl, rfl, sz_of' (by rw [len_S]; omega), atI_nat (xs := f) ha, _, rfl, _, rfl, _, _, rfl, rfl, _, _, b, rfl, rfl, sz_of' (by rw [len_S]; omega), hb2, [b], rfl, (fun c hc => by rw [List.mem_singleton.mp hc]; exact rb), by simp, fun H5 s5 => ?_⟩
      rw [turn_one]
      refine ⟨rfl, _, rfl, ite2 (fun q => ?_) (fun q => ?_)⟩
      · have eab : a = con b := one_inj (S_of (of_decide_eq_true q))
        refine ⟨_, rfl, _, rfl, _, rfl, _, rfl, sz_of' (by rw [len_S]; omega), ?_⟩
        have e2 : ((j : Int) + 2) = ((j + 2 : Nat) : Int) := by omega
        refine ⟨_, rfl, _, rfl, _, _, rfl, rfl, _, rfl, _, rfl, sz_of' (by rw [len_S]; omega), _, _, rfl, rfl, ?_⟩
        rw [cut_to (by omega), e2, cut_from]
        refine ⟨sz_str (by rw [List.length_take]; omega) (by rw [List.length_drop]; omega), ?_⟩
        rw [add_S]
        have zf2 : (f.take j ++ f.drop (j + 2)).length + 2 = f.length := by rw [List.length_append, List.length_take, List.length_drop]; omega
        have ep : RowM.plain (f.take j ++ f.drop (j + 2)) = RowM.plain l := by
          rw [← pf]
          conv => rhs; rw [ef]
          have eb : b = con a := by rw [eab, RowM.con_con rb]
          rw [eb]
          exact (RowM.plain_pair ra).symm
        have rf2 : Row (f.take j ++ f.drop (j + 2)) := fun c hc => by
          rcases List.mem_append.mp hc with z | z
          · exact rf c (List.mem_of_mem_take z)
          · exact rf c (List.mem_of_mem_drop z)
        generalize f.take j ++ f.drop (j + 2) = f2 at *
        refine ⟨_, rfl, _, rfl, sz_of' (by rw [len_S]; omega), _, _, rfl, rfl, ?_⟩
        rw [len_S]
        refine ⟨100 * f2.length + f2.length, by omega, f2, (f2.length : Int) - 2, rfl, rf2, ep, by omega, by omega, by omega, ?_, red_tail f2 (by omega), by omega, Same.trans s3 (Same.trans e4 s5)⟩
        cases f2 with
        | nil => exact .inr rfl
        | cons c l => left; simp only [List.length_cons]; omega
      · have nab : a ≠ con b := fun e => q (by rw [e]; exact decide_eq_true rfl)
        refine ⟨_, rfl, _, _, rfl, rfl, 100 * f.length + (j + 1), by omega, f, (j : Int) - 1, rfl, rf, pf, zf, by omega, by omega, .inl (by omega), ?_, by omega, Same.trans s3 (Same.trans e4 s5)⟩
        have en : ((j : Int) - 1 + 1).toNat = j := by omega
        have en2 : ((j : Int) + 1).toNat = j + 1 := by omega
        rw [en2, ed1] at rd
        rw [en, ed]
        exact red_two ra rb rd nab
    have q2 : ¬ 0 ≤ i := of_decide_eq_false q
    have rr : RowM.Red f := by
      rcases ie with z | rfl
      · have e : (i + 1).toNat = 0 := by omega
        rw [e] at rd
        exact rd
      · trivial
    rw [RowM.plain_of_red rf rr] at pf
    rw [← pf] at k
    exact ⟨_, rfl, k _ (Same.trans s3 e4)⟩
theorem sc_made_plain : FnScope ["text", "found", "sign"] ["text"] (defScope s_made_plain) := ⟨rfl, rfl, rfl, by decide +kernel, rfl, by decide +kernel, by decide +kernel⟩
theorem ok_made_plain {f : Addr} {fd : FuncData} (F : Fun K "made_plain" "made_plain" s_made_plain f fd) (T : Txt K mg) (kn_contrary_sign : KN P w K mg base CX0 1 ["sign"] (sp_contrary_sign) "contrary_sign" []) : FnOk P w K mg base CX0 2 f fd ["text"] (sp_made_plain) := by
  obtain ⟨f_contrary_sign, fd_contrary_sign, ds_contrary_sign, m_contrary_sign, k_contrary_sign, v_contrary_sign, b_contrary_sign, G_contrary_sign⟩ := kn_contrary_sign
  refine F.ok sc_made_plain (fun vs H Q E h => ?_) (fun cdv A outer s H vs Q E hr h => ?_)
  · obtain ⟨l, rfl, _⟩ := h
    all_goals rfl
  · obtain ⟨l, rfl, hl, hz, k⟩ := h
    refine ⟨_, (pss_cons (ps_set (i := 1) sc_made_plain.nd rfl (Or.inl rfl) pe_str)
    (pss_cons (ps_for PassesOwn.never rfl (pi_str (pv 0)) (pg_name (i := 2) sc_made_plain.nd rfl (Or.inl rfl)) (pss_one (ps_if (pt_val (pe_m1 PySem.F.slot_str_endswith PySem.F.type_str_endswith mt_endswith (pv 1) (pe_call G_contrary_sign (hr.mono (by decide)) rfl m_contrary_sign k_contrary_sign b_contrary_sign v_contrary_sign pass0 (pa_cons (pv 2) pa_nil)))) (pss_one (ps_set (i := 1) sc_made_plain.nd rfl (Or.inl rfl) (pe_slice sl_str (pv 1) po_none (po_some (pe_un un_neg pe_int))))) (pss_one (ps_aug (i := 1) sc_made_plain.nd rfl (Or.inl rfl) (pv 2) iop_add_str)))))
    (pss_one (ps_ret (pv 1))))), ?_⟩
    refine ⟨_, rfl, _, rfl, for_it walk_str (fun i σ H' => ∃ x, σ = [some (.str (S l)), some (.str (S (RowM.plain (l.take i)))), x] ∧ Same H H') ⟨_, rfl, Same.refl H⟩ (fun _ _ _ _ _ => trivial) ?_ ?_⟩
    · rintro i v σ H3 H4 hi ⟨x, rfl, s3⟩ ⟨rfl, c, hc, rfl⟩
      have hc' : l[i]? = some c := by simpa using hc
      have sc : c ∈ sgns := hl c (List.mem_of_getElem? hc')
      have em := made_on hc'
      have pz : (RowM.plain (l.take i)).length ≤ 40000 := Nat.le_trans (RowM.plain_length _) (by rw [List.length_take]; omega)
      obtain ⟨p, ep⟩ : ∃ p, p = RowM.plain (l.take i) := ⟨_, rfl⟩
      rw [← ep] at em pz ⊢
      refine ⟨_, rfl, ⟨_, rfl⟩, _, rfl, c, rfl, sc, fun H5 s5 => ⟨_, _, rfl, rfl, _, rfl, ?_⟩⟩
      rw [ends_last]
      by_cases q : p.getLast? = some (con c)
      · rw [decide_eq_true q]
        obtain ⟨m, d, e⟩ := exists_snoc (m := p) (fun z => by rw [z] at q; cases q)
        subst e
        have ed : d = con c := by simpa using q
        subst ed
        refine iteT ⟨_, rfl, _, rfl, _, rfl, _, rfl, sz_of' (by rw [len_S]; omega), ?_⟩
        rw [cut_last]
        rw [on_snoc] at em
        exact ⟨_, by rw [em]; rfl, Same.trans s3 s5⟩
      · rw [decide_eq_false q]
        rw [on_else q] at em
        refine iteF ⟨_, rfl, _, rfl, _, _, rfl, rfl, sz_of' (by rw [len_S]; show p.length + 1 ≤ _; omega), ?_⟩
        have ea : S p ++ (⟨#[c]⟩ : Str) = S (p ++ [c]) := add_S p [c]
        rw [ea]
        exact ⟨_, by rw [em]; rfl, Same.trans s3 s5⟩
    rintro σ H3 ⟨x, rfl, s3⟩
    have et : l.take (S l).cps.size = l := by
      have : (S l).cps.size = l.length := len_S l
      rw [this, List.take_length]
    rw [et]
    exact ⟨_, rfl, k H3 s3⟩
theorem sc_plain : FnScope ["row"] ["row"] (defScope s_plain) := ⟨rfl, rfl, rfl, by decide +kernel, rfl, by decide +kernel, by decide +kernel⟩
theorem ok_plain {f : Addr} {fd : FuncData} (F : Fun K "plain" "plain" s_plain f fd) (T : Txt K mg) (kn_look_at_row : KN P w K mg base CX0 3 ["thing"] (sp_look_at_row) "look_at_row" []) (kn_made_plain : KN P w K mg base CX0 2 ["text"] (sp_made_plain) "made_plain" []) : FnOk P w K mg base CX0 4 f fd ["row"] (sp_plain) := by
  obtain ⟨f_look_at_row, fd_look_at_row, ds_look_at_row, m_look_at_row, k_look_at_row, v_look_at_row, b_look_at_row, G_look_at_row⟩ := kn_look_at_row
  obtain ⟨f_made_plain, fd_made_plain, ds_made_plain, m_made_plain, k_made_plain, v_made_plain, b_made_plain, G_made_plain⟩ := kn_made_plain
  refine F.ok sc_plain (fun vs H Q E h => ?_) (fun cdv A outer s H vs Q E hr h => ?_)
  · obtain ⟨l, rfl, _⟩ := h
    all_goals rfl
  · obtain ⟨l, rfl, hl, k⟩ := h
    refine ⟨_, (pss_cons (ps_expr (pe_call G_look_at_row (hr.mono (by decide)) rfl m_look_at_row k_look_at_row b_look_at_row v_look_at_row pass0 (pa_cons (pv 0) pa_nil)))
    (pss_one (ps_ret (pe_call G_made_plain (hr.mono (by decide)) rfl m_made_plain k_made_plain b_made_plain v_made_plain pass0 (pa_cons (pv 0) pa_nil))))), ?_⟩
    obtain ⟨zl, rl⟩ := isRow_iff.mp hl
    exact ⟨_, rfl, l, rfl, hl, fun H1 s1 => ⟨_, rfl, l, rfl, rl, by omega, fun H2 s2 => k H2 (Same.trans s1 s2)⟩⟩
theorem sc_deeds_of : FnScope ["row"] ["row"] (defScope s_deeds_of) := ⟨rfl, rfl, rfl, by decide +kernel, rfl, by decide +kernel, by decide +kernel⟩
theorem ok_deeds_of {f : Addr} {fd : FuncData} (F : Fun K "deeds_of" "deeds_of" s_deeds_of f fd) (T : Txt K mg) (kn_look_at_row : KN P w K mg base CX0 3 ["thing"] (sp_look_at_row) "look_at_row" []) : FnOk P w K mg base CX0 4 f fd ["row"] (sp_deeds_of K) := by
  obtain ⟨f_look_at_row, fd_look_at_row, ds_look_at_row, m_look_at_row, k_look_at_row, v_look_at_row, b_look_at_row, G_look_at_row⟩ := kn_look_at_row
  refine F.ok sc_deeds_of (fun vs H Q E h => ?_) (fun cdv A outer s H vs Q E hr h => ?_)
  · obtain ⟨l, rfl, _⟩ := h
    all_goals rfl
  · obtain ⟨l, rfl, hl, k⟩ := h
    refine ⟨_, (pss_cons (ps_expr (pe_call G_look_at_row (hr.mono (by decide)) rfl m_look_at_row k_look_at_row b_look_at_row v_look_at_row pass0 (pa_cons (pv 0) pa_nil)))
    (pss_one (ps_ret (pe_callTy (call_tupleL (K := K)) (by rfl) T.b_tuple (by decide +kernel) (pa_cons (pe_callB (call_sortedSetT rfl) (by rfl) T.b_sorted (by decide +kernel) (pa_cons (pe_callTy (call_setT rfl) (by rfl) T.b_set (by decide +kernel) (pa_cons (pe_lower (pv 0)) pa_nil)) pa_nil)) pa_nil))))), ?_⟩
    obtain ⟨zl, rl⟩ := isRow_iff.mp hl
    refine ⟨_, rfl, l, rfl, hl, fun H1 s1 => ?_⟩
    refine ⟨_, rfl, ⟨_, rfl⟩, _, rfl, rfl, (by show l.length ≤ 5592405; omega), ?_⟩
    rw [lower_row rl]
    have zs : (S (l.map RowM.lo)).cps.size = (l.map RowM.lo).length := by simp
    refine ⟨_, rfl, by rw [zs, List.length_map]; unfold PySem.scanBound; omega, fun p m hm hp => ?_⟩
    rw [zs] at hm ⊢
    rw [List.length_map] at hm
    refine ⟨p, _, m, rfl, upd_same, by omega, fun ys q hs hd hk hy hq => ?_⟩
    have ey := tup_deeds rl hs hd hk
    subst ey
    have s2 := Same.new (o := SetTO w p (sgnT (S (l.map RowM.lo)) (l.map RowM.lo).length) m) hp
    have s3 := Same.new (o := .lst (((deedsL l).map fun c => S [c]).map V.str)) hq
    refine ⟨q, _, rfl, SqL.of upd_same, fun r hr => k r _ ?_ ?_ ?_⟩
    · exact Same.free (Same.trans s1 (Same.trans s2 s3)) hr
    · exact Same.trans s1 (Same.trans s2 (Same.trans s3 (Same.new hr)))
    · rw [upd_same, List.map_map]
      rfl
theorem sc_law : FnScope ["_law_script", "_law_k", "_law_pool_here", "_law_row_here", "_law_back", "_law_due", "_law_found", "_law_some", "_law_deed"] ["_law_script"] (defScope s_law) := ⟨rfl, rfl, rfl, by decide +kernel, rfl, by decide +kernel, by decide +kernel⟩
theorem ok_law {f : Addr} {fd : FuncData} (F : Fun K "law" "law" s_law f fd) (T : Txt K mg) (kn_law_pool : KN P w K mg base CX0 1 ["_law_script", "_law_k"] (sp_law_pool K) "_law_pool" []) (kn_law_row : KN P w K mg base CX0 2 ["_law_pool_here", "_law_most", "_law_deeds"] (sp_law_row) "_law_row" []) (kn_law_take : KN P w K mg base CX0 1 ["_law_pool_here", "_law_many"] (sp_law_take) "_law_take" []) (kn_contrary : KN P w K mg base CX0 4 ["row"] (sp_contrary) "contrary" []) (kn_law_taken_out : KN P w K mg base CX0 2 ["_law_text"] (sp_law_taken_out) "_law_taken_out" []) (kn_law_turned : KN P w K mg base CX0 1 ["_law_text"] (sp_law_turned) "_law_turned" []) (kn_plain : KN P w K mg base CX0 4 ["row"] (sp_plain) "plain" []) (kn_deeds_of : KN P w K mg base CX0 4 ["row"] (sp_deeds_of K) "deeds_of" []) : FnOk P w K mg base CX0 5 f fd ["_law_script"] (sp_law K) := by
  obtain ⟨f_law_pool, fd_law_pool, ds_law_pool, m_law_pool, k_law_pool, v_law_pool, b_law_pool, G_law_pool⟩ := kn_law_pool
  obtain ⟨f_law_row, fd_law_row, ds_law_row, m_law_row, k_law_row, v_law_row, b_law_row, G_law_row⟩ := kn_law_row
  obtain ⟨f_law_take, fd_law_take, ds_law_take, m_law_take, k_law_take, v_law_take, b_law_take, G_law_take⟩ := kn_law_take
  obtain ⟨f_contrary, fd_contrary, ds_contrary, m_contrary, k_contrary, v_contrary, b_contrary, G_contrary⟩ := kn_contrary
  obtain ⟨f_law_taken_out, fd_law_taken_out, ds_law_taken_out, m_law_taken_out, k_law_taken_out, v_law_taken_out, b_law_taken_out, G_law_taken_out⟩ := kn_law_taken_out
  obtain ⟨f_law_turned, fd_law_turned, ds_law_turned, m_law_turned, k_law_turned, v_law_turned, b_law_turned, G_law_turned⟩ := kn_law_turned
  obtain ⟨f_plain, fd_plain, ds_plain, m_plain, k_plain, v_plain, b_plain, G_plain⟩ := kn_plain
  obtain ⟨f_deeds_of, fd_deeds_of, ds_deeds_of, m_deeds_of, k_deeds_of, v_deeds_of, b_deeds_of, G_deeds_of⟩ := kn_deeds_of
  refine F.ok sc_law (fun vs H Q E h => ?_) (fun cdv A outer s H vs Q E hr h => ?_)
  · obtain ⟨a, ns, rfl, _⟩ := h
    all_goals rfl
  · obtain ⟨a, ns, rfl, hS, hlen, k⟩ := h
    refine ⟨_, (pss_cons (ps_for PassesOwn.never rfl (pi_range1 (by rfl) T.b_range (pa_cons (pe_callB (call_max2 rfl) (by rfl) T.b_max (by decide +kernel) (pa_cons pe_int (pa_cons (pe_callB (call_min2 rfl) (by rfl) T.b_min (by decide +kernel) (pa_cons (pe_callB (call_lenK (K := K)) (by rfl) T.b_len (by decide +kernel) (pa_cons (pv 0) pa_nil)) (pa_cons pe_int pa_nil))) pa_nil))) pa_nil)) (pg_name (i := 1) sc_law.nd rfl (Or.inl rfl)) (pss_cons (ps_set (i := 2) sc_law.nd rfl (Or.inl rfl) (pe_call G_law_pool (hr.mono (by decide)) rfl m_law_pool k_law_pool b_law_pool v_law_pool pass0 (pa_cons (pv 0) (pa_cons (pv 1) pa_nil))))
    (pss_cons (ps_set (i := 3) sc_law.nd rfl (Or.inr rfl) (pe_call G_law_row (hr.mono (by decide)) rfl m_law_row k_law_row b_law_row v_law_row pass0 (pa_cons (pv 2) (pa_cons pe_int (pa_cons (pe_op op_add pe_int (pe_call G_law_take (hr.mono (by decide)) rfl m_law_take k_law_take b_law_take v_law_take pass0 (pa_cons (pv 2) (pa_cons pe_int pa_nil)))) pa_nil)))))
    (pss_cons (ps_set (i := 4) sc_law.nd rfl (Or.inl rfl) (pe_call G_contrary (hr.mono (by decide)) rfl m_contrary k_contrary b_contrary v_contrary pass0 (pa_cons (pv 3) pa_nil)))
    (pss_cons (ps_set (i := 5) sc_law.nd rfl (Or.inl rfl) (pe_call G_law_taken_out (hr.mono (by decide)) rfl m_law_taken_out k_law_taken_out b_law_taken_out v_law_taken_out pass0 (pa_cons (pv 3) pa_nil)))
    (pss_cons (ps_if (PW.pt (pw_or (pt_cmpR op_ne (pv 4) (pe_call G_law_turned (hr.mono (by decide)) rfl m_law_turned k_law_turned b_law_turned v_law_turned pass0 (pa_cons (pv 3) pa_nil)) (nomark _)) (pw_or (pt_cmpR op_ne (pe_call G_contrary (hr.mono (by decide)) rfl m_contrary k_contrary b_contrary v_contrary pass0 (pa_cons (pv 4) pa_nil)) (pv 3) (nomark _)) (pw_or (pt_cmpR op_ne (pe_call G_plain (hr.mono (by decide)) rfl m_plain k_plain b_plain v_plain pass0 (pa_cons (pv 3) pa_nil)) (pv 5) (nomark _)) (pw_or1 (pt_cmpR op_ne (pe_call G_plain (hr.mono (by decide)) rfl m_plain k_plain b_plain v_plain pass0 (pa_cons (pv 5) pa_nil)) (pv 5) (nomark _))))))) (pss_one (ps_ret pe_bl)) pss_nil)
    (pss_cons (ps_if (PW.pt (pw_or (pt_cmpR op_ne (pe_call G_plain (hr.mono (by decide)) rfl m_plain k_plain b_plain v_plain pass0 (pa_cons (pv 4) pa_nil)) (pe_call G_law_turned (hr.mono (by decide)) rfl m_law_turned k_law_turned b_law_turned v_law_turned pass0 (pa_cons (pv 5) pa_nil)) (nomark _)) (pw_or1 (pt_cmpR op_ne (pe_call G_plain (hr.mono (by decide)) rfl m_plain k_plain b_plain v_plain pass0 (pa_cons (pe_op op_add_str (pe_slice sl_str (pv 3) po_none (po_some pe_int)) (pe_call G_contrary (hr.mono (by decide)) rfl m_contrary k_contrary b_contrary v_contrary pass0 (pa_cons (pe_slice sl_str (pv 3) po_none (po_some pe_int)) pa_nil))) pa_nil)) pe_str (nomark _))))) (pss_one (ps_ret pe_bl)) pss_nil)
    (pss_cons (ps_set (i := 6) sc_law.nd rfl (Or.inl rfl) (pe_call G_deeds_of (hr.mono (by decide)) rfl m_deeds_of k_deeds_of b_deeds_of v_deeds_of pass0 (pa_cons (pv 3) pa_nil)))
    (pss_cons (ps_setLc (i := 7) (own := [("_law_deed", 8)]) (g := gName 8) rfl sc_law.nd rfl rfl (sw_true rfl rfl rfl (by decide +kernel)) (pi_str pe_str) (blkOk_by (own := [("_law_deed", 8)]) (N := ["_law_script", "_law_k", "_law_pool_here", "_law_row_here", "_law_back", "_law_due", "_law_found", "_law_some", "_law_deed"]) (sc := defScope s_law) (by decide +kernel)) (fun _ _ _ _ _ => (pg_name (i := 8) sc_law.nd rfl (Or.inl rfl))) (fun _ _ _ _ _ => pts_one (PW.pt (pw_or (pt_cmpR op_in_sign (pv 8) (pv 3) rfl) (pw_or1 (pt_cmpR op_in_sign (pe_upper (pv 8)) (pv 3) rfl))))) (fun _ _ _ _ _ => (pv 8)))
    (pss_one (ps_if (PW.pt (pw_or (pt_not (pt_val (pe_callB (call_isiK1 (K := K)) (by rfl) T.b_isinstance (by decide +kernel) (pa_cons (pv 6) (pa_cons (pe_bltn (v := .ty "tuple") (by rfl) T.b_tuple (by decide +kernel) rfl) pa_nil))))) (pw_or (pt_cmpR (op_neDK (K := K) hr.units) (pe_callTy (call_listK (K := K)) (by rfl) T.b_list (by decide +kernel) (pa_cons (pv 6) pa_nil)) (pv 7) (nomark _)) (pw_or1 (pt_cmpR (op_neDK (K := K) hr.units) (pe_call G_deeds_of (hr.mono (by decide)) rfl m_deeds_of k_deeds_of b_deeds_of v_deeds_of pass0 (pa_cons (pv 4) pa_nil)) (pv 6) (nomark _)))))) (pss_one (ps_ret pe_bl)) pss_nil)))))))))))
    (pss_one (ps_ret pe_bl))), ?_⟩
    have tn := turns_ok (ns.map V.int).length 30 (by decide)
    refine ⟨_, rfl, _, _, rfl, .inl hS, _, _, rfl, _, _, rfl, _, rfl, by omega, by omega, for_range (lo := 0) (n := _) (fun i σ H' => ∃ x1 x2 x3 x4 x5 x6 x7 x8, σ = [some (.ref a), x1, x2, x3, x4, x5, x6, x7, x8] ∧ Same H H')
      ⟨none, none, none, none, none, none, none, none, rfl, Same.refl H⟩ ?_ ?_⟩
    rotate_left
    · rintro σ H1 ⟨x1, x2, x3, x4, x5, x6, x7, x8, rfl, s1⟩
      exact k _
    rintro i σ H1 hi ⟨x1, x2, x3, x4, x5, x6, x7, x8, rfl, s1⟩
    refine ⟨_, rfl, _, rfl, a, ns, _, rfl, s1.seq hS, by omega, by omega, fun p H2 np s2 hp => ?_⟩
    have hpn : H p = none := Same.free s1 np
    have sH := Same.trans s1 s2
    refine ⟨_, rfl, _, rfl, p, 6, rfl, hp, by decide, by decide, fun v H3 v0 v1 o3 p3 => ⟨_, _, rfl, rfl, p, 60, 1 + v, rfl, p3, by decide, by decide, by omega, by omega, fun l H4 rl zl _ o4 p4 => ?_⟩⟩
    have sH := Off.same hpn (Off.same hpn sH o3) o4
    have zl : l.length ≤ 60 := by omega
    have il := isRow_of rl zl
    have rt := RowM.turn_row rl
    have zt : (RowM.turn l).length ≤ 60 := by rw [RowM.turn_length]; exact zl
    have ilt := isRow_of rt zt
    have rp := RowM.plain_row rl
    have zp : (RowM.plain l).length ≤ 60 := Nat.le_trans (RowM.plain_length l) zl
    have ilp := isRow_of rp zp
    refine ⟨_, rfl, l, rfl, il, fun H5 s5 => ⟨_, rfl, l, rfl, rl, zl, fun H6 s6 => ?_⟩⟩
    refine ⟨_, rfl, _, rfl, l, rfl, rl, by omega, fun H7 s7 => ⟨rfl, _, rfl, iteNS rfl ?_⟩⟩
    refine ⟨_, rfl, RowM.turn l, rfl, ilt, fun H8 s8 => ?_⟩
    rw [RowM.turn_turn rl]
    refine ⟨_, rfl, rfl, _, rfl, iteNS rfl ?_⟩
    refine ⟨_, rfl, l, rfl, il, fun H9 s9 => ⟨_, rfl, rfl, _, rfl, iteNS rfl ?_⟩⟩
    refine ⟨_, rfl, RowM.plain l, rfl, ilp, fun H10 s10 => ?_⟩
    rw [RowM.plain_plain rl]
    refine ⟨_, rfl, rfl, _, rfl, iteNS rfl ?_⟩
    have sH := Same.trans sH (Same.trans s5 (Same.trans s6 (Same.trans s7 (Same.trans s8 (Same.trans s9 s10)))))
    refine ⟨_, rfl, RowM.turn l, rfl, ilt, fun H11 s11 => ⟨_, rfl, RowM.plain l, rfl, rp, by omega, fun H12 s12 => ?_⟩⟩
    rw [RowM.plain_turn rl]
    refine ⟨rfl, _, rfl, iteNS rfl ?_⟩
    have z30 : (l.take 30).length ≤ 30 := by rw [List.length_take]; omega
    have r30 : Row (l.take 30) := fun c hc => rl c (List.mem_of_mem_take hc)
    refine ⟨_, rfl, _, rfl, _, rfl, sz_of' (by rw [len_S]; omega), _, rfl, _, rfl, _, rfl, sz_of' (by rw [len_S]; omega), ?_⟩
    rw [cut_30]
    refine ⟨l.take 30, rfl, isRow_of r30 (by omega), fun H13 s13 => ⟨_, _, rfl, rfl, sz_str (by omega) (by rw [RowM.turn_length]; omega), ?_⟩⟩
    rw [add_S]
    refine ⟨l.take 30 ++ RowM.turn (l.take 30), rfl, isRow_of (row_app r30 (RowM.turn_row r30)) (by rw [List.length_append, RowM.turn_length]; omega), fun H14 s14 => ?_⟩
    rw [RowM.plain_there_back r30]
    refine ⟨rfl, _, rfl, iteNS (by rfl) ?_⟩
    refine ⟨_, rfl, l, rfl, il, fun q H15 nq s15 gq => ?_⟩
    have sH := Same.trans sH (Same.trans s11 (Same.trans s12 (Same.trans s13 (Same.trans s14 s15))))
    refine ⟨_, rfl, fun D hD => ?_⟩
    refine lc_it walk_str (fun i H' => H' D = some (.lst ((([97, 98, 99, 100, 101, 102].take i).filter fun c => decide (c ∈ l.map RowM.lo)).map fun c => V.str (S [c]))) ∧ Same H15 H') ⟨upd_same, Same.new hD⟩ (fun _ _ _ _ => trivial) ?_ ?_
    · rintro j v H16 H17 hj ⟨gD, s16⟩ ⟨rfl, c, hc, rfl⟩
      have hc2 : (Str.ofString "abcdef").cps.toList[j]? = some c := by simpa using hc
      have eS : (Str.ofString "abcdef").cps.toList = [97, 98, 99, 100, 101, 102] := by decide
      rw [eS] at hc2
      have c6 : c ∈ [97, 98, 99, 100, 101, 102] := List.mem_of_getElem? hc2
      have sc : c ∈ sgns := by
        have : ∀ c ∈ [97, 98, 99, 100, 101, 102], c ∈ sgns := by decide
        exact this c c6
      have es := deeds_succ l hc2
      have ein := in_deeds rl c6
      have z6 : (([97, 98, 99, 100, 101, 102].take j).filter fun c => decide (c ∈ l.map RowM.lo)).length ≤ 6 := Nat.le_trans (List.length_filter_le _ _) (by rw [List.length_take]; exact Nat.min_le_right _ _)
      have add : ∀ H4, Same H17 H4 → decide (c ∈ l.map RowM.lo) = true → H4 D = some (.lst ((([97, 98, 99, 100, 101, 102].take j).filter fun c => decide (c ∈ l.map RowM.lo)).map fun c => V.str (S [c]))) → ∃ acc, H4 D = some (HO.lst acc) ∧ acc.length < sizeLine ∧
          upd H4 D (HO.lst (acc ++ [V.str (S [c])])) D = some (.lst ((([97, 98, 99, 100, 101, 102].take (j + 1)).filter fun c => decide (c ∈ l.map RowM.lo)).map fun c => V.str (S [c]))) ∧ Same H15 (upd H4 D (HO.lst (acc ++ [V.str (S [c])]))) := fun H4 s4 hin g4 => by
        refine ⟨_, g4, by rw [List.length_map]; exact Nat.lt_of_le_of_lt z6 (by decide), ?_, fun b o hb => ?_⟩
        · rw [upd_same, es, hin, List.map_append]; rfl
        · rw [upd_ne (ne_of_none hb hD)]
          exact s4 _ _ (s16 _ _ hb)
      refine ⟨rfl, _, rfl, _, rfl, c, _, rfl, rfl, _, rfl, ite2 (fun z => iteT ?_) (fun z => ?_)⟩
      · exact ⟨_, rfl, add H17 (Same.refl _) (by rw [← ein, show decide (c ∈ l) = true from z]; rfl) gD⟩
      refine ⟨_, rfl, ⟨_, rfl⟩, _, rfl, rfl, one_le, _, rfl, ?_⟩
      rw [up1 c sc]
      refine ⟨RowM.up c, _, rfl, rfl, _, rfl, ?_⟩
      have z1 : decide (c ∈ l) = false := by
        cases e : decide (c ∈ l) with
        | false => rfl
        | true => exact absurd e z
      rw [z1, Bool.false_or] at ein
      refine ite2 (fun z2 => ?_) (fun z2 => ?_)
      · exact ⟨_, rfl, add H17 (Same.refl _) (by rw [← ein]; exact z2) gD⟩
      · refine ⟨?_, s16⟩
        have e2 : decide (c ∈ l.map RowM.lo) = false := by
          rw [← ein]
          cases e : decide (RowM.up c ∈ l) with
          | false => rfl
          | true => exact absurd e z2
        rw [es, e2]
        simpa using gD
    rintro H16 ⟨gD, s16⟩
    have gD : H16 D = some (.lst (((deedsL l).map fun c => [c]).map sT)) := by rw [← deeds_sT]; exact gD
    have gq16 := s16 _ _ gq
    refine ⟨_, rfl, _, _, _, _, true, rfl, .ty "tuple", .base (.tup gq16), kit_ty (by decide +kernel), _, rfl, iteF ?_⟩
    refine ⟨_, rfl, q, _, rfl, .inr (SqT.of gq16), fun L hL => ?_⟩
    have gL : (upd H16 L (.lst ((deedsL l).map fun c => V.str (S [c])))) L = some (.lst (((deedsL l).map fun c => [c]).map sT)) := by rw [upd_same, deeds_sT]
    have gDL := Same.new (o := .lst ((deedsL l).map fun c => V.str (S [c]))) hL _ _ gD
    have sL := Same.new (o := .lst ((deedsL l).map fun c => V.str (S [c]))) hL
    refine ⟨_, rfl, _, _, dp_T gL, dp_T gDL, shaped_T (deeds_row l), shaped_T (deeds_row l), _, rfl, ?_⟩
    rw [eqv_T]
    refine iteNS rfl ?_
    refine ⟨_, rfl, RowM.turn l, rfl, ilt, fun q2 H18 nq2 s18 gq2 => ?_⟩
    rw [deeds_turn rl, deeds_sT] at gq2
    have gq18 := s18 _ _ (sL _ _ gq16)
    rw [deeds_sT] at gq18
    refine ⟨_, rfl, _, _, dp_U gq2, dp_U gq18, shaped_U (deeds_row l), shaped_U (deeds_row l), _, rfl, ?_⟩
    rw [eqv_U]
    refine iteNS rfl ?_
    exact ⟨_, _, _, _, _, _, _, _, rfl, Same.trans sH (Same.trans s16 (Same.trans sL s18))⟩
end
theorem all_mk {l : PySem.W.OpenLaw} {w : World} {K : PySem.W.Frag} {h : Heap} {mg : Str → Option Value} {fa : Addr} (X : K.In h) (G : h.Ns mainGlobals mg) (hfa : mg "law" = some (.ref fa))
    {t_MOST_SIGNS : Tok}
    {t_SIGNS : Tok}
    {f_law_pool : Addr} {od_law_pool an_law_pool : Option Addr} {sl_law_pool : Array (Option Value)} {oc_law_pool kV_law_pool dc_law_pool pm_law_pool cd_law_pool ct_law_pool : Value}
    {f_law_take : Addr} {od_law_take an_law_take : Option Addr} {sl_law_take : Array (Option Value)} {oc_law_take kV_law_take dc_law_take pm_law_take cd_law_take ct_law_take : Value}
    {f_law_turned : Addr} {od_law_turned an_law_turned : Option Addr} {sl_law_turned : Array (Option Value)} {oc_law_turned kV_law_turned dc_law_turned pm_law_turned cd_law_turned ct_law_turned : Value}
    {f_law_row : Addr} {od_law_row an_law_row : Option Addr} {sl_law_row : Array (Option Value)} {oc_law_row kV_law_row dc_law_row pm_law_row cd_law_row ct_law_row : Value}
    {f_is_row_within : Addr} {od_is_row_within an_is_row_within : Option Addr} {sl_is_row_within : Array (Option Value)} {oc_is_row_within kV_is_row_within dc_is_row_within pm_is_row_within cd_is_row_within ct_is_row_within : Value}
    {f_is_row : Addr} {od_is_row an_is_row : Option Addr} {sl_is_row : Array (Option Value)} {oc_is_row kV_is_row dc_is_row pm_is_row cd_is_row ct_is_row : Value}
    {f_look_at_row : Addr} {od_look_at_row an_look_at_row : Option Addr} {sl_look_at_row : Array (Option Value)} {oc_look_at_row kV_look_at_row dc_look_at_row pm_look_at_row cd_look_at_row ct_look_at_row : Value}
    {f_contrary_sign : Addr} {od_contrary_sign an_contrary_sign : Option Addr} {sl_contrary_sign : Array (Option Value)} {oc_contrary_sign kV_contrary_sign dc_contrary_sign pm_contrary_sign cd_contrary_sign ct_contrary_sign : Value}
    {f_turned : Addr} {od_turned an_turned : Option Addr} {sl_turned : Array (Option Value)} {oc_turned kV_turned dc_turned pm_turned cd_turned ct_turned : Value}
    {f_contrary : Addr} {od_contrary an_contrary : Option Addr} {sl_contrary : Array (Option Value)} {oc_contrary kV_contrary dc_contrary pm_contrary cd_contrary ct_contrary : Value}
    {f_law_taken_out : Addr} {od_law_taken_out an_law_taken_out : Option Addr} {sl_law_taken_out : Array (Option Value)} {oc_law_taken_out kV_law_taken_out dc_law_taken_out pm_law_taken_out cd_law_taken_out ct_law_taken_out : Value}
    {f_made_plain : Addr} {od_made_plain an_made_plain : Option Addr} {sl_made_plain : Array (Option Value)} {oc_made_plain kV_made_plain dc_made_plain pm_made_plain cd_made_plain ct_made_plain : Value}
    {f_plain : Addr} {od_plain an_plain : Option Addr} {sl_plain : Array (Option Value)} {oc_plain kV_plain dc_plain pm_plain cd_plain ct_plain : Value}
    {f_deeds_of : Addr} {od_deeds_of an_deeds_of : Option Addr} {sl_deeds_of : Array (Option Value)} {oc_deeds_of kV_deeds_of dc_deeds_of pm_deeds_of cd_deeds_of ct_deeds_of : Value}
    {f_law : Addr} {od_law an_law : Option Addr} {sl_law : Array (Option Value)} {oc_law kV_law dc_law pm_law cd_law ct_law : Value}
    (z_all : PySem.W.nsIn K mainGlobals "all" = some none)
    (z_int : PySem.W.nsIn K mainGlobals "int" = some none)
    (z_isinstance : PySem.W.nsIn K mainGlobals "isinstance" = some none)
    (z_len : PySem.W.nsIn K mainGlobals "len" = some none)
    (z_list : PySem.W.nsIn K mainGlobals "list" = some none)
    (z_max : PySem.W.nsIn K mainGlobals "max" = some none)
    (z_min : PySem.W.nsIn K mainGlobals "min" = some none)
    (z_range : PySem.W.nsIn K mainGlobals "range" = some none)
    (z_set : PySem.W.nsIn K mainGlobals "set" = some none)
    (z_sorted : PySem.W.nsIn K mainGlobals "sorted" = some none)
    (z_str : PySem.W.nsIn K mainGlobals "str" = some none)
    (z_tuple : PySem.W.nsIn K mainGlobals "tuple" = some none)
    (n_MOST_SIGNS : PySem.W.nsIn K mainGlobals "MOST_SIGNS" = some (some (.int 60 t_MOST_SIGNS)))
    (n_SIGNS : PySem.W.nsIn K mainGlobals "SIGNS" = some (some (.str "aAbBcCdDeEfF" t_SIGNS)))
    (a_law_pool : PySem.W.nsIn K mainGlobals "_law_pool" = some (some (.ref f_law_pool)))
    (l_law_pool : K.lookup f_law_pool = some ⟨oc_law_pool, od_law_pool, .func (PySem.W.fnOf "_law_pool" "_law_pool" (defArgs s_law_pool) (defBody s_law_pool) (defScope s_law_pool) .none kV_law_pool dc_law_pool pm_law_pool an_law_pool cd_law_pool ct_law_pool), sl_law_pool⟩)
    (c_law_pool : PySem.W.codeIn K cd_law_pool "_law_pool" = true)
    (k_law_pool : PySem.W.keepIn K (.ref f_law_pool) = true)
    (a_law_take : PySem.W.nsIn K mainGlobals "_law_take" = some (some (.ref f_law_take)))
    (l_law_take : K.lookup f_law_take = some ⟨oc_law_take, od_law_take, .func (PySem.W.fnOf "_law_take" "_law_take" (defArgs s_law_take) (defBody s_law_take) (defScope s_law_take) .none kV_law_take dc_law_take pm_law_take an_law_take cd_law_take ct_law_take), sl_law_take⟩)
    (c_law_take : PySem.W.codeIn K cd_law_take "_law_take" = true)
    (k_law_take : PySem.W.keepIn K (.ref f_law_take) = true)
    (a_law_turned : PySem.W.nsIn K mainGlobals "_law_turned" = some (some (.ref f_law_turned)))
    (l_law_turned : K.lookup f_law_turned = some ⟨oc_law_turned, od_law_turned, .func (PySem.W.fnOf "_law_turned" "_law_turned" (defArgs s_law_turned) (defBody s_law_turned) (defScope s_law_turned) .none kV_law_turned dc_law_turned pm_law_turned an_law_turned cd_law_turned ct_law_turned), sl_law_turned⟩)
    (c_law_turned : PySem.W.codeIn K cd_law_turned "_law_turned" = true)
    (k_law_turned : PySem.W.keepIn K (.ref f_law_turned) = true)
    (a_law_row : PySem.W.nsIn K mainGlobals "_law_row" = some (some (.ref f_law_row)))
    (l_law_row : K.lookup f_law_row = some ⟨oc_law_row, od_law_row, .func (PySem.W.fnOf "_law_row" "_law_row" (defArgs s_law_row) (defBody s_law_row) (defScope s_law_row) .none kV_law_row dc_law_row pm_law_row an_law_row cd_law_row ct_law_row), sl_law_row⟩)
    (c_law_row : PySem.W.codeIn K cd_law_row "_law_row" = true)
    (k_law_row : PySem.W.keepIn K (.ref f_law_row) = true)
    (a_is_row_within : PySem.W.nsIn K mainGlobals "is_row_within" = some (some (.ref f_is_row_within)))
    (l_is_row_within : K.lookup f_is_row_within = some ⟨oc_is_row_within, od_is_row_within, .func (PySem.W.fnOf "is_row_within" "is_row_within" (defArgs s_is_row_within) (defBody s_is_row_within) (defScope s_is_row_within) .none kV_is_row_within dc_is_row_within pm_is_row_within an_is_row_within cd_is_row_within ct_is_row_within), sl_is_row_within⟩)
    (c_is_row_within : PySem.W.codeIn K cd_is_row_within "is_row_within" = true)
    (k_is_row_within : PySem.W.keepIn K (.ref f_is_row_within) = true)
    (a_is_row : PySem.W.nsIn K mainGlobals "is_row" = some (some (.ref f_is_row)))
    (l_is_row : K.lookup f_is_row = some ⟨oc_is_row, od_is_row, .func (PySem.W.fnOf "is_row" "is_row" (defArgs s_is_row) (defBody s_is_row) (defScope s_is_row) .none kV_is_row dc_is_row pm_is_row an_is_row cd_is_row ct_is_row), sl_is_row⟩)
    (c_is_row : PySem.W.codeIn K cd_is_row "is_row" = true)
    (k_is_row : PySem.W.keepIn K (.ref f_is_row) = true)
    (a_look_at_row : PySem.W.nsIn K mainGlobals "look_at_row" = some (some (.ref f_look_at_row)))
    (l_look_at_row : K.lookup f_look_at_row = some ⟨oc_look_at_row, od_look_at_row, .func (PySem.W.fnOf "look_at_row" "look_at_row" (defArgs s_look_at_row) (defBody s_look_at_row) (defScope s_look_at_row) .none kV_look_at_row dc_look_at_row pm_look_at_row an_look_at_row cd_look_at_row ct_look_at_row), sl_look_at_row⟩)
    (c_look_at_row : PySem.W.codeIn K cd_look_at_row "look_at_row" = true)
    (k_look_at_row : PySem.W.keepIn K (.ref f_look_at_row) = true)
    (a_contrary_sign : PySem.W.nsIn K mainGlobals "contrary_sign" = some (some (.ref f_contrary_sign)))
    (l_contrary_sign : K.lookup f_contrary_sign = some ⟨oc_contrary_sign, od_contrary_sign, .func (PySem.W.fnOf "contrary_sign" "contrary_sign" (defArgs s_contrary_sign) (defBody s_contrary_sign) (defScope s_contrary_sign) .none kV_contrary_sign dc_contrary_sign pm_contrary_sign an_contrary_sign cd_contrary_sign ct_contrary_sign), sl_contrary_sign⟩)
    (c_contrary_sign : PySem.W.codeIn K cd_contrary_sign "contrary_sign" = true)
    (k_contrary_sign : PySem.W.keepIn K (.ref f_contrary_sign) = true)
    (a_turned : PySem.W.nsIn K mainGlobals "turned" = some (some (.ref f_turned)))
    (l_turned : K.lookup f_turned = some ⟨oc_turned, od_turned, .func (PySem.W.fnOf "turned" "turned" (defArgs s_turned) (defBody s_turned) (defScope s_turned) .none kV_turned dc_turned pm_turned an_turned cd_turned ct_turned), sl_turned⟩)
    (c_turned : PySem.W.codeIn K cd_turned "turned" = true)
    (k_turned : PySem.W.keepIn K (.ref f_turned) = true)
    (a_contrary : PySem.W.nsIn K mainGlobals "contrary" = some (some (.ref f_contrary)))
    (l_contrary : K.lookup f_contrary = some ⟨oc_contrary, od_contrary, .func (PySem.W.fnOf "contrary" "contrary" (defArgs s_contrary) (defBody s_contrary) (defScope s_contrary) .none kV_contrary dc_contrary pm_contrary an_contrary cd_contrary ct_contrary), sl_contrary⟩)
    (c_contrary : PySem.W.codeIn K cd_contrary "contrary" = true)
    (k_contrary : PySem.W.keepIn K (.ref f_contrary) = true)
    (a_law_taken_out : PySem.W.nsIn K mainGlobals "_law_taken_out" = some (some (.ref f_law_taken_out)))
    (l_law_taken_out : K.lookup f_law_taken_out = some ⟨oc_law_taken_out, od_law_taken_out, .func (PySem.W.fnOf "_law_taken_out" "_law_taken_out" (defArgs s_law_taken_out) (defBody s_law_taken_out) (defScope s_law_taken_out) .none kV_law_taken_out dc_law_taken_out pm_law_taken_out an_law_taken_out cd_law_taken_out ct_law_taken_out), sl_law_taken_out⟩)
    (c_law_taken_out : PySem.W.codeIn K cd_law_taken_out "_law_taken_out" = true)
    (k_law_taken_out : PySem.W.keepIn K (.ref f_law_taken_out) = true)
    (a_made_plain : PySem.W.nsIn K mainGlobals "made_plain" = some (some (.ref f_made_plain)))
    (l_made_plain : K.lookup f_made_plain = some ⟨oc_made_plain, od_made_plain, .func (PySem.W.fnOf "made_plain" "made_plain" (defArgs s_made_plain) (defBody s_made_plain) (defScope s_made_plain) .none kV_made_plain dc_made_plain pm_made_plain an_made_plain cd_made_plain ct_made_plain), sl_made_plain⟩)
    (c_made_plain : PySem.W.codeIn K cd_made_plain "made_plain" = true)
    (k_made_plain : PySem.W.keepIn K (.ref f_made_plain) = true)
    (a_plain : PySem.W.nsIn K mainGlobals "plain" = some (some (.ref f_plain)))
    (l_plain : K.lookup f_plain = some ⟨oc_plain, od_plain, .func (PySem.W.fnOf "plain" "plain" (defArgs s_plain) (defBody s_plain) (defScope s_plain) .none kV_plain dc_plain pm_plain an_plain cd_plain ct_plain), sl_plain⟩)
    (c_plain : PySem.W.codeIn K cd_plain "plain" = true)
    (k_plain : PySem.W.keepIn K (.ref f_plain) = true)
    (a_deeds_of : PySem.W.nsIn K mainGlobals "deeds_of" = some (some (.ref f_deeds_of)))
    (l_deeds_of : K.lookup f_deeds_of = some ⟨oc_deeds_of, od_deeds_of, .func (PySem.W.fnOf "deeds_of" "deeds_of" (defArgs s_deeds_of) (defBody s_deeds_of) (defScope s_deeds_of) .none kV_deeds_of dc_deeds_of pm_deeds_of an_deeds_of cd_deeds_of ct_deeds_of), sl_deeds_of⟩)
    (c_deeds_of : PySem.W.codeIn K cd_deeds_of "deeds_of" = true)
    (k_deeds_of : PySem.W.keepIn K (.ref f_deeds_of) = true)
    (a_law : PySem.W.nsIn K mainGlobals "law" = some (some (.ref f_law)))
    (l_law : K.lookup f_law = some ⟨oc_law, od_law, .func (PySem.W.fnOf "law" "law" (defArgs s_law) (defBody s_law) (defScope s_law) .none kV_law dc_law pm_law an_law cd_law ct_law), sl_law⟩)
    (c_law : PySem.W.codeIn K cd_law "law" = true)
    (k_law : PySem.W.keepIn K (.ref f_law) = true) :
    ∃ fd : FuncData, (∀ (s : Shared) (v : Value), BindsTo s fd ⟨[v], []⟩ [("_law_script", v)]) ∧ ∀ base : Heap, K.In base → base.Ns mainGlobals mg → FnOk l.prog w K mg base CX0 5 fa fd ["_law_script"] (sp_law K) := by
  have e := hfa.symm.trans (PySem.W.mg_of X G a_law)
  cases e
  have T : Txt K mg := ⟨PySem.W.mg_none_of X G z_all, PySem.W.mg_none_of X G z_int, PySem.W.mg_none_of X G z_isinstance, PySem.W.mg_none_of X G z_len, PySem.W.mg_none_of X G z_list, PySem.W.mg_none_of X G z_max, PySem.W.mg_none_of X G z_min, PySem.W.mg_none_of X G z_range, PySem.W.mg_none_of X G z_set, PySem.W.mg_none_of X G z_sorted, PySem.W.mg_none_of X G z_str, PySem.W.mg_none_of X G z_tuple, ⟨_, PySem.W.mg_of X G n_MOST_SIGNS, ⟨_, rfl⟩⟩, ⟨_, PySem.W.mg_of X G n_SIGNS, ⟨_, rfl⟩⟩⟩
  have F_law_pool := fun_mk (st := s_law_pool) l_law_pool c_law_pool k_law_pool
  have b_law_pool := F_law_pool.binds (ps := ["_law_script", "_law_k"]) fun _ _ _ _ _ _ us hl => match us, hl with | [_, _], _ => rfl
  have F_law_take := fun_mk (st := s_law_take) l_law_take c_law_take k_law_take
  have b_law_take := F_law_take.binds (ps := ["_law_pool_here", "_law_many"]) fun _ _ _ _ _ _ us hl => match us, hl with | [_, _], _ => rfl
  have F_law_turned := fun_mk (st := s_law_turned) l_law_turned c_law_turned k_law_turned
  have b_law_turned := F_law_turned.binds (ps := ["_law_text"]) fun _ _ _ _ _ _ us hl => match us, hl with | [_], _ => rfl
  have F_law_row := fun_mk (st := s_law_row) l_law_row c_law_row k_law_row
  have b_law_row := F_law_row.binds (ps := ["_law_pool_here", "_law_most", "_law_deeds"]) fun _ _ _ _ _ _ us hl => match us, hl with | [_, _, _], _ => rfl
  have F_is_row_within := fun_mk (st := s_is_row_within) l_is_row_within c_is_row_within k_is_row_within
  have b_is_row_within := F_is_row_within.binds (ps := ["thing", "most"]) fun _ _ _ _ _ _ us hl => match us, hl with | [_, _], _ => rfl
  have F_is_row := fun_mk (st := s_is_row) l_is_row c_is_row k_is_row
  have b_is_row := F_is_row.binds (ps := ["thing"]) fun _ _ _ _ _ _ us hl => match us, hl with | [_], _ => rfl
  have F_look_at_row := fun_mk (st := s_look_at_row) l_look_at_row c_look_at_row k_look_at_row
  have b_look_at_row := F_look_at_row.binds (ps := ["thing"]) fun _ _ _ _ _ _ us hl => match us, hl with | [_], _ => rfl
  have F_contrary_sign := fun_mk (st := s_contrary_sign) l_contrary_sign c_contrary_sign k_contrary_sign
  have b_contrary_sign := F_contrary_sign.binds (ps := ["sign"]) fun _ _ _ _ _ _ us hl => match us, hl with | [_], _ => rfl
  have F_turned := fun_mk (st := s_turned) l_turned c_turned k_turned
  have b_turned := F_turned.binds (ps := ["text"]) fun _ _ _ _ _ _ us hl => match us, hl with | [_], _ => rfl
  have F_contrary := fun_mk (st := s_contrary) l_contrary c_contrary k_contrary
  have b_contrary := F_contrary.binds (ps := ["row"]) fun _ _ _ _ _ _ us hl => match us, hl with | [_], _ => rfl
  have F_law_taken_out := fun_mk (st := s_law_taken_out) l_law_taken_out c_law_taken_out k_law_taken_out
  have b_law_taken_out := F_law_taken_out.binds (ps := ["_law_text"]) fun _ _ _ _ _ _ us hl => match us, hl with | [_], _ => rfl
  have F_made_plain := fun_mk (st := s_made_plain) l_made_plain c_made_plain k_made_plain
  have b_made_plain := F_made_plain.binds (ps := ["text"]) fun _ _ _ _ _ _ us hl => match us, hl with | [_], _ => rfl
  have F_plain := fun_mk (st := s_plain) l_plain c_plain k_plain
  have b_plain := F_plain.binds (ps := ["row"]) fun _ _ _ _ _ _ us hl => match us, hl with | [_], _ => rfl
  have F_deeds_of := fun_mk (st := s_deeds_of) l_deeds_of c_deeds_of k_deeds_of
  have b_deeds_of := F_deeds_of.binds (ps := ["row"]) fun _ _ _ _ _ _ us hl => match us, hl with | [_], _ => rfl
  have F_law := fun_mk (st := s_law) l_law c_law k_law
  refine ⟨PySem.W.fnOf "law" "law" (defArgs s_law) (defBody s_law) (defScope s_law) .none kV_law dc_law pm_law an_law cd_law ct_law, fun s v => .of_eq rfl, fun base _ _ => ?_⟩
  have N_law_pool : KN l.prog w K mg base CX0 1 ["_law_script", "_law_k"] (sp_law_pool K) "_law_pool" [] := ⟨_, _, [], PySem.W.mg_of X G a_law_pool, k_law_pool, .nil, b_law_pool, ok_law_pool F_law_pool T⟩
  have N_law_take : KN l.prog w K mg base CX0 1 ["_law_pool_here", "_law_many"] (sp_law_take) "_law_take" [] := ⟨_, _, [], PySem.W.mg_of X G a_law_take, k_law_take, .nil, b_law_take, ok_law_take F_law_take T⟩
  have N_law_turned : KN l.prog w K mg base CX0 1 ["_law_text"] (sp_law_turned) "_law_turned" [] := ⟨_, _, [], PySem.W.mg_of X G a_law_turned, k_law_turned, .nil, b_law_turned, ok_law_turned F_law_turned T⟩
  have N_law_row : KN l.prog w K mg base CX0 2 ["_law_pool_here", "_law_most", "_law_deeds"] (sp_law_row) "_law_row" [] := ⟨_, _, [], PySem.W.mg_of X G a_law_row, k_law_row, .nil, b_law_row, ok_law_row F_law_row T N_law_take N_law_turned⟩
  have N_is_row_within : KN l.prog w K mg base CX0 1 ["thing", "most"] (sp_is_row_within) "is_row_within" [] := ⟨_, _, [], PySem.W.mg_of X G a_is_row_within, k_is_row_within, .nil, b_is_row_within, ok_is_row_within F_is_row_within T⟩
  have N_is_row : KN l.prog w K mg base CX0 2 ["thing"] (sp_is_row) "is_row" [] := ⟨_, _, [], PySem.W.mg_of X G a_is_row, k_is_row, .nil, b_is_row, ok_is_row F_is_row T N_is_row_within⟩
  have N_look_at_row : KN l.prog w K mg base CX0 3 ["thing"] (sp_look_at_row) "look_at_row" [] := ⟨_, _, [], PySem.W.mg_of X G a_look_at_row, k_look_at_row, .nil, b_look_at_row, ok_look_at_row F_look_at_row T N_is_row⟩
  have N_contrary_sign : KN l.prog w K mg base CX0 1 ["sign"] (sp_contrary_sign) "contrary_sign" [] := ⟨_, _, [], PySem.W.mg_of X G a_contrary_sign, k_contrary_sign, .nil, b_contrary_sign, ok_contrary_sign F_contrary_sign T⟩
  have N_turned : KN l.prog w K mg base CX0 2 ["text"] (sp_turned) "turned" [] := ⟨_, _, [], PySem.W.mg_of X G a_turned, k_turned, .nil, b_turned, ok_turned F_turned T N_contrary_sign⟩
  have N_contrary : KN l.prog w K mg base CX0 4 ["row"] (sp_contrary) "contrary" [] := ⟨_, _, [], PySem.W.mg_of X G a_contrary, k_contrary, .nil, b_contrary, ok_contrary F_contrary T N_look_at_row N_turned⟩
  have N_law_taken_out : KN l.prog w K mg base CX0 2 ["_law_text"] (sp_law_taken_out) "_law_taken_out" [] := ⟨_, _, [], PySem.W.mg_of X G a_law_taken_out, k_law_taken_out, .nil, b_law_taken_out, ok_law_taken_out F_law_taken_out T N_law_turned⟩
  have N_made_plain : KN l.prog w K mg base CX0 2 ["text"] (sp_made_plain) "made_plain" [] := ⟨_, _, [], PySem.W.mg_of X G a_made_plain, k_made_plain, .nil, b_made_plain, ok_made_plain F_made_plain T N_contrary_sign⟩
  have N_plain : KN l.prog w K mg base CX0 4 ["row"] (sp_plain) "plain" [] := ⟨_, _, [], PySem.W.mg_of X G a_plain, k_plain, .nil, b_plain, ok_plain F_plain T N_look_at_row N_made_plain⟩
  have N_deeds_of : KN l.prog w K mg base CX0 4 ["row"] (sp_deeds_of K) "deeds_of" [] := ⟨_, _, [], PySem.W.mg_of X G a_deeds_of, k_deeds_of, .nil, b_deeds_of, ok_deeds_of F_deeds_of T N_look_at_row⟩
  exact ok_law F_law T N_law_pool N_law_row N_law_take N_contrary N_law_taken_out N_law_turned N_plain N_deeds_of
theorem walk {l : PySem.W.OpenLaw} {q : Program} {loose : List Str} {XP : (Str → Option Value) → Heap → Prop} {YP : World → Heap → Prop} {d : DefRec} {K : Params → PySem.W.Frag} (hn : l.most = some 63) (hdf : d.params.defaults = [])
    (hY : ∀ (w : World) (h : Heap), YP w h → (K w.params).In h)
    (F : ∀ (w : World) (mg : Str → Option Value) (fa : Addr) (h : Heap), (K w.params).In h → h.Ns mainGlobals mg → mg d.name = some (.ref fa) →
      ∃ fd : FuncData, (∀ (s : Shared) (u : Value), BindsTo s fd ⟨[u], []⟩ [("_law_script", u)]) ∧ ∀ base : Heap, (K w.params).In base → base.Ns mainGlobals mg → FnOk l.prog w (K w.params) mg base CX0 5 fa fd ["_law_script"] (sp_law (K w.params))) :
    PySem.W.WalkO q loose XP YP l.row.toRowW d [] (fun f vs => PySem.call f vs) :=
  L2.walk_of (n := 63) (k := 5) (x := "_law_script") (CX := fun _ => CX0) (sp := fun w => sp_law (K w.params)) hn (by decide) hdf ⟨rfl, by decide, by decide⟩ hY F (fun _ _ a ns hl _ hS => ⟨a, ns, rfl, hS, hl, fun _ => rfl⟩) fun _ _ _ _ _ z => z
end Toy

open PySem PySem.W PyProof.Rows in
set_option maxRecDepth 100000 in
set_option maxHeartbeats 0 in
theorem PySem.Challenge.cw_undotrees_k02_contrary_and_plain_holds : PySem.Challenge.rw_undotrees_k02_contrary_and_plain.Holds := by
  w_on; o_law; k_head; (case hw => w_witness2)
  k_fill
  refine Toy.walk (l := PySem.Challenge.rw_undotrees_k02_contrary_and_plain) rfl rfl (fun w h Y => PySem.W.kIn_of Y) ?F
  case F =>
    intro w mg fa h KX G hmg
    refine' Toy.all_mk KX G hmg ?z_all ?z_int ?z_isinstance ?z_len ?z_list ?z_max ?z_min ?z_range ?z_set ?z_sorted ?z_str ?z_tuple ?n_MOST_SIGNS ?n_SIGNS ?a_law_pool ?l_law_pool ?c_law_pool ?k_law_pool ?a_law_take ?l_law_take ?c_law_take ?k_law_take ?a_law_turned ?l_law_turned ?c_law_turned ?k_law_turned ?a_law_row ?l_law_row ?c_law_row ?k_law_row ?a_is_row_within ?l_is_row_within ?c_is_row_within ?k_is_row_within ?a_is_row ?l_is_row ?c_is_row ?k_is_row ?a_look_at_row ?l_look_at_row ?c_look_at_row ?k_look_at_row ?a_contrary_sign ?l_contrary_sign ?c_contrary_sign ?k_contrary_sign ?a_turned ?l_turned ?c_turned ?k_turned ?a_contrary ?l_contrary ?c_contrary ?k_contrary ?a_law_taken_out ?l_law_taken_out ?c_law_taken_out ?k_law_taken_out ?a_made_plain ?l_made_plain ?c_made_plain ?k_made_plain ?a_plain ?l_plain ?c_plain ?k_plain ?a_deeds_of ?l_deeds_of ?c_deeds_of ?k_deeds_of ?a_law ?l_law ?c_law ?k_law
    (case z_all => k_is)
    (case z_int => k_is)
    (case z_isinstance => k_is)
    (case z_len => k_is)
    (case z_list => k_is)
    (case z_max => k_is)
    (case z_min => k_is)
    (case z_range => k_is)
    (case z_set => k_is)
    (case z_sorted => k_is)
    (case z_str => k_is)
    (case z_tuple => k_is)
    (case n_MOST_SIGNS => k_is)
    (case n_SIGNS => k_is)
    (case a_law_pool => k_is)
    (case l_law_pool => k_is)
    (case c_law_pool => k_is)
    (case k_law_pool => k_is)
    (case a_law_take => k_is)
    (case l_law_take => k_is)
    (case c_law_take => k_is)
    (case k_law_take => k_is)
    (case a_law_turned => k_is)
    (case l_law_turned => k_is)
    (case c_law_turned => k_is)
    (case k_law_turned => k_is)
    (case a_law_row => k_is)
    (case l_law_row => k_is)
    (case c_law_row => k_is)
    (case k_law_row => k_is)
    (case a_is_row_within => k_is)
    (case l_is_row_within => k_is)
    (case c_is_row_within => k_is)
    (case k_is_row_within => k_is)
    (case a_is_row => k_is)
    (case l_is_row => k_is)
    (case c_is_row => k_is)
    (case k_is_row => k_is)
    (case a_look_at_row => k_is)
    (case l_look_at_row => k_is)
    (case c_look_at_row => k_is)
    (case k_look_at_row => k_is)
    (case a_contrary_sign => k_is)
    (case l_contrary_sign => k_is)
    (case c_contrary_sign => k_is)
    (case k_contrary_sign => k_is)
    (case a_turned => k_is)
    (case l_turned => k_is)
    (case c_turned => k_is)
    (case k_turned => k_is)
    (case a_contrary => k_is)
    (case l_contrary => k_is)
    (case c_contrary => k_is)
    (case k_contrary => k_is)
    (case a_law_taken_out => k_is)
    (case l_law_taken_out => k_is)
    (case c_law_taken_out => k_is)
    (case k_law_taken_out => k_is)
    (case a_made_plain => k_is)
    (case l_made_plain => k_is)
    (case c_made_plain => k_is)
    (case k_made_plain => k_is)
    (case a_plain => k_is)
    (case l_plain => k_is)
    (case c_plain => k_is)
    (case k_plain => k_is)
    (case a_deeds_of => k_is)
    (case l_deeds_of => k_is)
    (case c_deeds_of => k_is)
    (case k_deeds_of => k_is)
    (case a_law => k_is)
    (case l_law => k_is)
    (case c_law => k_is)
    (case k_law => k_is)

