import PyProof.Rows.All
import Wide.All
import OpenK.AllK
import Wide.FinOn
import HandS.ForMost
import HandS.Walk
import HandS.StrMore
import HandS.Replace
import HandS.IsInst
import HandS.Style
import HandS.Steps
import HandS.Evl
import HandS.Wide
import HandS.Defaults
import HandS.SortKw
import HandS.Codes
import HandS.More
import HandS.TryOnly
import KE.DataCmp
import KE.GoesZip
import KE.GoesMore
import KE.GoesEnum
import KE.SortKeyHeap
import KE.KRevSl
import PyProof.StrBlock2
import HandS.Ends
import PyProof.ReprRoads
import PyProof.CollectStr
import HandS.OwnEq
import OpenK.AllK
import PyProof.Logic
import HandS.ReplaceDef
import HandS.ReplaceList
import HandS.Dict
import HandS.Flow
import PySem.Challenge.RW_undotrees_k31_whole_all_shortest_rows
set_option Elab.async false
set_option linter.all false
set_option maxRecDepth 100000
set_option maxHeartbeats 4000000

namespace RowM
/-- the twelve signs, in their order -/
def sgns : List Nat := [97, 65, 98, 66, 99, 67, 100, 68, 101, 69, 102, 70]
def con (c : Nat) : Nat := if 97 ≤ c then c - 32 else c + 32
def ix (c : Nat) : Nat := sgns.idxOf c
def lo (c : Nat) : Nat := if 97 ≤ c then c else c + 32
def up (c : Nat) : Nat := if 97 ≤ c then c - 32 else c
abbrev Row (l : List Nat) : Prop := ∀ c ∈ l, c ∈ sgns
theorem con_mem {c : Nat} (h : c ∈ sgns) : con c ∈ sgns := by
  have : ∀ c ∈ sgns, con c ∈ sgns := by decide
  exact this c h
theorem con_con {c : Nat} (h : c ∈ sgns) : con (con c) = c := by
  have : ∀ c ∈ sgns, con (con c) = c := by decide
  exact this c h
theorem con_ne {c : Nat} (h : c ∈ sgns) : con c ≠ c := by
  have : ∀ c ∈ sgns, con c ≠ c := by decide
  exact this c h
theorem con_inj {a b : Nat} (ha : a ∈ sgns) (hb : b ∈ sgns) (h : con a = con b) : a = b := by
  rw [← con_con ha, h, con_con hb]
/-! ### stacks: the plain row, its last sign first -/
def push (st : List Nat) (c : Nat) : List Nat := match st with
  | [] => [c]
  | d :: r => if d = con c then r else c :: d :: r
theorem push_cons (d c : Nat) (r : List Nat) : push (d :: r) c = if d = con c then r else c :: d :: r := rfl
def act (w st : List Nat) : List Nat := w.foldl push st
def plain (w : List Nat) : List Nat := (act w []).reverse
def turn (w : List Nat) : List Nat := (w.reverse).map con
/-- no sign next to its contrary -/
def Red : List Nat → Prop
  | [] => True
  | [_] => True
  | a :: b :: r => b ≠ con a ∧ Red (b :: r)
theorem Red.tail {a : Nat} {r : List Nat} (h : Red (a :: r)) : Red r := by
  cases r with
  | nil => trivial
  | cons b r => exact h.2
theorem Row.tail {a : Nat} {r : List Nat} (h : Row (a :: r)) : Row r := fun c hc => h c (List.mem_cons_of_mem _ hc)
theorem Row.head {a : Nat} {r : List Nat} (h : Row (a :: r)) : a ∈ sgns := h a List.mem_cons_self
theorem push_row {st : List Nat} {c : Nat} (h : Row st) (hc : c ∈ sgns) : Row (push st c) := by
  cases st with
  | nil => intro d hd; simp [push] at hd; rw [hd]; exact hc
  | cons d r =>
    rw [push_cons]
    by_cases q : d = con c
    · rw [if_pos q]
      exact Row.tail h
    · rw [if_neg q]
      intro e he
      rcases List.mem_cons.mp he with rfl | he
      · exact hc
      · exact h e he
theorem push_red {st : List Nat} {c : Nat} (h : Red st) : Red (push st c) := by
  cases st with
  | nil => simp [push, Red]
  | cons d r =>
    rw [push_cons]
    by_cases q : d = con c
    · rw [if_pos q]
      exact h.tail
    · rw [if_neg q]
      exact ⟨q, h⟩
theorem push_push {st : List Nat} {c : Nat} (h : Red st) (hc : c ∈ sgns) : push (push st c) (con c) = st := by
  cases st with
  | nil => simp [push, con_con hc]
  | cons d r =>
    by_cases e : d = con c
    · simp only [push, if_pos e]
      cases r with
      | nil => simp [e]
      | cons b r =>
        have hb : b ≠ c := by
          intro q
          have := h.1
          rw [e, con_con hc] at this
          exact this q
        simp only [con_con hc, if_neg hb, e]
    · simp only [push, if_neg e, con_con hc, if_pos]
theorem push_push' {st : List Nat} {c : Nat} (h : Red st) (hc : c ∈ sgns) : push (push st (con c)) c = st := by
  have := push_push (c := con c) h (con_mem hc)
  rw [con_con hc] at this
  exact this
theorem act_append (u v st : List Nat) : act (u ++ v) st = act v (act u st) := by simp [act, List.foldl_append]
theorem act_cons (a : Nat) (w st : List Nat) : act (a :: w) st = act w (push st a) := rfl
theorem act_row : ∀ (w st : List Nat), Row w → Row st → Row (act w st)
  | [], _, _, h => h
  | a :: w, st, hw, h => act_row w (push st a) (Row.tail hw) (push_row h (Row.head hw))
theorem act_red : ∀ (w st : List Nat), Red st → Red (act w st)
  | [], _, h => h
  | a :: w, st, h => act_red w (push st a) (push_red h)
theorem turn_cons (a : Nat) (w : List Nat) : turn (a :: w) = turn w ++ [con a] := by simp [turn]
theorem turn_append (u v : List Nat) : turn (u ++ v) = turn v ++ turn u := by simp [turn]
theorem turn_row {w : List Nat} (h : Row w) : Row (turn w) := by
  intro c hc
  simp only [turn, List.mem_map, List.mem_reverse] at hc
  obtain ⟨d, hd, rfl⟩ := hc
  exact con_mem (h d hd)
theorem turn_turn {w : List Nat} (h : Row w) : turn (turn w) = w := by
  unfold turn
  rw [← List.map_reverse, List.reverse_reverse, List.map_map]
  conv => rhs; rw [← List.map_id w]
  exact List.map_congr_left fun c hc => con_con (h c hc)
theorem turn_length (w : List Nat) : (turn w).length = w.length := by simp [turn]
theorem act_turn : ∀ {w st : List Nat}, Row w → Red st → act (turn w) (act w st) = st
  | [], _, _, _ => rfl
  | a :: w, st, hw, h => by
    rw [turn_cons, act_append]
    have e : act (a :: w) st = act w (push st a) := rfl
    rw [e, act_turn (Row.tail hw) (push_red h)]
    exact push_push h (Row.head hw)
theorem act_turn' {w st : List Nat} (hw : Row w) (h : Red st) : act w (act (turn w) st) = st := by
  have := act_turn (turn_row hw) h
  rw [turn_turn hw] at this
  exact this
/-- an unplain pair goes -/
theorem act_pair {c : Nat} {u v st : List Nat} (hc : c ∈ sgns) (h : Red st) : act (u ++ c :: con c :: v) st = act (u ++ v) st := by
  rw [act_append, act_append]
  show act v (push (push (act u st) c) (con c)) = _
  rw [push_push (act_red _ _ h) hc]
theorem act_pair' {c : Nat} {u v st : List Nat} (hc : c ∈ sgns) (h : Red st) : act (u ++ con c :: c :: v) st = act (u ++ v) st := by
  have := act_pair (c := con c) (u := u) (v := v) (con_mem hc) h
  rw [con_con hc] at this
  exact this
theorem Red.snoc_iff : ∀ {l : List Nat} {a b : Nat}, Red (l ++ [a, b]) ↔ Red (l ++ [a]) ∧ b ≠ con a
  | [], a, b => by simp [Red]
  | [x], a, b => by simp [Red, and_assoc]
  | x :: y :: l, a, b => by
    have := Red.snoc_iff (l := y :: l) (a := a) (b := b)
    simp only [List.cons_append] at this ⊢
    simp only [Red]
    constructor
    · rintro ⟨h1, h2⟩
      exact ⟨⟨h1, (this.mp h2).1⟩, (this.mp h2).2⟩
    · rintro ⟨⟨h1, h2⟩, h3⟩
      exact ⟨h1, this.mpr ⟨h2, h3⟩⟩
/-- a plain row as a stack: the same read backwards -/
theorem red_reverse : ∀ {l : List Nat}, Row l → (Red l ↔ Red l.reverse)
  | [], _ => by simp [Red]
  | [a], _ => by simp [Red]
  | a :: b :: r, h => by
    have ih := red_reverse (l := b :: r) (Row.tail h)
    rw [List.reverse_cons, List.reverse_cons, List.append_assoc]
    show Red (a :: b :: r) ↔ Red (r.reverse ++ [b, a])
    rw [Red.snoc_iff]
    rw [List.reverse_cons] at ih
    rw [← ih]
    show (b ≠ con a ∧ Red (b :: r)) ↔ _
    constructor
    · rintro ⟨h1, h2⟩
      refine ⟨h2, fun e => h1 ?_⟩
      rw [e, con_con (Row.head (Row.tail h))]
    · rintro ⟨h1, h2⟩
      refine ⟨fun e => h2 ?_, h1⟩
      rw [e, con_con (Row.head h)]
theorem red_drop : ∀ {l m : List Nat}, Red (l ++ m) → Red m
  | [], _, h => h
  | _ :: l, m, h => red_drop (l := l) (Red.tail h)
theorem act_of_red : ∀ {p st : List Nat}, Red (p.reverse ++ st) → act p st = p.reverse ++ st
  | [], _, _ => by simp [act]
  | a :: p, st, h => by
    have e : (a :: p).reverse ++ st = p.reverse ++ (a :: st) := by simp
    rw [e] at h ⊢
    show act p (push st a) = _
    have hp : push st a = a :: st := by
      cases st with
      | nil => rfl
      | cons d r =>
        have hr : Red (a :: d :: r) := red_drop h
        rw [push_cons, if_neg hr.1]
    rw [hp]
    exact act_of_red h
theorem plain_row {w : List Nat} (h : Row w) : Row (plain w) := fun c hc => act_row _ _ h (fun _ q => (by cases q)) c (List.mem_reverse.mp hc)
theorem plain_red {w : List Nat} (h : Row w) : Red (plain w) := by
  unfold plain
  exact (red_reverse (act_row _ _ h fun _ q => (by cases q))).mp (act_red w _ (by trivial))
theorem plain_of_red {w : List Nat} (h : Row w) (r : Red w) : plain w = w := by
  unfold plain
  rw [act_of_red (by rw [List.append_nil]; exact (red_reverse h).mp r), List.append_nil, List.reverse_reverse]
theorem plain_plain {w : List Nat} (h : Row w) : plain (plain w) = plain w := plain_of_red (plain_row h) (plain_red h)
theorem plain_pair {c : Nat} {u v : List Nat} (hc : c ∈ sgns) : plain (u ++ c :: con c :: v) = plain (u ++ v) := by
  unfold plain
  rw [act_pair hc (by trivial)]
theorem push_plain {w : List Nat} {c : Nat} : act (w ++ [c]) [] = push (act w []) c := by rw [act_append]; rfl
/-- a row and it made plain act alike on plain stacks -/
theorem act_plain_aux : ∀ {w : List Nat}, Row w → ∀ {st : List Nat}, Red st → Row st → act (plain w) st = act w st := by
  intro w
  generalize hn : w.length = n
  induction n generalizing w with
  | zero =>
    intro h st _ _
    have : w = [] := List.eq_nil_of_length_eq_zero hn
    subst this
    rfl
  | succ n ih =>
    intro h st hr hs
    obtain ⟨u, c, rfl⟩ : ∃ u c, w = u ++ [c] := ⟨w.dropLast, w.getLast (by intro e; simp [e] at hn), (List.dropLast_concat_getLast _).symm⟩
    have hu : Row u := fun d hd => h d (List.mem_append_left _ hd)
    have hc : c ∈ sgns := h c (by simp)
    have hl : u.length = n := by simp at hn; exact hn
    have e := ih hl hu hr hs
    rw [act_append]
    show act (plain (u ++ [c])) st = push (act u st) c
    rw [← e]
    unfold plain
    rw [push_plain]
    cases hst : act u [] with
    | nil => simp [push, act]
    | cons d r =>
      by_cases q : d = con c
      · simp only [push, if_pos q]
        have e2 : (d :: r).reverse = r.reverse ++ [d] := by simp
        rw [e2, act_append]
        show _ = push (push (act r.reverse st) d) c
        rw [q, push_push' (act_red _ _ hr) hc]
      · simp only [push, if_neg q]
        have e2 : (c :: d :: r).reverse = (d :: r).reverse ++ [c] := by simp
        rw [e2, act_append]
        rfl
theorem act_plain {w st : List Nat} (h : Row w) (hr : Red st) (hs : Row st) : act (plain w) st = act w st := act_plain_aux h hr hs
theorem nil_row : Row [] := fun _ q => (by cases q)
theorem plain_turn {w : List Nat} (h : Row w) : plain (turn w) = turn (plain w) := by
  have hp := plain_row h
  have rp : Red (turn (plain w)) := by
    unfold turn
    have : ∀ l : List Nat, Row l → Red l → Red (l.map con) := by
      intro l
      induction l with
      | nil => intros; trivial
      | cons a l ih =>
        cases l with
        | nil => intros; trivial
        | cons b l =>
          intro hl hr
          refine ⟨fun e => hr.1 ?_, ih (Row.tail hl) hr.2⟩
          have := con_inj (Row.head (Row.tail hl)) (con_mem (Row.head hl)) e
          exact this
    exact this _ (fun c hc => hp c (List.mem_reverse.mp hc)) ((red_reverse hp).mp (plain_red h))
  have e : act (turn w) [] = act (turn (plain w)) [] := by
    have h1 : act w (act (turn w) []) = [] := act_turn' h (by trivial)
    have r1 : Red (act (turn w) []) := act_red _ _ (by trivial)
    have w1 : Row (act (turn w) []) := act_row _ _ (turn_row h) nil_row
    rw [← act_plain h r1 w1] at h1
    have h2 := act_turn (w := plain w) (st := act (turn w) []) hp r1
    rw [h1] at h2
    exact h2.symm
  have e2 : plain (turn w) = plain (turn (plain w)) := by unfold plain at *; rw [e]
  rw [e2, plain_of_red (turn_row hp) rp]
theorem plain_there_back {u : List Nat} (h : Row u) : plain (u ++ turn u) = [] := by
  unfold plain
  rw [act_append, act_turn h (by trivial)]
  rfl
theorem push_length (st : List Nat) (c : Nat) : (push st c).length ≤ st.length + 1 := by
  cases st with
  | nil => simp [push]
  | cons d r =>
    rw [push_cons]
    by_cases q : d = con c
    · rw [if_pos q]; simp; omega
    · rw [if_neg q]; simp
theorem act_length : ∀ (w st : List Nat), (act w st).length ≤ st.length + w.length
  | [], st => by simp [act]
  | a :: w, st => by
    have := act_length w (push st a)
    have h2 := push_length st a
    show (act w (push st a)).length ≤ _
    simp only [List.length_cons]
    omega
theorem plain_length (w : List Nat) : (plain w).length ≤ w.length := by
  unfold plain
  rw [List.length_reverse]
  simpa using act_length w []
/-! ### the order of rows -/
def lexI : List Nat → List Nat → Bool
  | a :: l, b :: m => if a = b then lexI l m else decide (a < b)
  | _, _ => false
def aheadL : List Nat → List Nat → Bool
  | a :: l, b :: m => if a = b then aheadL l m else if lo a ≠ lo b then decide (lo a < lo b) else decide (97 ≤ a)
  | _, _ => false
def before (l m : List Nat) : Bool := if l.length = m.length then lexI (l.map ix) (m.map ix) else decide (l.length < m.length)
theorem ix_inj {a b : Nat} (ha : a ∈ sgns) (hb : b ∈ sgns) : ix a = ix b ↔ a = b := by
  have : ∀ a ∈ sgns, ∀ b ∈ sgns, (ix a = ix b ↔ a = b) := by decide
  exact this a ha b hb
theorem ix_lt {a b : Nat} (ha : a ∈ sgns) (hb : b ∈ sgns) (h : a ≠ b) : decide (ix a < ix b) = (if lo a ≠ lo b then decide (lo a < lo b) else decide (97 ≤ a)) := by
  have : ∀ a ∈ sgns, ∀ b ∈ sgns, a ≠ b → decide (ix a < ix b) = (if lo a ≠ lo b then decide (lo a < lo b) else decide (97 ≤ a)) := by decide
  exact this a ha b hb h
theorem ahead_lex : ∀ {l m : List Nat}, Row l → Row m → aheadL l m = lexI (l.map ix) (m.map ix)
  | [], _, _, _ => by simp [aheadL, lexI]
  | a :: l, [], _, _ => by simp [aheadL, lexI]
  | a :: l, b :: m, hl, hm => by
    have ih := ahead_lex (Row.tail hl) (Row.tail hm)
    simp only [aheadL, List.map_cons, lexI, ix_inj (Row.head hl) (Row.head hm)]
    by_cases e : a = b
    · rw [if_pos e, if_pos e, ih]
    · rw [if_neg e, if_neg e, ix_lt (Row.head hl) (Row.head hm) e]
theorem lexI_trans : ∀ {l m n : List Nat}, l.length = m.length → m.length = n.length → lexI l m = true → lexI m n = true → lexI l n = true
  | [], _, _, _, _, h, _ => by simp [lexI] at h
  | a :: l, [], _, h, _, _, _ => by simp at h
  | a :: l, b :: m, [], _, h, _, _ => by simp at h
  | a :: l, b :: m, c :: n, h1, h2, h3, h4 => by
    simp only [lexI] at h3 h4 ⊢
    have e1 : l.length = m.length := by simpa using h1
    have e2 : m.length = n.length := by simpa using h2
    by_cases p : a = b
    · subst p
      rw [if_pos rfl] at h3
      by_cases q : a = c
      · subst q
        rw [if_pos rfl] at h4 ⊢
        exact lexI_trans e1 e2 h3 h4
      · rw [if_neg q] at h4 ⊢
        exact h4
    · rw [if_neg p] at h3
      have h3' := of_decide_eq_true h3
      by_cases q : b = c
      · subst q
        rw [if_neg p]
        exact h3
      · rw [if_neg q] at h4
        have h4' := of_decide_eq_true h4
        have : a ≠ c := by omega
        rw [if_neg this]
        exact decide_eq_true (by omega)
theorem before_trans {l m n : List Nat} (h1 : before l m = true) (h2 : before m n = true) : before l n = true := by
  unfold before at *
  by_cases e1 : l.length = m.length
  · rw [if_pos e1] at h1
    by_cases e2 : m.length = n.length
    · rw [if_pos e2] at h2
      rw [if_pos (e1.trans e2)]
      exact lexI_trans (by simpa using e1) (by simpa using e2) h1 h2
    · rw [if_neg e2] at h2
      have := of_decide_eq_true h2
      rw [if_neg (by omega)]
      exact decide_eq_true (by omega)
  · rw [if_neg e1] at h1
    have h1' := of_decide_eq_true h1
    by_cases e2 : m.length = n.length
    · rw [if_neg (by omega)]
      exact decide_eq_true (by omega)
    · rw [if_neg e2] at h2
      have := of_decide_eq_true h2
      rw [if_neg (by omega)]
      exact decide_eq_true (by omega)
end RowM

namespace WalkM
open RowM
/-! ### places: a plain row goes on by a sign -/
def on (p : List Nat) (c : Nat) : List Nat := if p.getLast? = some (con c) then p.dropLast else p ++ [c]
theorem on_push (st : List Nat) (c : Nat) : on st.reverse c = (push st c).reverse := by
  cases st with
  | nil => simp [on, push]
  | cons d r =>
    unfold on
    rw [push_cons, List.getLast?_reverse, List.head?_cons]
    by_cases q : d = con c
    · rw [if_pos q, if_pos (by rw [q])]
      simp
    · rw [if_neg q, if_neg (by intro h; injection h with h; exact q h)]
      simp
theorem plain_snoc (w : List Nat) (c : Nat) : plain (w ++ [c]) = on (plain w) c := by
  unfold plain
  rw [act_append, on_push]
  rfl
theorem plain_nil : plain [] = [] := rfl
theorem foldl_on : ∀ (w p : List Nat), w.foldl on p = (act w p.reverse).reverse
  | [], p => by simp [act]
  | c :: w, p => by
    rw [List.foldl_cons, foldl_on w (on p c)]
    have e : (on p c).reverse = push p.reverse c := by
      have := on_push p.reverse c
      rw [List.reverse_reverse] at this
      rw [this, List.reverse_reverse]
    rw [e]
    rfl
theorem plain_fold (w : List Nat) : w.foldl on [] = plain w := foldl_on w []
/-- a plain row -/
def PRow (p : List Nat) : Prop := Row p ∧ Red p
theorem prow_plain {w : List Nat} (h : Row w) : PRow (plain w) := ⟨plain_row h, plain_red h⟩
theorem prow_nil : PRow [] := ⟨nil_row, trivial⟩
theorem plain_prow {p : List Nat} (h : PRow p) : plain p = p := plain_of_red h.1 h.2
theorem prow_iff {p : List Nat} (h : Row p) : plain p = p ↔ PRow p := ⟨fun e => e ▸ prow_plain h, plain_prow⟩
theorem prow_on {p : List Nat} {c : Nat} (h : PRow p) (hc : c ∈ sgns) : PRow (on p c) := by
  have e : on p c = plain (p ++ [c]) := by rw [plain_snoc, plain_prow h]
  rw [e]
  refine prow_plain fun d hd => ?_
  rcases List.mem_append.mp hd with q | q
  · exact h.1 d q
  · rw [List.mem_singleton.mp q]; exact hc
theorem on_plain {p : List Nat} (c : Nat) (h : PRow p) : plain (p ++ [c]) = on p c := by rw [plain_snoc, plain_prow h]
theorem red_init : ∀ {l m : List Nat}, Red (l ++ m) → Red l
  | [], _, _ => trivial
  | [_], _, _ => trivial
  | a :: b :: l, m, h => ⟨h.1, red_init (l := b :: l) (m := m) h.2⟩
theorem prow_drop {p : List Nat} (h : PRow p) : PRow p.dropLast := by
  refine ⟨fun c hc => h.1 c (List.dropLast_subset p hc), ?_⟩
  by_cases e : p = []
  · subst e; trivial
  · have := List.dropLast_concat_getLast e
    exact red_init (m := [p.getLast e]) (by rw [this]; exact h.2)
theorem on_length (p : List Nat) (c : Nat) : (on p c).length ≤ p.length + 1 := by
  unfold on
  split <;> simp
  omega
/-! ### the places of a row, in the order in which they come -/
def addK (ks : List (List Nat)) (p : List Nat) : List (List Nat) := if p ∈ ks then ks else ks ++ [p]
theorem mem_addK {ks : List (List Nat)} {p q : List Nat} : q ∈ addK ks p ↔ q ∈ ks ∨ q = p := by
  unfold addK
  split
  · rename_i h
    exact ⟨.inl, fun z => z.elim id fun e => e ▸ h⟩
  · simp
theorem addK_nodup {ks : List (List Nat)} {p : List Nat} (h : ks.Nodup) : (addK ks p).Nodup := by
  unfold addK
  split
  · exact h
  · rename_i q
    refine List.nodup_append.mpr ⟨h, by simp, ?_⟩
    intro a ha b hb e
    rw [List.mem_singleton.mp hb] at e
    exact q (e ▸ ha)
theorem addK_length (ks : List (List Nat)) (p : List Nat) : (addK ks p).length ≤ ks.length + 1 := by
  unfold addK
  split <;> simp
def goSt (l : List Nat) : List Nat × List (List Nat) := l.foldl (fun st c => (on st.1 c, addK st.2 (on st.1 c))) ([], [[]])
def gone (l : List Nat) : List (List Nat) := (goSt l).2
theorem goSt_snoc (l : List Nat) (c : Nat) : goSt (l ++ [c]) = (on (goSt l).1 c, addK (goSt l).2 (on (goSt l).1 c)) := by
  unfold goSt
  rw [List.foldl_append]
  rfl
theorem snoc_ind {P : List Nat → Prop} (h0 : P []) (h1 : ∀ l c, P l → P (l ++ [c])) (l : List Nat) : P l := by
  have : ∀ m : List Nat, P m.reverse := by
    intro m
    induction m with
    | nil => exact h0
    | cons a m ih => rw [List.reverse_cons]; exact h1 _ _ ih
  have q := this l.reverse
  rwa [List.reverse_reverse] at q
theorem goSt_fst (l : List Nat) : (goSt l).1 = plain l := by
  refine snoc_ind (P := fun l => (goSt l).1 = plain l) rfl (fun l c ih => ?_) l
  rw [goSt_snoc, plain_snoc, ih]
theorem gone_snoc (l : List Nat) (c : Nat) : gone (l ++ [c]) = addK (gone l) (on (plain l) c) := by
  unfold gone
  rw [goSt_snoc, goSt_fst]
theorem gone_nil : gone [] = [[]] := rfl
/-- a tree: plain rows, each once, with each also the one without its last sign -/
structure Tree (ts : List (List Nat)) : Prop where
  nd : ts.Nodup
  pr : ∀ p ∈ ts, PRow p
  cl : ∀ p ∈ ts, p ≠ [] → p.dropLast ∈ ts
theorem end_gone (l : List Nat) : plain l ∈ gone l := by
  refine snoc_ind (P := fun l => plain l ∈ gone l) (by simp [gone_nil, plain_nil]) (fun l c _ => ?_) l
  rw [gone_snoc, plain_snoc]
  exact mem_addK.mpr (.inr rfl)
theorem on_mem {ts : List (List Nat)} {p : List Nat} {c : Nat} (t : Tree ts) (hp : p ∈ ts) (ne : on p c ≠ p ++ [c]) : on p c ∈ ts := by
  unfold on at ne ⊢
  split
  · rename_i q
    exact t.cl p hp fun e => by rw [e] at q; cases q
  · rename_i q
    rw [if_neg q] at ne
    exact absurd rfl ne
theorem on_drop {p : List Nat} {c : Nat} (e : on p c = p ++ [c]) : (on p c).dropLast = p := by rw [e]; simp
theorem tree_gone {l : List Nat} (h : Row l) : Tree (gone l) := by
  refine snoc_ind (P := fun l => Row l → Tree (gone l)) (fun _ => ⟨by simp [gone_nil], fun p hp => ?_, fun p hp ne => ?_⟩) (fun l c ih h => ?_) l h
  · rw [gone_nil] at hp; rw [List.mem_singleton.mp hp]; exact prow_nil
  · rw [gone_nil] at hp; exact absurd (List.mem_singleton.mp hp) ne
  · have hl : Row l := fun d hd => h d (List.mem_append_left _ hd)
    have hc : c ∈ sgns := h c (by simp)
    have t := ih hl
    rw [gone_snoc]
    refine ⟨addK_nodup t.nd, fun p hp => ?_, fun p hp ne => ?_⟩
    · rcases mem_addK.mp hp with q | q
      · exact t.pr p q
      · rw [q]; exact prow_on (prow_plain hl) hc
    · rcases mem_addK.mp hp with q | q
      · exact mem_addK.mpr (.inl (t.cl p q ne))
      · by_cases e : on (plain l) c = plain l ++ [c]
        · rw [q, on_drop e]
          exact mem_addK.mpr (.inl (end_gone l))
        · have := on_mem t (end_gone l) e
          rw [q] at ne ⊢
          exact mem_addK.mpr (.inl (t.cl _ this ne))
theorem gone_length (l : List Nat) : (gone l).length ≤ l.length + 1 := by
  refine snoc_ind (P := fun l => (gone l).length ≤ l.length + 1) (by simp [gone_nil]) (fun l c ih => ?_) l
  rw [gone_snoc, List.length_append]
  have := addK_length (gone l) (on (plain l) c)
  simp only [List.length_singleton]
  omega
theorem gone_pos (l : List Nat) : 1 ≤ (gone l).length := by
  have := List.length_pos_of_mem (end_gone l)
  omega
theorem gone_small (l : List Nat) : ∀ p ∈ gone l, p.length ≤ l.length := by
  refine snoc_ind (P := fun l => ∀ p ∈ gone l, p.length ≤ l.length) (fun p hp => ?_) (fun l c ih p hp => ?_) l
  · rw [gone_nil] at hp; rw [List.mem_singleton.mp hp]; simp
  · rw [gone_snoc] at hp
    rw [List.length_append, List.length_singleton]
    rcases mem_addK.mp hp with q | q
    · have := ih p q; omega
    · have h1 := on_length (plain l) c
      have h2 := plain_length l
      rw [q]; omega
theorem nil_gone (l : List Nat) : [] ∈ gone l := by
  refine snoc_ind (P := fun l => [] ∈ gone l) (by simp [gone_nil]) (fun l c ih => ?_) l
  rw [gone_snoc]
  exact mem_addK.mpr (.inl ih)
/-! ### the order of rows -/
def leR (a b : List Nat) : Bool := !before b a
theorem lexI_asymm : ∀ {l m : List Nat}, lexI l m = true → lexI m l = false
  | [], _, h => by simp [lexI] at h
  | _ :: _, [], h => by simp [lexI] at h
  | a :: l, b :: m, h => by
    simp only [lexI] at h ⊢
    by_cases e : a = b
    · subst e
      rw [if_pos rfl] at h ⊢
      exact lexI_asymm h
    · rw [if_neg e] at h
      have := of_decide_eq_true h
      rw [if_neg (fun z => e z.symm)]
      exact decide_eq_false (by omega)
theorem lexI_eq : ∀ {l m : List Nat}, l.length = m.length → lexI l m = false → lexI m l = false → l = m
  | [], [], _, _, _ => rfl
  | [], _ :: _, h, _, _ => by simp at h
  | _ :: _, [], h, _, _ => by simp at h
  | a :: l, b :: m, h, h1, h2 => by
    simp only [lexI] at h1 h2
    by_cases e : a = b
    · subst e
      rw [if_pos rfl] at h1 h2
      rw [lexI_eq (by simpa using h) h1 h2]
    · rw [if_neg e] at h1
      rw [if_neg (fun z => e z.symm)] at h2
      have := of_decide_eq_false h1
      have := of_decide_eq_false h2
      omega
theorem before_asymm {l m : List Nat} (h : before l m = true) : before m l = false := by
  unfold before at *
  by_cases e : l.length = m.length
  · rw [if_pos e] at h
    rw [if_pos e.symm]
    exact lexI_asymm h
  · rw [if_neg e] at h
    rw [if_neg (fun z => e z.symm)]
    have := of_decide_eq_true h
    exact decide_eq_false (by omega)
theorem map_ix_inj : ∀ {l m : List Nat}, Row l → Row m → l.map ix = m.map ix → l = m
  | [], [], _, _, _ => rfl
  | [], _ :: _, _, _, h => by simp at h
  | _ :: _, [], _, _, h => by simp at h
  | a :: l, b :: m, h1, h2, h => by
    simp only [List.map_cons, List.cons.injEq] at h
    rw [(ix_inj (Row.head h1) (Row.head h2)).mp h.1, map_ix_inj (Row.tail h1) (Row.tail h2) h.2]
theorem before_eq {l m : List Nat} (hl : Row l) (hm : Row m) (h1 : before l m = false) (h2 : before m l = false) : l = m := by
  unfold before at *
  by_cases e : l.length = m.length
  · rw [if_pos e] at h1
    rw [if_pos e.symm] at h2
    exact map_ix_inj hl hm (lexI_eq (by simp [e]) h1 h2)
  · rw [if_neg e] at h1
    rw [if_neg (fun z => e z.symm)] at h2
    have := of_decide_eq_false h1
    have := of_decide_eq_false h2
    omega
theorem lexI_cotrans : ∀ {l m n : List Nat}, l.length = m.length → m.length = n.length → lexI l n = true → lexI l m = true ∨ lexI m n = true
  | [], _, _, _, _, h => by simp [lexI] at h
  | a :: l, [], _, h, _, _ => by simp at h
  | a :: l, b :: m, [], _, h, _ => by simp at h
  | a :: l, b :: m, c :: n, h1, h2, h => by
    simp only [lexI] at h ⊢
    by_cases e1 : a = b
    · subst e1
      by_cases e2 : a = c
      · subst e2
        rw [if_pos rfl] at h ⊢
        rw [if_pos rfl]
        exact lexI_cotrans (by simpa using h1) (by simpa using h2) h
      · rw [if_neg e2] at h ⊢
        exact .inr h
    · by_cases e2 : b = c
      · subst e2
        rw [if_neg e1] at h ⊢
        exact .inl h
      · by_cases e3 : a = c
        · subst e3
          rw [if_neg e1, if_neg e2]
          by_cases q : a < b
          · exact .inl (decide_eq_true q)
          · exact .inr (decide_eq_true (by omega))
        · rw [if_neg e3] at h
          rw [if_neg e1, if_neg e2]
          have := of_decide_eq_true h
          by_cases q : a < b
          · exact .inl (decide_eq_true q)
          · exact .inr (decide_eq_true (by omega))
theorem before_cotrans {l m n : List Nat} (h : before l n = true) : before l m = true ∨ before m n = true := by
  unfold before at *
  by_cases e1 : l.length = m.length
  · by_cases e2 : m.length = n.length
    · rw [if_pos (e1.trans e2)] at h
      rw [if_pos e1, if_pos e2]
      exact lexI_cotrans (by simp [e1]) (by simp [e2]) h
    · rw [if_neg (by omega)] at h
      have := of_decide_eq_true h
      rw [if_neg e2]
      exact .inr (decide_eq_true (by omega))
  · rw [if_neg e1]
    by_cases q : l.length < m.length
    · exact .inl (decide_eq_true q)
    · refine .inr ?_
      by_cases e2 : m.length = n.length
      · rw [if_neg (by omega)] at h
        have := of_decide_eq_true h
        omega
      · rw [if_neg e2]
        by_cases e3 : l.length = n.length
        · exact decide_eq_true (by omega)
        · rw [if_neg e3] at h
          have := of_decide_eq_true h
          exact decide_eq_true (by omega)
theorem leR_trans (a b c : List Nat) (h1 : leR a b = true) (h2 : leR b c = true) : leR a c = true := by
  unfold leR at *
  simp only [Bool.not_eq_true'] at *
  cases h : before c a with
  | false => rfl
  | true =>
    rcases before_cotrans (m := b) h with q | q
    · rw [q] at h2; cases h2
    · rw [q] at h1; cases h1
theorem leR_total (a b : List Nat) : (leR a b || leR b a) = true := by
  unfold leR
  cases h : before b a with
  | false => rfl
  | true => rw [before_asymm h]; rfl
def srt (ts : List (List Nat)) : List (List Nat) := ts.mergeSort leR
theorem srt_perm (ts : List (List Nat)) : (srt ts).Perm ts := List.mergeSort_perm _ _
theorem srt_mem {ts : List (List Nat)} {p : List Nat} : p ∈ srt ts ↔ p ∈ ts := (srt_perm ts).mem_iff
theorem srt_length (ts : List (List Nat)) : (srt ts).length = ts.length := (srt_perm ts).length_eq
theorem srt_pairwise (ts : List (List Nat)) : (srt ts).Pairwise (fun a b => leR a b = true) := List.pairwise_mergeSort (by exact leR_trans) (by exact leR_total) ts
theorem srt_nodup {ts : List (List Nat)} (h : ts.Nodup) : (srt ts).Nodup := (srt_perm ts).nodup_iff.mpr h
theorem srt_tree {ts : List (List Nat)} (t : Tree ts) : Tree (srt ts) := ⟨srt_nodup t.nd, fun p hp => t.pr p (srt_mem.mp hp), fun p hp ne => srt_mem.mpr (t.cl p (srt_mem.mp hp) ne)⟩
/-- one set of rows has one order -/
theorem srt_uniq {ts us : List (List Nat)} (h : ts.Perm us) (hr : ∀ p ∈ ts, Row p) : srt ts = srt us := by
  refine List.Perm.eq_of_pairwise (le := fun a b => leR a b = true) (fun a b ha hb h1 h2 => ?_) (srt_pairwise ts) (srt_pairwise us) ((srt_perm ts).trans (h.trans (srt_perm us).symm))
  have ra := hr a (srt_mem.mp ha)
  have rb := hr b (h.symm.mem_iff.mp (srt_mem.mp hb))
  unfold leR at h1 h2
  simp only [Bool.not_eq_true'] at h1 h2
  exact before_eq ra rb h2 h1
end WalkM

namespace L2
open PySem PySem.Spec PyProof.Rows
/-! ### rules beside the layer's own -/
section
variable {X : Cx}
/-- a constant of the module -/
theorem pe_globC {x : Str} {v : V} {pos : Pos} (h : ∃ u, X.mg x = some u ∧ RelV v u) (hg : Gl X x := by rfl) (hd : (x == ("__debug__" : Str)) = false := by decide) : PE X (.Name x pos) (tC v) := by
  obtain ⟨u, hm, r⟩ := h
  exact pe_glob hg hm r hd
/-- data that are alike: < -/
def rLtD (K : PySem.W.Frag) : R2 := fun x y H Q => ∃ d e, Dp K H x d ∧ Dp K H y e ∧ PySem.W.alike d e = true ∧ d ≠ .none ∧ min d.depth e.depth ≤ 60 ∧ Q (.bl (PySem.W.dataLt d e)) H
theorem op_ltD (hu : X.A.units + 64 < cLine) : OpR X (compareOp .Lt) (rLtD X.K) := by
  intro pins s σ H x y v u Q I rx ry h
  obtain ⟨d, e, hd, he, al, hn, hz, q⟩ := h
  obtain ⟨as, r1⟩ := Dp.reads I d x v hd rx
  obtain ⟨bs, r2⟩ := Dp.reads I e y u he ry
  exact PySem.W.lt_data r1 r2 al hn (by omega) ⟨.bl _, H, I, rfl, q⟩
/-- text[::-1] -/
def tRevS (te : TE) : TE := fun σ H Q => te σ H fun x H1 => ∃ z : Str, x = .str z ∧ z.length ≤ sizeLine ∧ Q (.str ⟨z.cps.toList.reverse.toArray⟩) H1
theorem pick_rev (z : Str) : ((Builtin.Str.strSliceIndices none none (-1) z.length).filterMap (z.cps[·]?)).toArray = z.cps.toList.reverse.toArray := by
  rw [PyProof.Rows.picked_rev]
  congr 1
  rw [PyProof.Rows.filterMap_get _ _ (fun i hi => by
    simp only [List.mem_map, List.mem_range] at hi
    obtain ⟨k, hk, rfl⟩ := hi
    have : z.length = z.cps.size := rfl
    omega)]
  apply List.ext_getElem
  · simp [Str.length]
  · intro i h1 h2
    simp only [List.length_map, List.length_range, Str.length] at h1
    simp only [List.map_map, List.getElem_map, List.getElem_range, List.getElem_reverse, Function.comp, Str.length, Array.length_toList]
    rw [Array.getD_eq_getD_getElem?]
    rw [Array.getElem?_eq_getElem (by omega)]
    simp
theorem pe_revS {e : Expr} {te : TE} {k : Nat} {p1 p2 p3 pos : Pos} (he : PE X e te) : PE X (.Subscript e (.Slice none none (some (.UnaryOp .USub (.Constant (.int 1) k p1) p2)) p3) pos) (tRevS te) := by
  refine ⟨fun pins s σ H Q I h => ?_⟩
  refine Subscript_ (thn (he.run pins s σ H _ I h) fun v s1 ⟨x, H1, I1, r1, q1⟩ => ?_)
  obtain ⟨z, ex, hz, q⟩ := q1
  subst ex
  obtain ⟨t, rfl⟩ := r1
  have hst : PO X (some (.UnaryOp .USub (.Constant (.int 1) k p1) p2)) (tPart (tUn (rU fun i => .int (-i)) (tC (.int 1)))) := po_some (pe_un un_neg pe_int)
  refine wpAny_Slice (thn (po_none.run pins s1 σ H1 (fun o H2 => o = none ∧ H2 = H1) I1 ⟨rfl, rfl⟩) fun vl s2 ⟨l, H2, I2, pl, el, e2⟩ => ?_)
  subst el e2
  refine thn (po_none.run pins s2 σ H2 (fun o H3 => o = none ∧ H3 = H2) I2 ⟨rfl, rfl⟩) fun vu s3 ⟨u, H3, I3, pu, eu, e3⟩ => ?_
  subst eu e3
  refine thn (hst.run pins s3 σ H3 (fun o H4 => o = some (-1) ∧ H4 = H3) I3 ⟨1, rfl, -1, rfl, rfl, rfl⟩) fun vs s4 ⟨o, H4, I4, ps, eo, e4⟩ => ?_
  subst eo e4
  obtain ⟨l1, rfl, hl1⟩ := IsPart.raw pl
  obtain ⟨u1, rfl, hu1⟩ := IsPart.raw pu
  obtain ⟨w1, rfl, hw1⟩ := IsPart.raw ps
  have I5 : Inv X pins σ H4 { s4 with heap := s4.heap.push { cls := .type "slice", data := .fields #[partValue l1, partValue u1, partValue w1] } } := I4.kept (t' := s4.toks) fun b ob q => Heap.get?_push_of_some _ q
  show wpAny (model X.prog X.w) X.A (subscriptTail e (.Slice none none (some (.UnaryOp .USub (.Constant (.int 1) k p1) p2)) p3) (.str z t) (.ref s4.heap.objs.size)) (EP X pins σ Q) X.xe { s4 with heap := s4.heap.push { cls := .type "slice", data := .fields #[partValue l1, partValue u1, partValue w1] } }
  refine tail_any (ops := [.str z t, .ref s4.heap.objs.size]) (typeIs_str _ _ _) F.slot_str_getitem.lookup ?_ (by with_unfolding_all rfl)
  refine wpAny_getItem_str_slice (l := l1) (u := u1) (st := w1) ⟨_, Heap.get?_push_size _ rfl, rfl, rfl⟩ (by rw [hw1]; rfl) ?_
  have hl : (⟨z.cps.toList.reverse.toArray⟩ : Str).length ≤ sizeLine := by
    show z.cps.toList.reverse.toArray.size ≤ sizeLine
    simpa [Str.length] using hz
  show Made.post (if ((w1.map (·.1)).getD 1 == 1 && (Builtin.Str.strSliceIndices (l1.map (·.1)) (u1.map (·.1)) ((w1.map (·.1)).getD 1) z.length).length == z.length) = true then Made.val (.str z t)
    else Made.str ⟨((Builtin.Str.strSliceIndices (l1.map (·.1)) (u1.map (·.1)) ((w1.map (·.1)).getD 1) z.length).filterMap (z.cps[·]?)).toArray⟩) (EP X pins σ Q) _
  rw [hl1, hu1, hw1]
  show Made.post (if ((-1 : Int) == 1 && (Builtin.Str.strSliceIndices none none (-1) z.length).length == z.length) = true then Made.val (.str z t)
    else Made.str ⟨((Builtin.Str.strSliceIndices none none (-1) z.length).filterMap (z.cps[·]?)).toArray⟩) (EP X pins σ Q) _
  rw [if_neg (by simp), pick_rev]
  exact ⟨hl, .str _, H4, I5.tok _, ⟨_, rfl⟩, q⟩
end
end L2

namespace L2
open PySem PySem.Spec PyProof.Rows
/-! ### zip of two texts -/
def Itzs (x y : Str) : It :=
  ⟨fun i _ => i < x.cps.size ∧ i < y.cps.size,
    fun i H v H' => ∃ T c d, v = .ref T ∧ H T = none ∧ H' = upd H T (.tup [.str ⟨#[c]⟩, .str ⟨#[d]⟩]) ∧ x.cps[i]? = some c ∧ y.cps[i]? = some d,
    fun i _ => (i ≤ x.cps.size ∧ i ≤ y.cps.size) ∧ (i = x.cps.size ∨ i = y.cps.size)⟩
theorem turn_zipS {P : Program} {w : World} {K : PySem.W.Frag} {elts : List Expr} {kk : Nat} {tpos : Pos} {z TI TO i1 i2 : Addr} (S : ZipSep2 z TI TO i1 i2 [i1] [i2]) (x y : Str) (t u : Tok) :
    Turn P w K (.Tuple elts kk tpos) (Itzs x y) [z, TI, TO, i1, i2] z
      (fun i h => IsZip h z TI TO .none ∧ IsTupOf2 h TI (.ref i1) (.ref i2) ∧ (∃ a b, IsTupOf2 h TO a b) ∧ h.IsStrIter i1 (strIterType x) x t i ∧ h.IsStrIter i2 (strIterType y) y u i) where
  mem := by simp
  obj := fun i h st c hc => by
    obtain ⟨hz, hTI, ⟨a, b, hTO⟩, ⟨o1, e1, _, d1⟩, ⟨o2, e2, _, d2⟩⟩ := st
    have e' : c = z ∨ c = TI ∨ c = TO ∨ c = i1 ∨ c = i2 := by simpa using hc
    rcases e' with q | q | q | q | q
    · rw [q]; exact ⟨_, hz, fun v q => nomatch q⟩
    · rw [q]; exact ⟨_, hTI, fun v q => nomatch q⟩
    · rw [q]; exact ⟨_, hTO, fun v q => nomatch q⟩
    · rw [q]; exact ⟨o1, e1, fun v q => by rw [d1] at q; cases q⟩
    · rw [q]; exact ⟨o2, e2, fun v q => by rw [d2] at q; cases q⟩
  keep := fun i h h' st k => by
    obtain ⟨hz, hTI, ⟨a, b, hTO⟩, ⟨o1, e1, r1⟩, ⟨o2, e2, r2⟩⟩ := st
    exact ⟨k z (by simp) _ hz, k TI (by simp) _ hTI, ⟨a, b, k TO (by simp) _ hTO⟩, ⟨o1, k i1 (by simp) _ e1, r1⟩, ⟨o2, k i2 (by simp) _ e2, r2⟩⟩
  item := by
    intro X hP hw hK hc i pins s σ H E I hf st hg
    subst hP hw hK
    obtain ⟨hz, hTI, ⟨a0, b0, hTO⟩, h1, h2⟩ := st
    obtain ⟨g1, g2⟩ := hg
    have hh : X.A.in1.handled = none := I.ok.hd hc
    have hzl : z < s.heap.objs.size := Heap.lt_size hz
    refine wpAny_pyNext_zipD2_item S (Draws.text hh i1 x t) (Draws.text hh i2 y u) hz hTI hTO h1 h2 g1 g2 fun x1 x2 h' tk p1 p2 h1' TO' s1 s2 hT hsz hk => ?_
    obtain ⟨c, tc, hc1, rfl⟩ := p1
    obtain ⟨d, td, hd1, rfl⟩ := p2
    refine ⟨_, rfl, wpAny_letOwnedTupleGo_zip (s := { s with heap := h', toks := tk }) h1' fun h'' z'' sb => ?_⟩
    have hT2 : h''.get? s.heap.objs.size = some { cls := .type "tuple", data := .seq #[Value.str ⟨#[c]⟩ tc, Value.str ⟨#[d]⟩ td] } := (sb.2 _ (Nat.ne_of_gt hzl)).trans hT
    have new : ObjOk X.prog X.w (upd H s.heap.objs.size (.tup [.str ⟨#[c]⟩, .str ⟨#[d]⟩])) h'' s.heap.objs.size (.tup [.str ⟨#[c]⟩, .str ⟨#[d]⟩]) :=
      ⟨by show 2 ≤ sizeLine; decide, [Value.str ⟨#[c]⟩ tc, Value.str ⟨#[d]⟩ td], .cons ⟨tc, rfl⟩ (.cons ⟨td, rfl⟩ .nil), ⟨_, hT2, rfl, _, rfl⟩⟩
    have I1 : Inv X pins σ (upd H s.heap.objs.size (.tup [.str ⟨#[c]⟩, .str ⟨#[d]⟩])) { s with heap := h'', toks := tk } :=
      I.turnedNew (t' := tk) (ch := [z, TI, TO, i1, i2]) (fun c o hb q => (sb.2 c (fun q' => hb (by simp [q']))).trans (hk c o (fun q' => hb (by simp [q'])) (fun q' => hb (by simp [q'])) (fun q' => hb (by simp [q'])) (fun q' => hb (by simp [q'])) q)) hf (Nat.le_refl _) new
    have st1 : h''.IsStrIter i1 (strIterType x) x t (i + 1) := by
      obtain ⟨o, e, r⟩ := s1
      exact ⟨o, (sb.2 _ (fun q => S.zf1 (by rw [← q]; simp))).trans e, r⟩
    have st2 : h''.IsStrIter i2 (strIterType y) y u (i + 1) := by
      obtain ⟨o, e, r⟩ := s2
      exact ⟨o, (sb.2 _ (fun q => S.zf2 (by rw [← q]; simp))).trans e, r⟩
    refine ⟨.ref s.heap.objs.size, _, I1, rfl, ⟨_, c, d, rfl, I.hok.fresh (Nat.le_refl _), rfl, hc1, hd1⟩, ⟨z'', ?_, ⟨.str ⟨#[c]⟩ tc, .str ⟨#[d]⟩ td, ?_⟩, st1, st2⟩, fun b hbm => ?_⟩
    · exact (sb.2 _ S.TIz).trans (hk _ _ S.TIz S.TITO S.TIi1 S.TIi2 hTI)
    · exact (sb.2 _ S.TOz).trans TO'
    · have hlt : b < s.heap.objs.size := by
        have e' : b = z ∨ b = TI ∨ b = TO ∨ b = i1 ∨ b = i2 := by simpa using hbm
        rcases e' with q | q | q | q | q
        · rw [q]; exact hzl
        · rw [q]; exact Heap.lt_size hTI
        · rw [q]; exact Heap.lt_size hTO
        · rw [q]; obtain ⟨_, e1, _⟩ := h1; exact Heap.lt_size e1
        · rw [q]; obtain ⟨_, e2, _⟩ := h2; exact Heap.lt_size e2
      rw [upd_ne (Nat.ne_of_lt hlt)]
      exact (hf b hbm).1
  done := by
    intro X hP hw hK hc i pins s σ H E I hf st hg
    subst hP hw hK
    obtain ⟨hz, hTI, ⟨a0, b0, hTO⟩, h1, h2⟩ := st
    obtain ⟨⟨g1, g2⟩, g3⟩ := hg
    have hh : X.A.in1.handled = none := I.ok.hd hc
    exact wpAny_pyNext_zipD2_end S (Draws.text hh i1 x t) (Draws.text hh i2 y u) hz hTI hTO h1 h2 g1 g2 g3 fun h' tk hk => ⟨rfl, I.turnedL (t' := tk) (ch := [z, TI, TO, i1, i2]) (fun c o hb q =>
      hk c o (fun q' => hb (by simp [q'])) (fun q' => hb (by simp [q'])) (fun q' => hb (by simp [q'])) (fun q' => hb (by simp [q'])) q) hf⟩
  self := fun A i s Q E st h => wpAny_pyIter_zip st.1 h
def iZipS (ta : TA) : TI := fun σ H R => ta σ H fun vs H1 => ∃ x y, vs = [.str x, .str y] ∧ R (Itzs x y) H1
theorem pi_zipS {X : Cx} {e e2 : Expr} {ta : TA} {p pos tpos : Pos} {elts : List Expr} {kk : Nat} (hg : Gl X "zip") (hm : X.mg "zip" = none) (ha : PA X [e, e2] ta)
    (hs : starEach [e, e2] X.env = (false, eval e X.env) :: starEach [e2] X.env := by rfl) (hpl : (backTo pos (starEach [e2] X.env)).any (·.1) = false := by rfl) :
    PI X (.Tuple elts kk tpos) (.Call (.Name "zip" p) [e, e2] [] pos) (iZipS ta) := by
  refine ⟨fun pins s σ H R I h => ?_⟩
  refine Call_ (ld_blt I hg hm PyProof.Rows.boot_zip (PyProof.Rows.callWith_type1 (thn (ha.run pos pins s σ H _ I h) fun us s1 ⟨vs, H1, I1, r1, q1⟩ => ?_) hs hpl))
  obtain ⟨x, y, ex, q⟩ := q1
  subst ex
  cases r1 with
  | cons r rr =>
    cases rr with
    | cons r' rr =>
      cases rr
      obtain ⟨t, rfl⟩ := r
      obtain ⟨u, rfl⟩ := r'
      refine zip_begins2 (begins_text x t) (begins_text y u) trivial trivial fun h' hz hTI hTO h1 h2 hsz hk => wpAny_pyIter_zip hz ?_
      have I2 : Inv X pins σ H1 { s1 with heap := h' } := I1.kept (t' := s1.toks) hk
      have S : ZipSep2 (s1.heap.objs.size + 4) (s1.heap.objs.size + 2) (s1.heap.objs.size + 3) s1.heap.objs.size (s1.heap.objs.size + 1) [s1.heap.objs.size] [s1.heap.objs.size + 1] :=
        zip_sep2 (fp1 := []) (fp2 := []) (fun b hb => by cases hb) (fun b hb => by cases hb)
      refine ⟨s1.heap.objs.size + 4, [s1.heap.objs.size + 4, s1.heap.objs.size + 2, s1.heap.objs.size + 3, s1.heap.objs.size, s1.heap.objs.size + 1], _, _, H1, rfl, I2, turn_zipS S x y t u, ⟨hz, hTI, ⟨_, _, hTO⟩, ⟨_, h1, rfl, rfl⟩, ⟨_, h2, rfl, rfl⟩⟩, fun c hcm => ?_, q⟩
      have e' : c = s1.heap.objs.size + 4 ∨ c = s1.heap.objs.size + 2 ∨ c = s1.heap.objs.size + 3 ∨ c = s1.heap.objs.size ∨ c = s1.heap.objs.size + 1 := by simpa using hcm
      have hle : s1.heap.objs.size ≤ c := by
        rcases e' with z | z | z | z | z
        · rw [z]; exact Nat.le_add_right _ _
        · rw [z]; exact Nat.le_add_right _ _
        · rw [z]; exact Nat.le_add_right _ _
        · rw [z]; exact Nat.le_refl _
        · rw [z]; exact Nat.le_add_right _ _
      exact I1.fpOk hle (I1.hok.fresh hle)
theorem walk_zipS {x y : Str} {n : Nat} (hn : n = min x.cps.size y.cps.size) : Walk (Itzs x y) n (fun _ => True) (fun i H v H' => ∃ T c d, v = .ref T ∧ H T = none ∧ H' = upd H T (.tup [.str ⟨#[c]⟩, .str ⟨#[d]⟩]) ∧ x.cps[i]? = some c ∧ y.cps[i]? = some d) := by
  subst hn
  exact ⟨fun _ _ hi _ => ⟨by omega, by omega⟩, fun _ _ => ⟨⟨by omega, by omega⟩, by omega⟩, fun _ _ _ _ _ _ y => y⟩
end L2

namespace L2
open PySem PySem.Spec PyProof.Rows
/-! ### rules whose readings name the written part, over any context that has it (a comprehension's block too) -/
section
variable {X : Cx} {K : PySem.W.Frag}
theorem ix_listK (h : X.K = K := by rfl) : IxR X (rIxL K) := h ▸ ix_list
theorem ix_tupK (h : X.K = K := by rfl) : IxR X (rIxT K) := h ▸ ix_tup
theorem sl_listK (h : X.K = K := by rfl) : SlR X (rSlL K) := h ▸ sl_list
theorem sl_tupK (h : X.K = K := by rfl) : SlR X (rSlT K) := h ▸ sl_tup
theorem op_inK (h : X.K = K := by rfl) : OpR X (compareOp .In) (rIn K false) := h ▸ op_in_seq
theorem op_notInK (h : X.K = K := by rfl) : OpR X (compareOp .NotIn) (rIn K true) := h ▸ op_notIn_seq
theorem op_eqDK (hu : X.A.units + 64 < cLine) (h : X.K = K := by rfl) : OpR X (compareOp .Eq) (rEqD K) := h ▸ op_eqD hu
theorem op_neDK (hu : X.A.units + 64 < cLine) (h : X.K = K := by rfl) : OpR X (compareOp .NotEq) (rNeD K) := h ▸ op_neD hu
theorem op_ltDK (hu : X.A.units + 64 < cLine) (h : X.K = K := by rfl) : OpR X (compareOp .Lt) (rLtD K) := h ▸ op_ltD hu
/-- len of a list or tuple -/
def rLenK (K : PySem.W.Frag) : List V → Hp → VK → Prop := fun xs H Q => ∃ p ys, xs = [.ref p] ∧ (SqL K H p ys ∨ SqT K H p ys) ∧ Q (.int ys.length) H
theorem call_lenK (h : X.K = K := by rfl) : CallR X (.builtin "len") (rLenK K) := h ▸ call_len_seq
def rListK (K : PySem.W.Frag) : List V → Hp → VK → Prop := fun xs H Q => ∃ p ys, xs = [.ref p] ∧ (SqL K H p ys ∨ SqT K H p ys) ∧ ∀ l, H l = none → Q (.ref l) (upd H l (.lst ys))
theorem call_listK (h : X.K = K := by rfl) : CallR X (.type "list") (rListK K) := h ▸ call_list_of
theorem cr_allK (hc : X.calm = true) (h : X.K = K := by rfl) : CallR X (.builtin "all") (rAll K) := h ▸ cr_all hc
theorem cr_anyK (hc : X.calm = true) (h : X.K = K := by rfl) : CallR X (.builtin "any") (rAny K) := h ▸ cr_any hc
theorem cr_sumK (hc : X.calm = true) (h : X.K = K := by rfl) : CallR X (.builtin "sum") (rSum K) := h ▸ cr_sum hc
theorem call_isiK1 (h : X.K = K := by rfl) : CallR X (.builtin "isinstance") (rIsi K) := h ▸ call_isi
theorem call_isiTK (h : X.K = K := by rfl) : CallR X (.builtin "isinstance") (rIsiT K) := h ▸ call_isiT
/-- sep.join(texts) -/
def rJoinK (K : PySem.W.Frag) : V → List V → Hp → VK → Prop := fun x xs H Q => ∃ a p, ∃ ys : List Str, x = .str a ∧ xs = [.ref p] ∧ (SqL K H p (ys.map V.str) ∨ SqT K H p (ys.map V.str)) ∧ (ys.map (·.length)).sum + ys.length * a.length ≤ 16777216 ∧ Q (.str (Txt.join a ys)) H
theorem mt_joinK (h : X.K = K := by rfl) : MtR X "str.join" (rJoinK K) := h ▸ mt_join
end
end L2

namespace L2
open PySem PySem.Spec PyProof.Rows
/-- a def with defaults that lets nothing out -/
theorem FunD.ok0 {P : Program} {w : World} {K : PySem.W.Frag} {mg : Str → Option Value} {base : Heap} {x qual : Str} {st : Stmt} {dvs : List V} {f : Addr} {fd : FuncData} {N ps : List Str} {k : Nat} {sp : Sp}
    (F : FunD K x qual (defArgs st) (defBody st) (defScope st) dvs [] f fd) (S : FnScope N ps (defScope st)) (len : ∀ vs H Q E, sp vs H Q E → vs.length = ps.length)
    (hbody : ∀ (cdv : Value) (A : Around) (outer : List Env) (s : Shared) (H : Hp) (vs : List V) (Q : VK) (E : XK), Room k (A.deeper (envOfC qual (defScope st) s.heap.objs.size f cdv)) → sp vs H Q E →
      ∃ t, PSs (cxOf CX0 P w K mg base N qual (defScope st) f cdv A outer s H E).nox (defBody st) t ∧ t { nx := fun _ H' => Q .non H', rt := Q } (start N vs) H) : FnOk P w K mg base CX0 (k + 1) f fd ps sp :=
  F.ok S len fun cdv A outer s H vs Q E hr hsp => by
    obtain ⟨t, h, q⟩ := hbody cdv A outer s H vs Q E hr hsp
    exact ⟨t, h.nox, q⟩
theorem funD_mk {K : PySem.W.Frag} {x qual : Str} {st : Stmt} {f T : Addr} {oc : Value} {od an : Option Addr} {osl : Array (Option Value)} {kV doc pm cdv ct : Value} {o : Obj} {its : List Value} {n : Nat} {dvs : List V}
    (l : K.lookup f = some ⟨oc, od, .func (PySem.W.fnOf x qual (defArgs st) (defBody st) (defScope st) (.ref T) kV doc pm an cdv ct), osl⟩)
    (c : PySem.W.codeIn K cdv qual = true) (k : PySem.W.keepIn K (.ref f) = true) (lT : K.lookup T = some o) (oT : o.data = .seq its.toArray n) (hv : Vals dvs its) (hd : dvs ≠ []) :
    FunD K x qual (defArgs st) (defBody st) (defScope st) dvs [] f (PySem.W.fnOf x qual (defArgs st) (defBody st) (defScope st) (.ref T) kV doc pm an cdv ct) :=
  ⟨⟨oc, od, .ref T, kV, doc, pm, an, cdv, ct, osl, rfl, l, c, .inr ⟨hd, T, o, its, n, rfl, lT, oT, hv⟩, .inl rfl⟩, k⟩
end L2

namespace L2
open PySem PySem.Spec PyProof.Rows
/-! ### a method called in a try's body; what is asked of an own class -/
section
variable {X : Cx} {CX : CXT} {k : Nat} {f C : Addr} {fd : FuncData} {ps : List Str} {sp : Sp} {dvs : List V} {ds : List Value} {E : St → XK} {o e : Expr} {es : List Expr} {ta : TE} {t : TA} {m : Str} {apos pos : Pos}
/-- o.m(e, ..) in a try's body -/
def tMethSD (C : Addr) (m : Str) (sp : Sp) (dvs : List V) (E : St → XK) (ta : TE) (t : TA) : TE := fun σ H Q => ta σ H fun x H1 => ∃ a dx fs, x = .ref a ∧ H1 a = some (.ins C dx fs) ∧ fs.lookup m = none ∧ t σ H1 fun vs H2 => sp (x :: (vs ++ dvs)) H2 Q (E σ)
theorem pe_methSD {pl : Sem Bool} (he : PE X o ta) (c : Cls X.K C) (hm : Meth X.K C m f) (F : FnOk X.prog X.w X.K X.mg X.base CX k f fd ps sp) (hr : Room k X.A) (hb : Binds X.K fd ps ds) (hd : Vals dvs ds) (hx : ∀ σ, PassesAt CX X σ (E σ)) (ha : PA X (e :: es) t)
    (hst : starEach (e :: es) X.env = (false, eval e X.env) :: starEach es X.env := by rfl) (hpl : (backTo pos (starEach es X.env)).any (·.1) = false := by rfl)
    (ht : eval (.Call (.Attribute o m apos) (e :: es) [] pos) X.env = (do
      let ov ← eval o X.env
      standAt apos.atName
      let (f, first) ← holding [ov] (getMethod ov m pl)
      callWith pos f first (backTo pos (starEach (e :: es) X.env)) (backToKw pos (keywordEach [] X.env))) := by rfl) :
    PE X (.Call (.Attribute o m apos) (e :: es) [] pos) (tMethSD C m sp dvs E ta t) := by
  refine ⟨fun pins s σ H Q I h => PySem.W.methodCall_KW (pl := pl) (thn (he.run pins s σ H _ I h) fun u s1 z => ?_) ht⟩
  obtain ⟨x, H1, J, rx, a, dx, fs, rfl, ea, l, q⟩ := z
  cases (show u = Value.ref a from rx)
  refine getmeth_ok J ea c hm l ?_
  refine PySem.W.callWith_K (first := [.ref a]) (h₀ := X.base) J.ok.mod.kin hm.kp (thn (ha.run pos pins s1 σ H1 _ J q) fun us s2 z => ?_) hst hpl
  obtain ⟨vs, H2, J2, r, q2⟩ := z
  have rr : Vals (V.ref a :: (vs ++ dvs)) (Value.ref a :: (us ++ ds)) := .cons rfl (r.append hd)
  refine ⟨J2.kIn, wpAny_call (codeAny_mono (F.run X.A X.stack s2 H2 ⟨.ref a :: us, []⟩ (.ref a :: (us ++ ds)) (.ref a :: (vs ++ dvs)) Q (E σ) hr J2.env0 (hb s2 (.ref a :: us) J2.kIn (rr.length.symm.trans (F.len _ _ _ _ q2))) rr q2) fun r s' z => ?_)⟩
  cases r with
  | error er => exact hx σ pins H2 s2 er s' J2 z
  | ok fl =>
    cases fl with
    | ret u => exact J2.after z
    | _ => exact False.elim z
end
/-- what the written part says of an own class -/
structure OwnK (K : PySem.W.Frag) (mg : Str → Option Value) (x : Str) (C : Addr) : Prop where
  gC : mg x = some (.ref C)
  cls : Cls K C
  made : PySem.W.makesIn K C = true
  kC : PySem.W.keepIn K (.ref C) = true
end L2

namespace Evl
open PySem L2
/-! ### what evaluates to what: texts -/
section
variable {K : PySem.W.Frag} {σ : L2.St} {H H' : Hp} {ta tb te tl : TE} {t : TT} {x y z v : V}
theorem ev_m0 {C : Str → Prop} {g : Str → V} {a : Str} (h : Ev te σ H (.str a)) (c : C a) : Ev (tM0 (fun x xs H Q => ∃ a, x = .str a ∧ xs = [] ∧ C a ∧ Q (g a) H) te) σ H (g a) := fun H1 e Q q =>
  h H1 e _ fun H2 e2 => ⟨⟨a, rfl⟩, a, rfl, rfl, c, q H2 e2⟩
theorem ev_m1 {g : Str → Str → V} {a b : Str} (h : Ev te σ H (.str a)) (h2 : Ev ta σ H (.str b)) : Ev (tM1 (fun x xs H Q => ∃ a b, x = .str a ∧ xs = [.str b] ∧ Q (g a b) H) te ta) σ H (g a b) := fun H1 e Q q =>
  h H1 e _ fun H2 e2 => ⟨⟨a, rfl⟩, h2 H2 (e.trans e2) _ fun H3 e3 => ⟨a, b, rfl, rfl, q H3 (e2.trans e3)⟩⟩
theorem ev_join {a : Str} {ys : List Str} (h : Ev te σ H (.str a)) (h2 : EvL tl σ H (ys.map V.str)) (hz : (ys.map (·.length)).sum + ys.length * a.length ≤ 16777216) :
    Ev (tM1 (rJoinK K) te tl) σ H (.str (Txt.join a ys)) := fun H1 e Q q =>
  h H1 e _ fun H2 e2 => ⟨⟨a, rfl⟩, h2 H2 (e.trans e2) _ fun p H3 _ e3 h3 => ⟨a, p, ys, rfl, rfl, .inl (sq_of h3), hz, q H3 (e2.trans e3)⟩⟩
theorem rv_addS {a b : Str} (h : a.length + b.length ≤ 100000) : RV (fun x y H Q => ∃ i j, x = .str i ∧ y = .str j ∧ i.length + j.length ≤ sizeLine ∧ Q (.str (i ++ j)) H) (.str a) (.str b) H (.str (a ++ b)) := fun H1 _ _ q => ⟨a, b, rfl, rfl, sz_of h, q H1 (Ex.refl H1)⟩
theorem rv_inS {c : Nat} {z : Str} : RV (fun x y H Q => ∃ (c : Nat) (z : Str), x = .str ⟨#[c]⟩ ∧ y = .str z ∧ Q (.bl (decide (c ∈ z.cps.toList))) H) (.str ⟨#[c]⟩) (.str z) H (.bl (decide (c ∈ z.cps.toList))) := fun H1 _ _ q => ⟨c, z, rfl, rfl, q H1 (Ex.refl H1)⟩
theorem rv_niS {c : Nat} {z : Str} : RV (fun x y H Q => ∃ (c : Nat) (z : Str), x = .str ⟨#[c]⟩ ∧ y = .str z ∧ Q (.bl (!decide (c ∈ z.cps.toList))) H) (.str ⟨#[c]⟩) (.str z) H (.bl (!decide (c ∈ z.cps.toList))) := fun H1 _ _ q => ⟨c, z, rfl, rfl, q H1 (Ex.refl H1)⟩
theorem rv_ltS {a b : Str} : RV (fun x y H Q => ∃ i j, x = .str i ∧ y = .str j ∧ Q (.bl (decide (i.cps.toList < j.cps.toList))) H) (.str a) (.str b) H (.bl (decide (a.cps.toList < b.cps.toList))) := fun H1 _ _ q => ⟨a, b, rfl, rfl, q H1 (Ex.refl H1)⟩
theorem ev_revS {a : Str} (h : Ev te σ H (.str a)) (hz : a.length ≤ 100000) : Ev (tRevS te) σ H (.str ⟨a.cps.toList.reverse.toArray⟩) := fun H1 e Q q => h H1 e _ fun H2 e2 => ⟨a, rfl, sz_of hz, q H2 e2⟩
theorem ev_slS {a : Str} {t1 t2 : TO} {lo hi : Option Int} (h : Ev te σ H (.str a)) (h1 : EvO t1 σ H lo) (h2 : EvO t2 σ H hi) (hz : a.length ≤ 100000) : Ev (tSl rSlS te t1 t2) σ H (.str (cutS a lo hi)) := fun H1 e Q q =>
  h H1 e _ fun H2 e2 => h1 H2 (e.trans e2) _ fun H3 e3 => h2 H3 ((e.trans e2).trans e3) _ fun H4 e4 => ⟨a, rfl, sz_of hz, q H4 ((e2.trans e3).trans e4)⟩
theorem ev_lenS {a : Str} (h : Ev te σ H (.str a)) (hz : a.length ≤ 100000) : Ev (tCB (fun xs H Q => ∃ z, xs = [.str z] ∧ z.length ≤ sizeLine ∧ Q (.int z.length) H) (tCons te tNil)) σ H (.int a.length) := fun H1 e Q q =>
  h H1 e _ fun H2 e2 => ⟨a, rfl, sz_of hz, q H2 e2⟩
theorem ev_intB {b : Bool} (h : Ev te σ H (.bl b)) : Ev (tCB (fun xs H Q => (∃ i, xs = [.int i] ∧ Q (.int i) H) ∨ ∃ k, xs = [.bl k] ∧ Q (.int (if k then 1 else 0)) H) (tCons te tNil)) σ H (.int (if b then 1 else 0)) := fun H1 e Q q =>
  h H1 e _ fun H2 e2 => .inr ⟨b, rfl, q H2 e2⟩
theorem ev_ixNew {xs : List V} {i : Int} (ha : EvL ta σ H xs) (hb : ∀ H1, Ex H H1 → Ev tb σ H1 (.int i)) (hi : atI xs i = some v) : Ev (tOp (rIxL K) ta tb) σ H v := ev_opL1 ha hb fun p H1 hp e => rv_ixL (sq_of hp) hi
theorem ev_isi {tc : TE} {c : V} {ty u : Value} {b : Bool} (h : Ev te σ H x) (h2 : Ev tc σ H c) (hc : ClsV c u) (hx : ∀ H1, Ex H H1 → TyX K H1 x ty) (hb : PySem.W.kitOne K ty u = some b) : Ev (tCB (rIsi K) (tCons te (tCons tc tNil))) σ H (.bl b) := fun H1 e Q q =>
  h H1 e _ fun H2 e2 => h2 H2 (e.trans e2) _ fun H3 e3 => ⟨x, c, ty, u, b, rfl, hc, hx H3 ((e.trans e2).trans e3), hb, q H3 (e2.trans e3)⟩
theorem ev_isiN {tc : TE} {c : V} {xs : List V} {ty u : Value} {b : Bool} (h : EvL te σ H xs) (h2 : ∀ H1, Ex H H1 → Ev tc σ H1 c) (hc : ClsV c u) (hx : ∀ p H1, H1 p = some (.lst xs) → TyX K H1 (.ref p) ty) (hb : PySem.W.kitOne K ty u = some b) : Ev (tCB (rIsi K) (tCons te (tCons tc tNil))) σ H (.bl b) := fun H1 e Q q =>
  h H1 e _ fun p H2 _ e2 hp => h2 H2 (e.trans e2) H2 (Ex.refl H2) _ fun H3 e3 => ⟨.ref p, c, ty, u, b, rfl, hc, hx p H3 (e3 _ _ hp), hb, q H3 (e2.trans e3)⟩
theorem ev_allN {bs : List Bool} (h : EvL te σ H (bs.map V.bl)) : Ev (tCB (rAll K) (tCons te tNil)) σ H (.bl (bs.all id)) := fun H1 e Q q =>
  h H1 e _ fun p H2 _ e2 hp => ⟨p, bs, rfl, sq_of hp, q H2 e2⟩
theorem ev_ifv {b : Bool} {v w : V} (h : EvT t σ H b) (h1 : b = true → Ev ta σ H v) (h2 : b = false → Ev tb σ H w) : Ev (tIf t ta tb) σ H (if b = true then v else w) := by
  refine ev_if h (fun e => ?_) (fun e => ?_)
  · rw [if_pos e]; exact h1 e
  · rw [if_neg (by rw [e]; decide)]; exact h2 e
theorem et_yes : EvT tYes σ H true := fun H1 _ _ q => q H1 (Ex.refl H1)
theorem given_all (n : Nat) (v : Nat → V) : given n (fun _ => true) v = (List.range n).map v := by
  unfold given
  congr 1
  exact List.filter_eq_self.mpr fun _ _ => rfl
theorem range_map {α : Type} (l : List α) (g : α → V) (d : α) : (List.range l.length).map (fun i => g (l.getD i d)) = l.map g := by
  apply List.ext_getElem
  · simp
  · intro i h1 h2
    simp at h1
    simp [List.getD, h1]
/-- [e for sign in text] -/
theorem el_lcS {s : Str} {j : Nat} {vs : List Nat} (f : Nat → Bool) (v : Nat → V) (h : Ev tl σ H (.str s)) (hz : s.length ≤ 40000) (hw : ∀ x, wipe ((wipe σ vs).set j (some x)) vs = wipe σ vs)
    (ht : ∀ (i c : Nat) H1, Ex H H1 → s.cps.toList[i]? = some c → EvT t ((wipe σ vs).set j (some (.str ⟨#[c]⟩))) H1 (f i))
    (he : ∀ (i c : Nat) H1, Ex H H1 → s.cps.toList[i]? = some c → f i = true → Ev te ((wipe σ vs).set j (some (.str ⟨#[c]⟩))) H1 (v i)) :
    EvL (tLc (iStr tl) (gName j) t te vs) σ H (given s.length f v) := fun H0 e Q q => h H0 e _ fun H1 e1 => ⟨s, rfl, fun Dl hD =>
  lc_it walk_str (Cw H1 f v Dl) ⟨hD, Ex.new hD, upd_same⟩ (fun _ _ _ _ => trivial) (fun i x H2 H' hi p hy => by
    obtain ⟨rfl, c, hc, rfl⟩ := hy
    have hc' : s.cps.toList[i]? = some c := by rw [Array.getElem?_toList]; exact hc
    exact ⟨hw _, cw_turn p (by have : s.length = s.cps.size := rfl; omega) (ht i c H1 (e.trans e1) hc') (fun hf => he i c H1 (e.trans e1) hc' hf)⟩)
    (fun H' p => q Dl H' (fresh_back e1 p.1) (e1.trans p.2.1) p.2.2)⟩
theorem el_mapS {s : Str} {j : Nat} {vs : List Nat} (g : Nat → V) (h : Ev tl σ H (.str s)) (hz : s.length ≤ 40000) (hw : ∀ x, wipe ((wipe σ vs).set j (some x)) vs = wipe σ vs)
    (he : ∀ (c : Nat) H1, Ex H H1 → c ∈ s.cps.toList → Ev te ((wipe σ vs).set j (some (.str ⟨#[c]⟩))) H1 (g c)) :
    EvL (tLc (iStr tl) (gName j) tYes te vs) σ H (s.cps.toList.map g) := by
  have := el_lcS (te := te) (t := tYes) (fun _ => true) (fun i => g (s.cps.toList.getD i 0)) h hz hw (fun _ _ _ _ _ => et_yes) (fun i c H1 e hc _ => by
    have : s.cps.toList.getD i 0 = c := by rw [List.getD_eq_getElem?_getD, hc]; rfl
    rw [this]
    exact he c H1 e (List.mem_of_getElem? hc))
  rw [given_all] at this
  have e2 : s.length = s.cps.toList.length := rfl
  rw [e2, range_map] at this
  exact this
end
end Evl

namespace L2
open PySem PySem.Spec PyProof.Rows
/-! ### sorted(list, key=f), f an own def whose keys read as data (lists too) -/
section
variable {X : Cx}
def rSortF (K : PySem.W.Frag) (f : Addr) (sp : Sp) (dvs : List V) : List V → List V → Hp → VK → Prop := fun vs zs H Q =>
  ∃ (p : Addr) (bs : List (V × PyData)), vs = [.ref p] ∧ zs = [.ref f] ∧ SqL K H p (bs.map (·.1)) ∧ PySem.W.AllAlike (bs.map (·.2)) ∧ PySem.W.Sortable (bs.map (·.2)) ∧ bs.length ≤ 100000 ∧ (∀ b ∈ bs, b.2.depth ≤ 50) ∧
    (∀ b ∈ bs, ∀ H1, Same H H1 → ∀ Q1 : VK, (∀ v H2, Same H1 H2 → (∀ H3, Same H2 H3 → Dp K H3 v b.2) → Q1 v H2) → sp (b.1 :: dvs) H1 Q1 fun _ _ _ => False) ∧
    ∀ q H2, Same H H2 → H q = none → H2 q = some (.lst ((bs.mergeSort (PySem.W.dataLe false (·.2))).map (·.1))) → Q (.ref q) H2
theorem each_ofF {R : Value → V × PyData → Prop} : ∀ {bs : List (V × PyData)} {us : List Value}, Vals (bs.map (·.1)) us → (∀ b ∈ bs, ∀ u, RelV b.1 u → R u b) → PySem.W.EachIs R us bs
  | [], _, r, _ => by cases r; exact .nil
  | b :: bs, _, r, h => by
    cases r with
    | cons a t => exact .cons (h b List.mem_cons_self _ a) (each_ofF t fun c hc => h c (List.mem_cons_of_mem _ hc))
theorem vals_eachF : ∀ {bs : List (V × PyData)} {us : List Value}, PySem.W.EachIs (fun u (b : V × PyData) => RelV b.1 u) us bs → Vals (bs.map (·.1)) us
  | _, _, .nil => .nil
  | _, _, .cons a t => .cons a (vals_eachF t)
/-- two new records of ours were changed, one of them is a list from now on -/
theorem Inv.two {pins : List (Addr × Obj)} {σ : St} {H : Hp} {s : Shared} {h' : Heap} {t' : Nat} {x a : Addr} {xs : List V} (I : Inv X pins σ H s) (k : ∀ b o, b ≠ x → b ≠ a → s.heap.get? b = some o → h'.get? b = some o)
    (hx : H x = none) (ha : H a = none) (lx : x ≠ X.env.locals) (la : a ≠ X.env.locals) (zx : X.s_0.heap.objs.size ≤ x) (za : X.s_0.heap.objs.size ≤ a) (cx : ∀ y c, X.env.cells.lookup y = some c → c ≠ x) (ca : ∀ y c, X.env.cells.lookup y = some c → c ≠ a)
    (px : ∀ p ∈ X.pn ++ pins, p.1 ≠ x) (pa : ∀ p ∈ X.pn ++ pins, p.1 ≠ a) (hne : x ≠ a) (new : ObjOk X.prog X.w (upd H a (.lst xs)) h' a (.lst xs)) : Inv X pins σ (upd H a (.lst xs)) { s with heap := h', toks := t' } := by
  have nx : ∀ b u, H b = some u → b ≠ x := fun b u e z => by rw [z, hx] at e; cases e
  have na : ∀ b u, H b = some u → b ≠ a := fun b u e z => by rw [z, ha] at e; cases e
  refine I.step (g' := s.gens) (d' := s.drawn) (ch := [x, a]) (fun b hb => ?_) (fun b o _ _ hc e _ => k b o (fun z => hc (by simp [z])) (fun z => hc (by simp [z])) e)
    (fun b o _ _ hc e _ => ⟨o.slots, k b o (fun z => hc (by simp [z])) (fun z => hc (by simp [z])) e⟩) (fun b o hc e n => by rw [upd_ne fun z => hc (by simp [z])]; exact n)
    (fun b o hc e => ⟨o, k b o (fun z => hc (by simp [z])) (fun z => hc (by simp [z])) e⟩) (fun b _ e => by rw [upd_ne (na b _ e)]; exact e) (fun b _ _ e => by rw [upd_ne (na b _ e)]; exact e)
    (fun b ps e => ⟨#[], by rw [upd_ne (na b _ e), e]; simp⟩) (fun m hm => ?_) (fun b u e => ?_) I.bare
  · rcases List.mem_cons.mp hb with rfl | hb
    · exact ⟨.inr zx, lx, cx, px⟩
    · rw [List.mem_singleton.mp hb]
      exact ⟨.inr za, la, ca, pa⟩
  · obtain ⟨o, es, ep, ho, r⟩ := hm
    exact ⟨o, es, ep, k _ o (Ne.symm lx) (Ne.symm la) ho, r⟩
  · by_cases q : b = a
    · subst q
      rw [upd_same] at e
      cases e
      exact new
    · rw [upd_ne q] at e
      refine (I.hok b u e).stay (fun c v hc g => ?_) (fun c g => by rw [upd_ne (na c _ g)]; exact g) fun c ys g => by rw [upd_ne (na c _ g)]; exact g
      refine k c v ?_ ?_ g
      · rcases hc with z | z
        · rw [z]; exact nx b u e
        · exact nx c _ z
      · rcases hc with z | z
        · rw [z]; exact q
        · exact na c _ z
/-- the keys, one by one -/
theorem keys_run {K : PySem.W.Frag} {k : Nat} {f : Addr} {fd : FuncData} {ps : List Str} {sp : Sp} {dvs : List V} {ds : List Value} {pins : List (Addr × Obj)} {σ : St} {H : Hp} {s : Shared} {bs : List (V × PyData)} {its : List Value} {x a : Addr} {e1 : Nat} {P : PySem.Fin → Shared → Prop} {E : Value → Shared → Prop}
    (F : FnOk X.prog X.w X.K X.mg X.base CX0 k f fd ps sp) (hr : Room (k + 2) X.A) (hb : Binds X.K fd ps ds) (hd : Vals dvs ds) (hK : X.K = K)
    (I : Inv X pins σ H s) (rv : Vals (bs.map (·.1)) its) (hx : H x = none) (ha : H a = none) (lx : x ≠ X.env.locals) (la : a ≠ X.env.locals) (zx : X.s_0.heap.objs.size ≤ x) (za : X.s_0.heap.objs.size ≤ a)
    (cx : ∀ y c, X.env.cells.lookup y = some c → c ≠ x) (ca : ∀ y c, X.env.cells.lookup y = some c → c ≠ a) (px : ∀ p ∈ X.pn ++ pins, p.1 ≠ x) (pa : ∀ p ∈ X.pn ++ pins, p.1 ≠ a) (fx : x ∉ X.fs) (fa : a ∉ X.fs) (hne : x ≠ a)
    (ox : s.heap.get? x = some (seqObj "list" #[] 0)) (oa : s.heap.get? a = some (seqObj "list" #[] e1)) (hz : bs.length ≤ 100000) (al : PySem.W.AllAlike (bs.map (·.2))) (so : PySem.W.Sortable (bs.map (·.2))) (dp : ∀ b ∈ bs, b.2.depth ≤ 50)
    (turn : ∀ b ∈ bs, ∀ H1, Same H H1 → ∀ Q1 : VK, (∀ v H2, Same H1 H2 → (∀ H3, Same H2 H3 → Dp K H3 v b.2) → Q1 v H2) → sp (b.1 :: dvs) H1 Q1 fun _ _ _ => False)
    (done : ∀ s' H' ys, Inv X pins σ (upd H' a (.lst ys)) s' → Same H H' → H' a = none → ys = (bs.mergeSort (PySem.W.dataLe false (·.2))).map (·.1) → P (.done (.ret .none)) s') :
    wpAny (model X.prog X.w) X.A.in1.in1 (PyProof.Rows.ksk_rest a (.ref f) false its.toArray e1 (.ref x)) P E s := by
  subst hK
  have hlen : its.length = bs.length := by rw [← rv.length, List.length_map]
  have big : (100000 : Nat) ≤ sizeLine := by decide
  unfold PyProof.Rows.ksk_rest
  refine wpAny_bind (wpAny_rule ?_)
  rw [List.forIn_toArray]
  refine wpAny_bind (PyProof.Rows.ksk_fold (fun i s' => ∃ H' us e, Inv X pins σ H' s' ∧ Same H H' ∧ H' x = none ∧ H' a = none ∧ s'.heap.get? x = some (seqObj "list" us e) ∧ s'.heap.get? a = some (seqObj "list" #[] e1) ∧
    PySem.W.EachIs (fun u (b : V × PyData) => ∃ v, RelV v u ∧ ∀ H3, Same H' H3 → Dp X.K H3 v b.2) us.toList (bs.take i)) its 0 s ⟨H, #[], 0, I, Same.refl H, hx, ha, ox, oa, by rw [List.take_zero]; exact .nil⟩ ?one ?all)
  case one =>
    rintro j u0 s1 hj ⟨H1, us, e, I1, s01, nx, na, g1, g2, hk⟩
    rw [Nat.zero_add] at hk ⊢
    have jl : j < bs.length := by have := (List.getElem?_eq_some_iff.mp hj).1; omega
    have bj : bs[j]? = some bs[j] := List.getElem?_eq_getElem jl
    have uz : us.size ≤ 100000 := by
      have := hk.length
      rw [Array.length_toList, List.length_take] at this
      omega
    have rj : RelV bs[j].1 u0 := by
      obtain ⟨u, hu, ru⟩ := rv.get (i := j) (x := bs[j].1) (by rw [List.getElem?_map, bj]; rfl)
      rw [hj] at hu
      cases hu
      exact ru
    have rr : Vals (bs[j].1 :: dvs) (u0 :: ds) := .cons rj hd
    refine wpAny_bind (wpAny_attempt ?_)
    refine wpAny_mono (Q := fun u s2 => ∃ v H2, Inv X pins σ H2 s2 ∧ RelV v u ∧ Same H1 H2 ∧ (∀ H3, Same H2 H3 → Dp X.K H3 v bs[j].2) ∧ H2 x = none ∧ H2 a = none ∧ s2.heap.get? x = some (seqObj "list" us e) ∧ s2.heap.get? a = some (seqObj "list" #[] e1)) (E := fun _ _ => False)
      (wpAny_call (codeAny_mono (F.run X.A.in1.in1 X.stack s1 H1 ⟨[u0], []⟩ (u0 :: ds) (bs[j].1 :: dvs) (fun v H2 => Same H1 H2 ∧ ∀ H3, Same H2 H3 → Dp X.K H3 v bs[j].2) (fun _ _ _ => False) hr.in1.in1 I1.env0.in1.in1
        (hb s1 [u0] I1.kIn (by rw [← F.len _ _ _ _ (turn _ (List.getElem_mem jl) H1 s01 (fun _ _ => True) fun _ _ _ _ => trivial)]; exact rr.length.symm)) rr (turn _ (List.getElem_mem jl) H1 s01 _ fun v H2 a b => ⟨a, b⟩)) fun r s2 hq => ?_)) (fun u s2 z => ?_) (fun _ _ z => z.elim)
    · cases r with
      | error er => exact hq.elim
      | ok fl =>
        cases fl with
        | ret u =>
          obtain ⟨v, H2, os, bare, un, hok, rv2, hs2, hd2⟩ := hq
          have nf : ∀ y, y ≠ X.env.locals → y ∉ X.fs → y ∉ frs X.stack := fun y ly fy z => by
            rcases List.mem_cons.mp (I1.stkSub y z) with q | q
            · exact ly q
            · exact fy q
          obtain ⟨hh, g, d, t, os'⟩ := s2
          obtain rfl : os' = s1.os := os
          exact ⟨v, H2, I1.call (h' := hh) (g' := g) (d' := d) (t' := t) (ch := []) un hok bare (fun b z => absurd z (by simp)), rv2, hs2, hd2, un.free x _ g1 nx (by simp), un.free a _ g2 na (by simp), un.keep x _ g1 nx (nf x lx fx) (by simp), un.keep a _ g2 na (nf a la fa) (by simp)⟩
        | next => exact hq.elim
        | brk => exact hq.elim
        | cont => exact hq.elim
    obtain ⟨v, H2, I2, rv2, s12, hd2, nx2, na2, g3, g4⟩ := z
    dsimp only
    have up := Heap.SameBut.update s2.heap x (Obj.mapSeq (·.push u))
    obtain ⟨c2, hc2⟩ : ∃ c2, (s2.heap.update x (Obj.mapSeq (·.push u))).get? x = some (seqObj "list" (us.push u) c2) := ⟨_, get?_update_seq g3 (·.push u)⟩
    refine wpAny_bind (listUpdate_at g3 rfl ?_ (by show us.size ≤ _; omega) (by show (us.push u).size ≤ _; rw [Array.size_push]; omega))
    refine wpAny_pure ⟨rfl, H2, us.push u, c2, I2.turned (fun b o hbx e => (up.2 b hbx).trans e) nx2 lx (.inr zx) cx px, Same.trans s01 s12, nx2, na2, hc2, (up.2 a hne.symm).trans g4, ?_⟩
    have et : bs.take (j + 1) = bs.take j ++ [bs[j]] := by rw [List.take_add_one, bj]; rfl
    rw [et, Array.toList_push]
    exact PySem.W.each_snoc (R := fun u (b : V × PyData) => ∃ v, RelV v u ∧ ∀ H3, Same H2 H3 → Dp X.K H3 v b.2) ⟨v, rv2, hd2⟩ (hk.mono fun u b ⟨w, rw', dw⟩ => ⟨w, rw', fun H3 s3 => dw H3 (Same.trans s12 s3)⟩)
  case all =>
    rintro s1 ⟨H1, us, e, I1, s01, nx, na, g1, g2, hk⟩
    rw [Nat.zero_add, List.take_of_length_le (by omega)] at hk
    have uz : us.size = bs.length := by
      have := hk.length
      rwa [Array.length_toList] at this
    refine wpAny_bind (listItems_at g1 rfl ?_)
    have hk2 : PySem.W.EachIs (fun u (b : V × PyData) => ∃ as, Reads s1.heap u b.2 as) us.toList bs := hk.mono fun u b ⟨v, ru, dv⟩ => Dp.reads I1 b.2 v u (dv H1 (Same.refl H1)) ru
    have hk3 : PySem.W.EachIs (fun u d => ∃ as, Reads s1.heap u d as) us.toList (bs.map (·.2)) := PySem.W.each_map (R := fun u d => ∃ as, Reads s1.heap u d as) (fun b : V × PyData => b.2) hk2
    have S := PySem.W.SortsAt.data (prog := X.prog) (w := X.w) (A := X.A.in1.in1) (s := s1) hk3 al so (fun d hd' => by
      obtain ⟨b, hb', rfl⟩ := List.mem_map.mp hd'
      have h1 := dp b hb'
      have h2 := hr.un
      show X.A.units + 1 + 1 + b.2.depth < cLine
      omega)
    refine PySem.W.keyH_end (κ := PySem.W.dataKind s1.heap (bs.map (·.2))) (h₁ := s1.heap.hide x) (s := s1) (fun b o _ q => Heap.of_hide q) (Heap.hide_self _ _) g1 g2 hne S (by rw [uz, hlen]) (by rw [hlen]; omega) fun h' tk c kp ga => ?_
    have hko : PySem.W.KeyedOut false (bs.map (·.2)) its (PySem.W.sortVals (PySem.W.dataKind s1.heap (bs.map (·.2))) false us.toList its) := ⟨s1.heap, us.toList, al, rfl, hk3⟩
    have ho := PySem.W.keyedOut_each (R := fun u (b : V × PyData) => RelV b.1 u) (fun b : V × PyData => b.2) hko (each_ofF rv fun b _ u ru => ru)
    have rv2 := vals_eachF ho
    refine done _ H1 _ (I1.two (fun b o n1 n2 q => kp b o n2 ((Heap.hide_ne _ n1).trans q)) nx na lx la zx za cx ca px pa hne ?_) s01 na rfl
    exact ⟨by rw [List.length_map, List.length_mergeSort]; omega, _, c, rv2, ga⟩
theorem call_sortF {K : PySem.W.Frag} {k : Nat} {f : Addr} {fd : FuncData} {ps : List Str} {sp : Sp} {dvs : List V} {ds : List Value} (F : FnOk X.prog X.w X.K X.mg X.base CX0 k f fd ps sp) (hr : Room (k + 2) X.A) (hb : Binds X.K fd ps ds) (hd : Vals dvs ds) (hK : X.K = K := by rfl) :
    CallRK X (.builtin "sorted") [Str.ofString "key"] (rSortF K f sp dvs) := by
  intro pins s σ H xs zs us ws Q I r1 r2 h
  obtain ⟨p, bs, rfl, rfl, hS, al, so, hz, dp, turn, q⟩ := h
  obtain ⟨u, rfl, ru⟩ := vals1 r1
  cases (show u = Value.ref p from ru)
  obtain ⟨g, rfl, rg⟩ := vals1 r2
  cases (show g = Value.ref f from rg)
  obtain ⟨its, rv, hl, _⟩ := I.list (hK ▸ hS)
  have hlen : its.length = bs.length := by rw [← rv.length, List.length_map]
  have big : (100000 : Nat) ≤ sizeLine := by decide
  have hle : its.length ≤ sizeLine := by omega
  refine PySem.W.sorted_of_sort (A := X.A) hl.isList hle (PyProof.Rows.ksk_s1 _ _) (fun _ => PyProof.Rows.ksk_l1 _ _) fun E' => ?_
  show wpAny _ _ (Builtin.«list.sort» ⟨[.ref (s.heap.objs.size + 1)], [(Str.ofString "key", .ref f)]⟩) _ _ _
  rw [PyProof.Rows.ksk_t1]
  have I1 : Inv X pins σ H { s with heap := PySem.W.copyHeap s.heap its } := I.kept (t' := s.toks) fun b o e => PySem.W.copyHeap_old e
  have ha : H (s.heap.objs.size + 1) = none := I.hok.fresh (Nat.le_succ _)
  have hx : H (s.heap.objs.size + 3) = none := I.hok.fresh (by omega)
  have ho : (PySem.W.copyHeap s.heap its).get? (s.heap.objs.size + 1) = some (seqObj "list" its.toArray 0) := PySem.W.copyHeap_at s.heap its
  have csz : (PySem.W.copyHeap s.heap its).objs.size = s.heap.objs.size + 2 := by
    unfold PySem.W.copyHeap
    rw [size_push', Heap.size_update, size_push']
  have lt := I.lt
  have sz := I.sz
  have nl : ∀ n, s.heap.objs.size ≤ n → n ≠ X.env.locals := fun n hn e => by
    rw [← e] at lt
    exact absurd lt (Nat.not_lt.mpr hn)
  have zl : ∀ n, s.heap.objs.size ≤ n → X.s_0.heap.objs.size ≤ n := fun n hn => Nat.le_trans sz hn
  have fa : s.heap.objs.size + 1 ∉ X.fs := I.nofs (Nat.le_succ _)
  have fx : s.heap.objs.size + 3 ∉ X.fs := I.nofs (by omega)
  have cc : ∀ n, s.heap.objs.size ≤ n → ∀ y c, X.env.cells.lookup y = some c → c ≠ n := fun n hn y c e z => by
    obtain ⟨v, o, e2, _⟩ := I.cell y c e
    have e3 := Heap.lt_size e2
    rw [z] at e3
    exact absurd e3 (Nat.not_lt.mpr hn)
  have pp : ∀ n, s.heap.objs.size ≤ n → ∀ p ∈ X.pn ++ pins, p.1 ≠ n := fun n hn p hp z => by
    have e3 := Heap.lt_size (I.pin p hp).1
    rw [z] at e3
    exact absurd e3 (Nat.not_lt.mpr hn)
  unfold PyProof.Rows.ksk_tree
  refine wpAny_bind (listItems_at ho rfl ?_)
  refine wpAny_bind (listUpdate_at ho rfl ?_ (by rw [List.size_toArray]; exact hle) (Nat.zero_le _))
  obtain ⟨e1, ho1⟩ : ∃ e1, ((PySem.W.copyHeap s.heap its).update (s.heap.objs.size + 1) (Obj.mapSeq fun _ => (#[] : Array Value))).get? (s.heap.objs.size + 1) = some (seqObj "list" #[] e1) := ⟨_, get?_update_seq ho fun _ => #[]⟩
  have up := Heap.SameBut.update (PySem.W.copyHeap s.heap its) (s.heap.objs.size + 1) (Obj.mapSeq fun _ => (#[] : Array Value))
  have I2 := I1.turned (t' := s.toks) (it := s.heap.objs.size + 1) (fun b o hbx e => (up.2 b hbx).trans e) ha (nl _ (Nat.le_succ _)) (.inr (zl _ (Nat.le_succ _))) (cc _ (Nat.le_succ _)) (pp _ (Nat.le_succ _))
  refine wpAny_bind (seqEpoch_at ho1 rfl ?_)
  refine wpAny_bind (wpAny_newTuple ?_ (by show its.length ≤ _; exact hle))
  refine wpAny_bind (wpAny_newList ?_ (Nat.zero_le _))
  refine wpAny_holding ?_
  dsimp only
  have us2 : ((PySem.W.copyHeap s.heap its).update (s.heap.objs.size + 1) (Obj.mapSeq fun _ => (#[] : Array Value))).objs.size = s.heap.objs.size + 2 := by rw [Heap.size_update, csz]
  have us3 : (((PySem.W.copyHeap s.heap its).update (s.heap.objs.size + 1) (Obj.mapSeq fun _ => (#[] : Array Value))).push (seqObj "tuple" its.toArray 0)).objs.size = s.heap.objs.size + 3 := by rw [size_push', us2]
  have I3 := I2.kept (t' := s.toks) (h' := (((PySem.W.copyHeap s.heap its).update (s.heap.objs.size + 1) (Obj.mapSeq fun _ => (#[] : Array Value))).push (seqObj "tuple" its.toArray 0)).push (seqObj "list" #[] 0)) fun b o e => Heap.get?_push_of_some _ (Heap.get?_push_of_some _ e)
  have gx : ((((PySem.W.copyHeap s.heap its).update (s.heap.objs.size + 1) (Obj.mapSeq fun _ => (#[] : Array Value))).push (seqObj "tuple" its.toArray 0)).push (seqObj "list" #[] 0)).get? (s.heap.objs.size + 3) = some (seqObj "list" #[] 0) := by
    have := Heap.get?_push_size (h := ((PySem.W.copyHeap s.heap its).update (s.heap.objs.size + 1) (Obj.mapSeq fun _ => (#[] : Array Value))).push (seqObj "tuple" its.toArray 0)) (o := seqObj "list" #[] 0) rfl
    rw [us3] at this
    exact this
  have ga := Heap.get?_push_of_some (seqObj "list" #[] 0) (Heap.get?_push_of_some (seqObj "tuple" its.toArray 0) ho1)
  have go := keys_run (x := s.heap.objs.size + 3) (a := s.heap.objs.size + 1) (e1 := e1) (E := E') (P := fun f s' => f = .done (.ret .none) ∧ EP X pins σ Q (.ref (s.heap.objs.size + 1)) s') F hr hb hd hK I3 rv hx ha (nl _ (by omega)) (nl _ (Nat.le_succ _)) (zl _ (by omega)) (zl _ (Nat.le_succ _)) (cc _ (by omega)) (cc _ (Nat.le_succ _)) (pp _ (by omega)) (pp _ (Nat.le_succ _)) fx fa (show (s.heap.objs.size + 3 : Nat) ≠ s.heap.objs.size + 1 by omega) gx ga hz al so dp turn
    (fun s' H' ys J sH na e => ⟨rfl, .ref (s.heap.objs.size + 1), _, J, rfl, q _ _ (Same.trans sH (fun b o e2 => by rw [upd_ne (fun z => by rw [z, na] at e2; cases e2)]; exact e2)) ha (by rw [upd_same, e])⟩)
  have ek : (((PySem.W.copyHeap s.heap its).update (s.heap.objs.size + 1) (Obj.mapSeq fun _ => (#[] : Array Value))).push { cls := .type "tuple", data := .seq its.toArray }).objs.size = s.heap.objs.size + 3 := us3
  rw [ek]
  exact go
end
end L2

namespace L2
open PySem PySem.Spec PyProof.Rows
/-! ### xs[::e] of a list, e being 1 or -1 -/
section
variable {X : Cx}
def tStepL (K : PySem.W.Frag) (te ti : TE) : TE := fun σ H Q => te σ H fun x H1 => ti σ H1 fun y H2 => ∃ a xs, x = .ref a ∧ SqL K H2 a xs ∧
  ((y = .int 1 ∧ ∀ p, H2 p = none → Q (.ref p) (upd H2 p (.lst xs))) ∨ (y = .int (-1) ∧ ∀ p, H2 p = none → Q (.ref p) (upd H2 p (.lst xs.reverse))))
theorem pick_fwd (its : List Value) : slicePick its.toArray none none (some 1) = its.toArray := by
  have h : slicePick its.toArray none none (some 1) = slicePick its.toArray none none none := rfl
  rw [h, slicePick_cut, HT.sIx_none, HT.sIx_none]
  simp
theorem pe_stepL {K : PySem.W.Frag} {e st : Expr} {te ti : TE} {p3 pos : Pos} (he : PE X e te) (hs : PE X st ti) (hK : X.K = K := by rfl) : PE X (.Subscript e (.Slice none none (some st) p3) pos) (tStepL K te ti) := by
  subst hK
  refine ⟨fun pins s σ H Q I h => ?_⟩
  refine Subscript_ (thn (he.run pins s σ H _ I h) fun v s1 z => ?_)
  obtain ⟨x, H1, I1, r1, q1⟩ := z
  refine wpAny_Slice (thn (po_none.run pins s1 σ H1 (fun o H2 => o = none ∧ H2 = H1) I1 ⟨rfl, rfl⟩) fun vl s2 z => ?_)
  obtain ⟨l, H2, I2, pl, el, e2⟩ := z
  subst el e2
  refine thn (po_none.run pins s2 σ H2 (fun o H3 => o = none ∧ H3 = H2) I2 ⟨rfl, rfl⟩) fun vu s3 z => ?_
  obtain ⟨u, H3, I3, pu, eu, e3⟩ := z
  subst eu e3
  have q2 : tPart ti σ H3 (fun o H4 => ∃ i, o = some i ∧ (i = 1 ∨ i = -1) ∧ ∃ a xs, x = .ref a ∧ SqL X.K H4 a xs ∧ ∀ p, H4 p = none → Q (.ref p) (upd H4 p (.lst (if i = 1 then xs else xs.reverse)))) := by
    refine (?_ : ti σ H3 _)
    have mono : (fun y H2 => ∃ a xs, x = V.ref a ∧ SqL X.K H2 a xs ∧ ((y = .int 1 ∧ ∀ p, H2 p = none → Q (.ref p) (upd H2 p (.lst xs))) ∨ (y = .int (-1) ∧ ∀ p, H2 p = none → Q (.ref p) (upd H2 p (.lst xs.reverse))))) =
        (fun (y : V) (H2 : Hp) => ∃ i, y = .int i ∧ ∃ j, some i = some j ∧ (j = 1 ∨ j = -1) ∧ ∃ a xs, x = .ref a ∧ SqL X.K H2 a xs ∧ ∀ p, H2 p = none → Q (.ref p) (upd H2 p (.lst (if j = 1 then xs else xs.reverse)))) := by
      funext y H2
      refine propext ⟨?_, ?_⟩
      · rintro ⟨a, xs, rfl, hx, ⟨rfl, q⟩ | ⟨rfl, q⟩⟩
        · exact ⟨1, rfl, 1, rfl, .inl rfl, a, xs, rfl, hx, q⟩
        · exact ⟨-1, rfl, -1, rfl, .inr rfl, a, xs, rfl, hx, q⟩
      · rintro ⟨i, rfl, j, e, hj, a, xs, rfl, hx, q⟩
        injection e with e
        subst e
        rcases hj with rfl | rfl
        · exact ⟨a, xs, rfl, hx, .inl ⟨rfl, q⟩⟩
        · exact ⟨a, xs, rfl, hx, .inr ⟨rfl, q⟩⟩
    exact mono ▸ q1
  refine thn ((po_some hs).run pins s3 σ H3 _ I3 q2) fun vs s4 z => ?_
  obtain ⟨o, H4, I4, ps, i, rfl, hi, a, xs, rfl, hx, q⟩ := z
  cases r1
  have I5 : Inv X pins σ H4 { s4 with heap := s4.heap.push { cls := .type "slice", data := .fields #[vl, vu, vs] } } := I4.kept (t' := s4.toks) fun b ob q => Heap.get?_push_of_some _ q
  obtain ⟨its, r, ht, hz⟩ := I5.list hx
  have hlen := r.length
  show wpAny (model X.prog X.w) X.A (subscriptTail e (.Slice none none (some st) p3) (.ref a) (.ref s4.heap.objs.size)) (EP X pins σ Q) X.xe { s4 with heap := s4.heap.push { cls := .type "slice", data := .fields #[vl, vu, vs] } }
  refine tail_any (ops := [.ref a, .ref s4.heap.objs.size]) ht.isList.typeIs (PySem.slot_list_getitem.lookup) ?_ (by with_unfolding_all rfl)
  refine wpAny_getItem_list_slice ht.isList (Heap.IsSliceOf.new _ vl vu vs) pl pu ps (by rcases hi with rfl | rfl <;> decide) ?_ (by rw [List.size_toArray]; omega)
  rcases hi with rfl | rfl
  · rw [pick_fwd]
    exact ⟨.ref _, _, I5.laid (t' := s4.toks) (o := .lst xs) (fun b ob q => Heap.get?_push_of_some _ q) (Nat.le_refl _) ⟨hz, _, 0, r, Heap.get?_push_size _ rfl⟩, rfl, q _ (I5.hok.fresh (Nat.le_refl _))⟩
  · rw [PySem.W.krv_pick]
    exact ⟨.ref _, _, I5.laid (t' := s4.toks) (o := .lst xs.reverse) (fun b ob q => Heap.get?_push_of_some _ q) (Nat.le_refl _) ⟨by rw [List.length_reverse]; exact hz, _, 0, r.reverse, Heap.get?_push_size _ rfl⟩, rfl, q _ (I5.hok.fresh (Nat.le_refl _))⟩
end
end L2

namespace L2
open PySem PySem.Spec PyProof.Rows
/-! ### text * number -/
section
variable {X : Cx}
theorem op_repS : OpR X (binaryOp .Mult) (fun x y H Q => ∃ (z : Str) (n : Int), x = .str z ∧ y = .int n ∧ MulOk z n ∧ Q (.str (Txt.mul z n)) H) := by
  intro pins s σ H x y v u Q I rx ry h
  obtain ⟨z, n, rfl, rfl, ok, q⟩ := h
  obtain ⟨t, rfl⟩ := rx
  obtain ⟨t', rfl⟩ := ry
  exact SB.mul ok fun t' tk => ⟨.str (Txt.mul z n), H, I.tok _, ⟨_, rfl⟩, q⟩
end
theorem rep_one (c : Nat) : ∀ (n : Nat) (a : Array Nat), ((List.replicate n (#[c] : Array Nat)).foldl (· ++ ·) a) = a ++ (List.replicate n c).toArray
  | 0, a => by simp
  | n + 1, a => by
    rw [List.replicate_succ, List.foldl_cons, rep_one c n, List.replicate_succ]
    apply Array.ext'
    simp
theorem mul_one {c n : Nat} (h : 2 ≤ n) : Txt.mul (⟨#[c]⟩ : Str) (n : Int) = ⟨(List.replicate n c).toArray⟩ := by
  unfold Txt.mul
  have e2 : ((n : Int) == 1 || (⟨#[c]⟩ : Str).length == 0) = false := by
    have : ((n : Int) == 1) = false := beq_eq_false_iff_ne.mpr (by omega)
    rw [this]
    rfl
  rw [if_neg (by omega), e2, if_neg (by decide), Int.toNat_natCast, rep_one]
  simp
end L2

namespace L2
open PySem PySem.Spec PyProof.Rows
/-! ### defs that ask what is being shown: called where no repr is under way -/
/-- no repr is under way -/
def NoRp (A : Around) : Prop := A.guards = some []
/-- a def's promise where no repr is under way -/
structure FnG (P : Program) (w : World) (K : PySem.W.Frag) (mg : Str → Option Value) (base : Heap) (CX : CXT) (k : Nat) (f : Addr) (fd : FuncData) (ps : List Str) (sp : Sp) : Prop where
  len : ∀ vs H Q E, sp vs H Q E → vs.length = ps.length
  run : ∀ (A : Around) (outer : List Env) (s : Shared) (H : Hp) (as : Args) (us : List Value) (vs : List V) (Q : VK) (E : XK), NoRp A → Room k A → Env0 P w K mg base A outer s H → BindsTo s fd as (ps.zip us) → Vals vs us → sp vs H Q E →
    codeAny (model P w) A (.call (.ref f) as) (CR CX outer P w H s Q E) s
theorem fn_ofG {CX : CXT} {P : Program} {w : World} {K : PySem.W.Frag} {mg : Str → Option Value} {base : Heap} {k : Nat} {f : Addr} {nm ql : Str} {params : Arguments} {body : List Stmt} {scope : Scope} {dV kV doc pm cdv ct oc : Value} {an od : Option Addr}
    {osl : Array (Option Value)} {N ps : List Str} {sp : Sp} (lk : K.lookup f = some ⟨oc, od, .func (PySem.W.fnOf nm ql params body scope dV kV doc pm an cdv ct), osl⟩) (hcd : PySem.W.codeIn K cdv ql = true) (S : FnScope N ps scope)
    (len : ∀ vs H Q E, sp vs H Q E → vs.length = ps.length)
    (go : ∀ (A : Around) (outer : List Env) (s : Shared) (H : Hp) (vs : List V) (Q : VK) (E : XK), NoRp A → Room k (A.deeper (envOfC ql scope s.heap.objs.size f cdv)) → sp vs H Q E →
      ∃ t, PSs (cxOf CX P w K mg base N ql scope f cdv A outer s H E) body t ∧ t { nx := fun _ H' => Q .non H', rt := Q } (start N vs) H) :
    FnG P w K mg base CX (k + 1) f (PySem.W.fnOf nm ql params body scope dV kV doc pm an cdv ct) ps sp := by
  refine ⟨len, fun A outer s H as us vs Q E g room e0 hb r z => ?_⟩
  have inK : K.In s.heap := e0.mod.kin.keeps fun b o e => (e0.bs b o e).1
  have noLim : s.heap.NoLimit := e0.mod.nolimit.keeps fun b o e => (e0.bs b o e).1
  have kinds : ∀ y ∈ ps.zip us, scope.names.lookup y.1 = some .local ∨ (scope.names.lookup y.1 = some .cell ∧ ((cellsFrom (s.heap.objs.size + 1) scope.names []).lookup y.1).isSome = true) := fun y hy => by
    obtain ⟨n, v⟩ := y
    exact (S.par n (List.of_mem_zip hy).1).imp id fun q => ⟨q, PySem.W.cellsFrom_some _ _ _ (.inl q)⟩
  refine codeAny_call_function room.depth (inK _ _ lk) rfl S.co S.gen rfl (PySem.W.codeRec_of inK hcd) (hb _ _ _ _ ?_)
  refine wpAny_newFunctionEnv_cells S.kind kinds fun env he s1 x => ?_
  subst he
  refine ⟨noLim.keeps x.toInCall.keep, codeAny_func ?_⟩
  obtain ⟨t, ht, q⟩ := go A outer s H vs Q E g (room.deeper _) z
  have I := inv_start (CX := CX) (E := E) S room.hd e0 (len _ _ _ _ z) r x
  refine wpAny_mono (ht.run [] s1 (start N vs) H _ I q) (fun fl s' hs => ?_) fun _ _ hs => hs
  cases fl with
  | ret u => exact let ⟨v, σ', H', J, rv, q⟩ := hs; ⟨v, H', J.os, J.bare, J.base, J.hok, rv, q⟩
  | next => exact let ⟨σ', H', J, q⟩ := hs; ⟨V.non, H', J.os, J.bare, J.base, J.hok, rfl, q⟩
  | brk => exact let ⟨_, _, _, q⟩ := hs; False.elim q
  | cont => exact let ⟨_, _, _, q⟩ := hs; False.elim q
section
variable {P : Program} {w : World} {K : PySem.W.Frag} {mg : Str → Option Value} {base : Heap}
theorem Fun.okG {x ql : Str} {st : Stmt} {f : Addr} {fd : FuncData} {N ps : List Str} {k : Nat} {sp : Sp} (F : Fun K x ql st f fd) (S : FnScope N ps (defScope st)) (len : ∀ vs H Q E, sp vs H Q E → vs.length = ps.length)
    (go : ∀ (cdv : Value) (A : Around) (outer : List Env) (s : Shared) (H : Hp) (vs : List V) (Q : VK) (E : XK), NoRp A → Room k (A.deeper (envOfC ql (defScope st) s.heap.objs.size f cdv)) → sp vs H Q E →
      ∃ t, PSs (cxOf CX0 P w K mg base N ql (defScope st) f cdv A outer s H E).nox (defBody st) t ∧ t { nx := fun _ H' => Q .non H', rt := Q } (start N vs) H) : FnG P w K mg base CX0 (k + 1) f fd ps sp := by
  obtain ⟨oc, od, kV, doc, pm, an, cdv, ct, osl, rfl, lk, hcd⟩ := F.ex
  refine fn_ofG lk hcd S len fun A outer s H vs Q E g room z => ?_
  obtain ⟨t, h, q⟩ := go cdv A outer s H vs Q E g room z
  exact ⟨t, h.nox, q⟩
end
section
variable {X : Cx} {CX : CXT} {x : Str} {k : Nat} {f : Addr} {fd : FuncData} {ps : List Str} {sp : Sp} {dvs : List V} {ds : List Value} {E : XK} {e : Expr} {es : List Expr} {t : TA} {p pos : Pos}
/-- f(e, ..) where f is such a def -/
theorem pe_callG (F : FnG X.prog X.w X.K X.mg X.base CX k f fd ps sp) (g : NoRp X.A) (hr : Room k X.A) (hg : Gl X x) (hm : X.mg x = some (.ref f)) (hk : PySem.W.keepIn X.K (.ref f) = true) (hb : Binds X.K fd ps ds) (hd : Vals dvs ds) (hx : Passes CX X E)
    (ha : PA X (e :: es) t) (hdb : (x == ("__debug__" : Str)) = false := by decide) (he : starEach (e :: es) X.env = (false, eval e X.env) :: starEach es X.env := by rfl) (hpl : (backTo pos (starEach es X.env)).any (·.1) = false := by rfl) :
    PE X (.Call (.Name x p) (e :: es) [] pos) (tCall sp dvs E t) := by
  refine ⟨fun pins s σ H Q I h => wpAny_Call_Name_kw (ld_glob I hg hm ?_ hdb)⟩
  refine PySem.W.callWith_K (h₀ := X.base) I.ok.mod.kin hk (thn (ha.run pos pins s σ H _ I h) fun us s1 z => ?_) he hpl
  obtain ⟨vs, H1, J, r, q⟩ := z
  have rr : Vals (vs ++ dvs) (us ++ ds) := r.append hd
  refine ⟨J.kIn, wpAny_call (codeAny_mono (F.run X.A X.stack s1 H1 ⟨us, []⟩ (us ++ ds) (vs ++ dvs) Q E g hr J.env0 (hb s1 us J.kIn (rr.length.symm.trans (F.len _ _ _ _ q))) rr q) fun r s' z => ?_)⟩
  cases r with
  | error er => exact hx pins σ H1 s1 er s' J z
  | ok fl =>
    cases fl with
    | ret u => exact J.after z
    | _ => exact False.elim z
/-- repr(e) of data -/
def rRepr (K : PySem.W.Frag) : List V → Hp → VK → Prop := fun vs H Q => ∃ (a : Addr) (d : PyData), vs = [.ref a] ∧ Dp K H (.ref a) d ∧ d.showable = true ∧ d.hasDict = false ∧ d.shown.length ≤ sizeLine ∧ d.depth ≤ 60 ∧ Q (.str d.shown) H
theorem call_reprD {K : PySem.W.Frag} (g : NoRp X.A) (hu : X.A.units + 64 < cLine) (hK : X.K = K := by rfl) : CallR X (.builtin "repr") (rRepr K) := by
  subst hK
  intro pins s σ H xs us Q I r h
  obtain ⟨a, d, rfl, hd, h1, h2, h3, h4, q⟩ := h
  obtain ⟨u, rfl, ru⟩ := vals1 r
  obtain ⟨as, rd⟩ := Dp.reads I d _ u hd ru
  cases (show u = Value.ref a from ru)
  exact repr_of_reads' rd h1 (PyData.noDict_hsm h2) g (by omega) (fun _ _ e => e) (fun h' u tk kp => ⟨.str d.shown, H, I.kept (t' := tk) kp, ⟨_, rfl⟩, q⟩) h3
end
/-! ### the head of a law that is such a def -/
theorem law_callG {P : Program} {w : World} {K : PySem.W.Frag} {mg mb : Str → Option Value} {k : Nat} {fa a : Addr} {fd : FuncData} {x : Str} {sp : Sp} {s : Shared} {vs : List Value} {ns : List Int}
    (inK : K.In s.heap) (hns : s.heap.Ns mainGlobals mg) (hb : s.heap.Ns builtinsNs mb) (hbb : ∀ x : Str, x ≠ "__name__" → mb x = bootBuiltins x) (hlim : s.heap.NoLimit) (hg : s.gens = #[])
    (ha : s.heap.get? a = some { cls := .type "list", data := .seq vs.toArray }) (hi : IntsAre vs ns) (hl : ns.length ≤ sizeLine) (hr : Room k callerA)
    (F : ∀ base : Heap, K.In base → base.Ns mainGlobals mg → FnG P w K mg base CX0 k fa fd [x] sp) (bind : ∀ (s : Shared) (u : Value), BindsTo s fd ⟨[u], []⟩ [(x, u)])
    (hsp : ∀ H : Hp, Only H → SqL K H a (ns.map V.int) → sp [.ref a] H (fun v _ => v = .bl true) fun _ _ _ => False) :
    codeAny (model P w) callerA (.call (.ref fa) ⟨[.ref a], []⟩) (fun r s' => r = .ok (.ret (.bool true)) ∧ OldK s.heap s'.heap ∧ s'.os = s.os ∧ AllBare s'.gens) s := by
  have main : ∀ H : Hp, Only H → SqL K H a (ns.map V.int) → HOk P w H s.heap → (∀ b, H b ≠ none → b = a) → (H a ≠ none → K.lookup a = none) →
      codeAny (model P w) callerA (.call (.ref fa) ⟨[.ref a], []⟩) (fun r s' => r = .ok (.ret (.bool true)) ∧ OldK s.heap s'.heap ∧ s'.os = s.os ∧ AllBare s'.gens) s := by
    intro H only sq ok hA hK
    have free : ∀ {b : Addr} {o : Obj} {es : Array DictEntry} {ep : Nat}, s.heap.get? b = some o → o.data = .dict es ep → H b = none := fun {b o es ep} e d => Classical.byContradiction fun nn => by
      rw [hA b nn, ha] at e
      injection e with e
      rw [← e] at d
      exact nomatch d
    have ns' : ∀ {b : Addr} {m : Str → Option Value}, s.heap.Ns b m → (hidT s.heap H).Ns b m := fun {b m} z => let ⟨o, es, ep, e, d, r⟩ := z; ⟨o, es, ep, hidT_get e (free e d), d, r⟩
    have inB : K.In (hidT s.heap H) := fun b o e => hidT_get (inK b o e) (Classical.byContradiction fun nn => by
      have eb := hA b nn
      subst eb
      rw [hK nn] at e
      cases e)
    have mod : Mod K mg (hidT s.heap H) := ⟨inB, ns' hns, ⟨mb, ns' hb, hbb⟩, let ⟨mc, z1, z2⟩ := hlim; ⟨mc, ns' z1, z2⟩⟩
    have e0 : Env0 P w K mg (hidT s.heap H) callerA [] s H := ⟨rfl, mod, fun b o e => of_hidT e, Nat.le_of_eq (hidT_size _ _), trivial, fun b z => (List.not_mem_nil (show b ∈ ([] : List Addr) from z)).elim, ok, .of_eq hg⟩
    refine codeAny_mono ((F _ inB (ns' hns)).run callerA [] s H ⟨[.ref a], []⟩ [.ref a] [.ref a] _ _ rfl hr e0 (bind s (.ref a)) (.cons rfl .nil) (hsp H only sq)) fun r s' z => ?_
    rcases r with e | (_ | _ | _ | u)
    · exact z.elim
    all_goals first | exact False.elim z | skip
    obtain ⟨v, H', os, bare, un, ok', rv, q⟩ := z
    cases (show v = .bl true from q)
    cases (show u = Value.bool true from rv)
    refine ⟨rfl, OldK.of_keep fun b o e => ?_, os, bare⟩
    rcases only b with n | ⟨ob, xs, y⟩
    · exact un.keep b o e n (fun z => (List.not_mem_nil (show b ∈ ([] : List Addr) from z)).elim) (by simp)
    · obtain ⟨g1, _⟩ := ok b _ y
      obtain ⟨g2, _⟩ := ok' b _ (un.frzs b ob _ y)
      rw [e] at g1
      cases g1
      exact g2
  have rv := vals_ints hi
  by_cases hk : K.lookup a = none
  · let H0 : Hp := fun b => if b = a then some (.frz { cls := .type "list", data := .seq vs.toArray } (.lst (ns.map V.int))) else none
    have at_a : H0 a = some (.frz { cls := .type "list", data := .seq vs.toArray } (.lst (ns.map V.int))) := if_pos rfl
    have off : ∀ {b}, b ≠ a → H0 b = none := fun h => if_neg h
    refine main H0 (fun b => ?_) (.inl (.inr ⟨_, at_a⟩)) (fun b u z => ?_) (fun b z => Classical.byContradiction fun h => z (off h)) fun _ => hk
    · by_cases h : b = a
      · subst h; exact .inr ⟨_, _, at_a⟩
      · exact .inl (off h)
    · by_cases h : b = a
      · subst h
        rw [at_a] at z
        cases z
        exact ⟨ha, by rw [List.length_map]; exact hl, vs, _, rv, ha⟩
      · rw [off h] at z
        cases z
  · obtain ⟨o, ho⟩ := Option.ne_none_iff_exists'.mp hk
    have e := inK a o ho
    rw [ha] at e
    cases e
    exact main (fun _ => none) (fun _ => .inl rfl) (.inr ⟨_, vs.toArray, _, ho, rfl, rfl, rfl, by rw [List.size_toArray, hi.length]; exact hl, by simpa using rv⟩) (fun b u z => nomatch (show (none : Option HO) = some u from z)) (fun b z => absurd rfl z) fun z => absurd rfl z
theorem walk_ofG {l : PySem.W.OpenLaw} {n k : Nat} {q : Program} {loose : List Str} {XP : (Str → Option Value) → Heap → Prop} {YP : World → Heap → Prop} {d : DefRec} {K : Params → PySem.W.Frag} {sp : World → Sp} {x : Str}
    (hn : l.most = some n) (hn2 : n ≤ sizeLine) (hdf : d.params.defaults = []) (hr : Room k callerA) (hY : ∀ (w : World) (h : Heap), YP w h → (K w.params).In h)
    (F : ∀ (w : World) (mg : Str → Option Value) (fa : Addr) (h : Heap), (K w.params).In h → h.Ns mainGlobals mg → mg d.name = some (.ref fa) →
      ∃ fd : FuncData, (∀ (s : Shared) (u : Value), BindsTo s fd ⟨[u], []⟩ [(x, u)]) ∧ ∀ base : Heap, (K w.params).In base → base.Ns mainGlobals mg → FnG l.prog w (K w.params) mg base CX0 k fa fd [x] (sp w))
    (hsp : ∀ (w : World) (H : Hp) (a : Addr) (ns : List Int), ns.length ≤ n → Only H → SqL (K w.params) H a (ns.map V.int) → sp w [.ref a] H (fun v _ => v = .bl true) fun _ _ _ => False) :
    PySem.W.WalkO q loose XP YP l.row.toRowW d [] (fun f vs => PySem.call f vs) := by
  refine Att.attach_call hn hdf fun w s₀ s₁ mg mb fa o pm cd doc a vs ns G Y ho hd hcd hmg hobj hints hlen hg => ?_
  obtain ⟨fd, hb, hF⟩ := F w mg fa _ (hY w _ Y) G.T.g hmg
  exact law_callG (hY w _ Y) G.T.g G.T.b G.T.builtins G.T.nolimit hg hobj hints (Nat.le_trans hlen hn2) hr hF hb fun H hO hS => hsp w H a ns hlen hO hS
end L2

namespace L2
open PySem PySem.Spec PyProof.Rows
/-! ### sorted(text, key=f), f an own def -/
section
variable {X : Cx}
def sgV (z : Str) : List V := z.cps.toList.map fun c => V.str ⟨#[c]⟩
def rSortFS (f : Addr) (sp : Sp) (dvs : List V) : List V → List V → Hp → VK → Prop := fun vs zs H Q =>
  ∃ (z : Str) (bs : List (V × PyData)), vs = [.str z] ∧ zs = [.ref f] ∧ bs.map (·.1) = sgV z ∧ PySem.W.AllAlike (bs.map (·.2)) ∧ PySem.W.Sortable (bs.map (·.2)) ∧ bs.length ≤ 100000 ∧ (∀ b ∈ bs, b.2.depth ≤ 50) ∧
    (∀ b ∈ bs, ∀ H1, Same H H1 → ∀ Q1 : VK, (∀ v H2, Same H1 H2 → (∀ K H3, Same H2 H3 → Dp K H3 v b.2) → Q1 v H2) → sp (b.1 :: dvs) H1 Q1 fun _ _ _ => False) ∧
    ∀ q H2, Same H H2 → H q = none → H2 q = some (.lst ((bs.mergeSort (PySem.W.dataLe false (·.2))).map (·.1))) → Q (.ref q) H2
theorem vals_get2 : ∀ {xs : List V} {us : List Value}, xs.length = us.length → (∀ (i : Nat) (u : Value), us[i]? = some u → ∃ x : V, xs[i]? = some x ∧ RelV x u) → Vals xs us
  | [], [], _, _ => .nil
  | [], _ :: _, h, _ => by cases h
  | _ :: _, [], h, _ => by cases h
  | x :: xs, u :: us, h, g => by
    obtain ⟨y, hy, r⟩ := g 0 u rfl
    have e : x = y := by simpa using hy
    subst e
    exact .cons r (vals_get2 (by simpa using h) fun i v hv => g (i + 1) v hv)
theorem vals_signsF {z : Str} {acc : Array Value} (h : ItemsOf (SignAt z) acc z.cps.size) : Vals (sgV z) acc.toList := by
  obtain ⟨h1, h2⟩ := h
  refine vals_get2 (by rw [sgV, List.length_map, Array.length_toList, Array.length_toList, h1]) fun i v hv => ?_
  rw [Array.getElem?_toList] at hv
  obtain ⟨c, u, hc, rfl⟩ := h2 i v hv
  refine ⟨V.str ⟨#[c]⟩, ?_, u, rfl⟩
  rw [sgV, List.getElem?_map, Array.getElem?_toList, hc]
  rfl
theorem call_sortFS {k : Nat} {f : Addr} {fd : FuncData} {ps : List Str} {sp : Sp} {dvs : List V} {ds : List Value} (F : FnOk X.prog X.w X.K X.mg X.base CX0 k f fd ps sp) (hr : Room (k + 2) X.A) (hb : Binds X.K fd ps ds) (hd : Vals dvs ds) (hc : X.calm = true) :
    CallRK X (.builtin "sorted") [Str.ofString "key"] (rSortFS f sp dvs) := by
  intro pins s σ H xs zs us ws Q I r1 r2 h
  obtain ⟨z, bs, rfl, rfl, hS, al, so, hz, dp, turn, q⟩ := h
  obtain ⟨u, rfl, ru⟩ := vals1 r1
  obtain ⟨t, rfl⟩ := ru
  obtain ⟨g, rfl, rg⟩ := vals1 r2
  cases (show g = Value.ref f from rg)
  have big : (100000 : Nat) ≤ sizeLine := by decide
  have zl0 : z.cps.size = bs.length := by
    have := congrArg List.length hS
    rw [List.length_map, sgV, List.length_map, Array.length_toList] at this
    exact this.symm
  refine PyProof.Rows.call_function_entry_kw kind_sorted plain_sorted entry_sorted (PyProof.Rows.ksk_s1 _ _) ?_
  unfold Builtin.«sorted»
  refine wpAny_bind (m := checkCount "sorted" 1 1 _) (wpAny_pure ?_)
  refine wpAny_bind (wpAny_collect_str (A := X.A.in1) (I.ok.hd hc) z t (fun s' acc k0 eg ed eo hi => ?_) (by omega))
  obtain ⟨hh, g', d', t', os'⟩ := s'
  have eg : g' = s.gens := eg
  have ed : d' = s.drawn := ed
  have eo : os' = s.os := eo
  subst eg; subst ed; subst eo
  have rv : Vals (bs.map (·.1)) acc.toList := hS ▸ vals_signsF hi
  generalize acc.toList = its at rv ⊢
  have hlen : its.length = bs.length := by rw [← rv.length, List.length_map]
  have hle : its.length ≤ sizeLine := by omega
  have I0 : Inv X pins σ H { s with heap := hh, toks := t' } := I.kept (t' := t') k0
  refine wpAny_bind (wpAny_newList ?_ hle)
  have hoL : (hh.push (seqObj "list" its.toArray 0)).get? hh.objs.size = some (seqObj "list" its.toArray 0) := Heap.get?_push_size _ rfl
  refine wpAny_bind (wpAny_holding (wpAny_call_entry_kw slot_list_sort ⟨_, hoL, rfl⟩ entry_list_sort ?body (PyProof.Rows.ksk_l1 _ _)))
  case body =>
  show wpAny (model X.prog X.w) X.A.in1.in1 (Builtin.«list.sort» ⟨[.ref hh.objs.size], [(Str.ofString "key", .ref f)]⟩) _ _ _
  refine wpAny_mono (Q := fun f s' => f = .done (.ret .none) ∧ EP X pins σ Q (.ref hh.objs.size) s') ?_ (fun f s' hf => ?_) fun _ _ e => e
  case refine_2 =>
    obtain ⟨rfl, hq⟩ := hf
    exact ⟨_, rfl, wpAny_pure ⟨_, rfl, hq⟩⟩
  rw [PyProof.Rows.ksk_t1]
  have I1 : Inv X pins σ H { s with heap := hh.push (seqObj "list" its.toArray 0), toks := t' } := I0.kept (t' := t') fun b o e => Heap.get?_push_of_some _ e
  have ha : H hh.objs.size = none := I0.hok.fresh (Nat.le_refl _)
  have hx : H (hh.objs.size + 2) = none := I0.hok.fresh (Nat.le_add_right _ 2)
  have csz : (hh.push (seqObj "list" its.toArray 0)).objs.size = hh.objs.size + 1 := size_push' _ _
  have lt : X.env.locals < hh.objs.size := I0.lt
  have sz : X.s_0.heap.objs.size ≤ hh.objs.size := I0.sz
  have nl : ∀ n, hh.objs.size ≤ n → n ≠ X.env.locals := fun n hn e => by
    rw [← e] at lt
    exact absurd lt (Nat.not_lt.mpr hn)
  have zl : ∀ n, hh.objs.size ≤ n → X.s_0.heap.objs.size ≤ n := fun n hn => Nat.le_trans sz hn
  have fa : hh.objs.size ∉ X.fs := I0.nofs (Nat.le_refl _)
  have fx : hh.objs.size + 2 ∉ X.fs := I0.nofs (Nat.le_add_right _ 2)
  have cc : ∀ n, hh.objs.size ≤ n → ∀ y c, X.env.cells.lookup y = some c → c ≠ n := fun n hn y c e z => by
    obtain ⟨v, o, e2, _⟩ := I0.cell y c e
    have e3 : c < hh.objs.size := Heap.lt_size e2
    rw [z] at e3
    exact absurd e3 (Nat.not_lt.mpr hn)
  have pp : ∀ n, hh.objs.size ≤ n → ∀ p ∈ X.pn ++ pins, p.1 ≠ n := fun n hn p hp z => by
    have e3 : p.1 < hh.objs.size := Heap.lt_size (I0.pin p hp).1
    rw [z] at e3
    exact absurd e3 (Nat.not_lt.mpr hn)
  unfold PyProof.Rows.ksk_tree
  refine wpAny_bind (listItems_at hoL rfl ?_)
  refine wpAny_bind (listUpdate_at hoL rfl ?_ (by rw [List.size_toArray]; exact hle) (Nat.zero_le _))
  obtain ⟨e1, ho1⟩ : ∃ e1, ((hh.push (seqObj "list" its.toArray 0)).update hh.objs.size (Obj.mapSeq fun _ => (#[] : Array Value))).get? hh.objs.size = some (seqObj "list" #[] e1) := ⟨_, get?_update_seq hoL fun _ => #[]⟩
  have up := Heap.SameBut.update (hh.push (seqObj "list" its.toArray 0)) hh.objs.size (Obj.mapSeq fun _ => (#[] : Array Value))
  have I2 := I1.turned (t' := t') (it := hh.objs.size) (fun b o hbx e => (up.2 b hbx).trans e) ha (nl _ (Nat.le_refl _)) (.inr (zl _ (Nat.le_refl _))) (cc _ (Nat.le_refl _)) (pp _ (Nat.le_refl _))
  refine wpAny_bind (seqEpoch_at ho1 rfl ?_)
  refine wpAny_bind (wpAny_newTuple ?_ (by show its.length ≤ _; exact hle))
  refine wpAny_bind (wpAny_newList ?_ (Nat.zero_le _))
  refine wpAny_holding ?_
  dsimp only
  have us2 : ((hh.push (seqObj "list" its.toArray 0)).update hh.objs.size (Obj.mapSeq fun _ => (#[] : Array Value))).objs.size = hh.objs.size + 1 := by rw [Heap.size_update, csz]
  have us3 : (((hh.push (seqObj "list" its.toArray 0)).update hh.objs.size (Obj.mapSeq fun _ => (#[] : Array Value))).push (seqObj "tuple" its.toArray 0)).objs.size = hh.objs.size + 2 := by rw [size_push', us2]
  have I3 := I2.kept (t' := t') (h' := (((hh.push (seqObj "list" its.toArray 0)).update hh.objs.size (Obj.mapSeq fun _ => (#[] : Array Value))).push (seqObj "tuple" its.toArray 0)).push (seqObj "list" #[] 0)) fun b o e => Heap.get?_push_of_some _ (Heap.get?_push_of_some _ e)
  have gx : ((((hh.push (seqObj "list" its.toArray 0)).update hh.objs.size (Obj.mapSeq fun _ => (#[] : Array Value))).push (seqObj "tuple" its.toArray 0)).push (seqObj "list" #[] 0)).get? (hh.objs.size + 2) = some (seqObj "list" #[] 0) := by
    have := Heap.get?_push_size (h := ((hh.push (seqObj "list" its.toArray 0)).update hh.objs.size (Obj.mapSeq fun _ => (#[] : Array Value))).push (seqObj "tuple" its.toArray 0)) (o := seqObj "list" #[] 0) rfl
    rw [us3] at this
    exact this
  have ga := Heap.get?_push_of_some (seqObj "list" #[] 0) (Heap.get?_push_of_some (seqObj "tuple" its.toArray 0) ho1)
  have go := keys_run (K := X.K) (x := hh.objs.size + 2) (a := hh.objs.size) (e1 := e1) (E := X.xe) (P := fun f s' => f = .done (.ret .none) ∧ EP X pins σ Q (.ref hh.objs.size) s') F hr hb hd rfl I3 rv hx ha (nl _ (Nat.le_add_right _ 2)) (nl _ (Nat.le_refl _)) (zl _ (Nat.le_add_right _ 2)) (zl _ (Nat.le_refl _)) (cc _ (Nat.le_add_right _ 2)) (cc _ (Nat.le_refl _)) (pp _ (Nat.le_add_right _ 2)) (pp _ (Nat.le_refl _)) fx fa (show (hh.objs.size + 2 : Nat) ≠ hh.objs.size by omega) gx ga hz al so dp (fun b hb' H1 s1 Q1 q1 => turn b hb' H1 s1 Q1 fun v H2 a1 a2 => q1 v H2 a1 (a2 X.K))
    (fun s' H' ys J sH na e => ⟨rfl, .ref hh.objs.size, _, J, rfl, q _ _ (Same.trans sH (fun b o e2 => by rw [upd_ne (fun z => by rw [z, na] at e2; cases e2)]; exact e2)) ha (by rw [upd_same, e])⟩)
  have ek : ((hh.push (seqObj "list" its.toArray 0)).update hh.objs.size (Obj.mapSeq fun _ => (#[] : Array Value))).push { cls := .type "tuple", data := .seq its.toArray } = ((hh.push (seqObj "list" its.toArray 0)).update hh.objs.size (Obj.mapSeq fun _ => (#[] : Array Value))).push (seqObj "tuple" its.toArray 0) := rfl
  rw [ek, us3]
  exact go
end
end L2

namespace L2
open PySem PySem.Spec PyProof.Rows
/-! ### len(x) by an own __len__ -/
section
variable {X : Cx}
/-- an own function called from within a builtin -/
theorem own_run {CX : CXT} {n : Nat} {f : Addr} {fd : FuncData} {ps : List Str} {sp : Sp} {E : XK} {A : Around} {pins : List (Addr × Obj)} {σ : St} {H : Hp} {s : Shared} {vs : List V} {us : List Value} {Q : VK}
    (F : FnOk X.prog X.w X.K X.mg X.base CX n f fd ps sp) (hb : Binds X.K fd ps []) (hx : Passes CX X E) (sb : Sub X n A) (I : Inv X pins σ H s) (r : Vals vs us) (hsp : sp vs H Q E) :
    wpAny (model X.prog X.w) A (call (.ref f) us) (fun u s' => ∃ v H', Inv X pins σ H' s' ∧ RelV v u ∧ Q v H') X.xe s := by
  have e0 : Env0 X.prog X.w X.K X.mg X.base A X.stack s H := by
    have e := I.env0
    exact ⟨by rw [sb.fr]; exact e.frames, e.mod, e.bs, e.bsz, e.funs, e.frf, e.hok, e.bare⟩
  have hl := F.len _ _ _ _ hsp
  refine wpAny_call (codeAny_mono (F.run A X.stack s H ⟨us, []⟩ us vs _ E sb.room e0 (by
    have := hb s us I.kIn (by rw [List.append_nil, ← r.length]; exact hl)
    simpa using this) r hsp) fun r s' hq => ?_)
  cases r with
  | error e => exact hx pins σ H s e s' I hq
  | ok fl =>
    cases fl with
    | ret w => exact I.after hq
    | next => exact False.elim hq
    | brk => exact False.elim hq
    | cont => exact False.elim hq
def rLenO (C : Addr) (sp : Sp) (E : XK) : List V → Hp → VK → Prop := fun vs H Q => ∃ (a dx : Addr) (fs : List (Str × V)), vs = [.ref a] ∧ H a = some (.ins C dx fs) ∧
  sp [.ref a] H (fun v H' => ∃ n : Nat, v = .int n ∧ n < 9223372036854775808 ∧ Q (.int n) H') E
theorem call_lenO {CX : CXT} {n : Nat} {C f : Addr} {fd : FuncData} {ps : List Str} {ds : List Value} {sp : Sp} {E : XK} (hs : PySem.W.findIn X.K (.ref C) "__len__" = some (some (.ref f))) (hf : PySem.W.isFn X.K (.ref f) = true)
    (F : FnOk X.prog X.w X.K X.mg X.base CX n f fd ps sp) (hr : Room (n + 1) X.A) (hb : Binds X.K fd ps ds) (hd : Vals [] ds) (hx : Passes CX X E) : CallR X (.builtin "len") (rLenO C sp E) := by
  cases hd
  intro pins s σ H xs us Q I r h
  obtain ⟨a, dx, fs, rfl, ha, hsp⟩ := h
  obtain ⟨u, rfl, ru⟩ := vals1 r
  cases (show u = Value.ref a from ru)
  obtain ⟨mA, J, _⟩ := ins_get I.hok ha
  obtain ⟨od, J, _⟩ := J.look
  refine Calls.call_function_entry kind_len plain_len entry_len (args_len1 _) ?_
  unfold Builtin.«len»
  refine wpAny_bind (m := oneArg "len" _) (wpAny_pure ?_)
  refine wpAny_bind (m := callSpecial? (.ref a) (Str.ofString "__len__")) (PySem.W.special_fn (name := "__len__") I.kIn J hs (beq_iff_eq.mp hf) ?_)
  refine wpAny_mono (own_run F hb hx (Sub.in1 ⟨hr, rfl⟩) I (show Vals [V.ref a] [Value.ref a] from .cons rfl .nil) hsp) (fun v s' z => ?_) fun _ _ e => e
  obtain ⟨x, H', I', rx, m, rfl, hm, q⟩ := z
  obtain ⟨tk, rfl⟩ := rx
  refine wpAny_bind (wpAny_holding (wpAny_pure ?_))
  refine wpAny_bind (wpAny_letGo ?_)
  show wpAny _ _ (if ((m : Nat) : Int) < 0 then _ else _) _ _ _
  rw [if_neg (by omega)]
  show wpAny _ _ (if ((m : Nat) : Int) ≥ 2 ^ 63 then _ else _) _ _ _
  rw [if_neg (by omega)]
  exact wpAny_bind (wpAny_mkInt (wpAny_pure ⟨_, rfl, ⟨.int m, H', I'.tok _, ⟨_, rfl⟩, q⟩⟩))
/-- == by an own __eq__ -/
def rEqO (C : Addr) (sp : Sp) (E : XK) : V → V → Hp → VK → Prop := fun x y H Q => ∃ (a b dx dy : Addr) (fs gs : List (Str × V)), x = .ref a ∧ y = .ref b ∧ H a = some (.ins C dx fs) ∧ H b = some (.ins C dy gs) ∧
  sp [.ref a, .ref b] H (fun v H' => ∃ r : Bool, v = .bl r ∧ Q (.bl r) H') E
theorem op_eqO {CX : CXT} {n : Nat} {C f : Addr} {fd : FuncData} {ps : List Str} {ds : List Value} {sp : Sp} {E : XK} (hs : PySem.W.findIn X.K (.ref C) "__eq__" = some (some (.ref f))) (hf : PySem.W.isFn X.K (.ref f) = true)
    (F : FnOk X.prog X.w X.K X.mg X.base CX n f fd ps sp) (hr : Room n X.A) (hb : Binds X.K fd ps ds) (hd : Vals [] ds) (hx : Passes CX X E) : OpR X (compareOp .Eq) (rEqO C sp E) := by
  cases hd
  intro pins s σ H x y v u Q I rx ry h
  obtain ⟨a, b, dx, dy, fs, gs, rfl, rfl, ha, hb', hsp⟩ := h
  cases rx
  cases ry
  obtain ⟨mA, J, _⟩ := ins_get I.hok ha
  obtain ⟨mB, J', _⟩ := ins_get I.hok hb'
  obtain ⟨od, J, _⟩ := J.look
  obtain ⟨od', J', _⟩ := J'.look
  obtain ⟨m, hF⟩ := I.fr
  show wpAny (model X.prog X.w) X.A (richCompare .Eq (.ref a) (.ref b)) (EP X pins σ Q) X.xe s
  refine PySem.W.cmp_K (op := .Eq) (tb := .ref C) hr.units0 hF I.ok.mod.kin J J'.type (by simp [PySem.W.notFirst]) hs hf ?_
  refine wpAny_mono (own_run F hb hx ⟨hr, rfl⟩ I (show Vals [V.ref a, V.ref b] [Value.ref a, Value.ref b] from .cons rfl (.cons rfl .nil)) hsp) (fun v s' z => ?_) fun _ _ e => e
  obtain ⟨x, H', I', rv, r, rfl, q⟩ := z
  cases rv
  exact ⟨.bl r, H', I', rfl, q⟩
end
end L2

namespace PySem
theorem Runs.det {M : Model} {Γ : Ctx} {p : Pos} {t : Sem Fin} {fs : List Frame} {s : Shared} {e : End} {s1 : Shared} (h : Runs M Γ p t fs s e s1) : ∀ {e2 : End} {s2 : Shared}, Runs M Γ p t fs s e2 s2 → e2 = e ∧ s2 = s1 := by
  induction h with
  | done => intro e2 s2 h; cases h; exact ⟨rfl, rfl⟩
  | raise => intro e2 s2 h; cases h; exact ⟨rfl, rfl⟩
  | again q _ ih => intro e2 s2 h; cases h with | again _ h => exact ih h
  | rule _ ih => intro e2 s2 h; cases h with | rule h => exact ih h
  | «at» _ ih => intro e2 s2 h; cases h with | «at» h => exact ih h
  | load q _ ih => intro e2 s2 h; cases h with | load q2 h => rw [q] at q2; cases q2; exact ih h
  | update _ _ ih => intro e2 s2 h; cases h with | update _ h => exact ih h
  | loadIfAlive _ ih => intro e2 s2 h; cases h with | loadIfAlive h => exact ih h
  | point _ ih => intro e2 s2 h; cases h with | point h => exact ih h
  | alloc _ ih => intro e2 s2 h; cases h with | alloc h => exact ih h
  | fresh _ ih => intro e2 s2 h; cases h with | fresh h => exact ih h
  | ask _ ih => intro e2 s2 h; cases h with | ask h => exact ih h
  | choose _ _ ih => intro e2 s2 h; cases h with | choose _ h => exact ih h
  | os _ ih => intro e2 s2 h; cases h with | os h => exact ih h
  | handled _ ih => intro e2 s2 h; cases h with | handled h => exact ih h
  | genState q _ ih => intro e2 s2 h; cases h with | genState q2 h => rw [q] at q2; cases q2; exact ih h
  | stack _ ih => intro e2 s2 h; cases h with | stack h => exact ih h
  | thread _ ih => intro e2 s2 h; cases h with | thread h => exact ih h
  | newGen _ ih => intro e2 s2 h; cases h with | newGen h => exact ih h
  | call _ _ ih1 ih2 =>
    intro e2 s2 h
    cases h with
    | call h1 h2 =>
      obtain ⟨a, b⟩ := ih1 h1
      cases a; cases b
      exact ih2 h2
    | callSusp h1 =>
      obtain ⟨a, _⟩ := ih1 h1
      cases a
  | callSusp _ ih =>
    intro e2 s2 h
    cases h with
    | call h1 h2 =>
      obtain ⟨a, _⟩ := ih h1
      cases a
    | callSusp h1 =>
      obtain ⟨a, b⟩ := ih h1
      cases a; cases b
      exact ⟨rfl, rfl⟩
  | yield => intro e2 s2 h; cases h; exact ⟨rfl, rfl⟩
  | resumeFresh q _ _ _ ih1 ih2 =>
    intro e2 s2 h
    cases h with
    | resumeFresh q2 h1 _ h2 =>
      rw [q] at q2; cases q2
      obtain ⟨a, b⟩ := ih1 h1
      cases a; cases b
      exact ih2 h2
    | resumeSuspended q2 => rw [q] at q2; cases q2
    | resumeJustStarted q2 n => exact absurd rfl n
    | resumeRunning q2 => rw [q] at q2; cases q2
    | resumeFinished q2 => rw [q] at q2; cases q2
  | resumeSuspended q _ _ _ ih1 ih2 =>
    intro e2 s2 h
    cases h with
    | resumeFresh q2 => rw [q] at q2; cases q2
    | resumeSuspended q2 h1 _ h2 =>
      rw [q] at q2; cases q2
      obtain ⟨a, b⟩ := ih1 h1
      cases a; cases b
      exact ih2 h2
    | resumeJustStarted q2 => rw [q] at q2; cases q2
    | resumeThrowFresh q2 => rw [q] at q2; cases q2
    | resumeRunning q2 => rw [q] at q2; cases q2
    | resumeFinished q2 => rw [q] at q2; cases q2
  | resumeJustStarted q n _ ih =>
    intro e2 s2 h
    cases h with
    | resumeFresh q2 => exact absurd rfl n
    | resumeSuspended q2 => rw [q] at q2; cases q2
    | resumeJustStarted q2 _ h => exact ih h
    | resumeRunning q2 => rw [q] at q2; cases q2
    | resumeFinished q2 => rw [q] at q2; cases q2
  | resumeThrowFresh q _ ih =>
    intro e2 s2 h
    cases h with
    | resumeSuspended q2 => rw [q] at q2; cases q2
    | resumeThrowFresh q2 h => exact ih h
    | resumeRunning q2 => rw [q] at q2; cases q2
    | resumeFinished q2 => rw [q] at q2; cases q2
  | resumeRunning q _ ih =>
    intro e2 s2 h
    cases h with
    | resumeFresh q2 => rw [q] at q2; cases q2
    | resumeSuspended q2 => rw [q] at q2; cases q2
    | resumeJustStarted q2 => rw [q] at q2; cases q2
    | resumeThrowFresh q2 => rw [q] at q2; cases q2
    | resumeRunning q2 h => exact ih h
    | resumeFinished q2 => rw [q] at q2; cases q2
  | resumeFinished q _ ih =>
    intro e2 s2 h
    cases h with
    | resumeFresh q2 => rw [q] at q2; cases q2
    | resumeSuspended q2 => rw [q] at q2; cases q2
    | resumeJustStarted q2 => rw [q] at q2; cases q2
    | resumeThrowFresh q2 => rw [q] at q2; cases q2
    | resumeRunning q2 => rw [q] at q2; cases q2
    | resumeFinished q2 h => exact ih h
  | segRet _ _ ih1 ih2 =>
    intro e2 s2 h
    cases h with
    | segRet h1 h2 =>
      obtain ⟨a, b⟩ := ih1 h1
      cases a; cases b
      exact ih2 h2
    | segSuspOut _ h1 => obtain ⟨a, _⟩ := ih1 h1; cases a
    | segSuspGen _ h1 => obtain ⟨a, _⟩ := ih1 h1; cases a
  | segGen _ _ ih1 ih2 =>
    intro e2 s2 h
    cases h with
    | segGen h1 h2 =>
      obtain ⟨a, b⟩ := ih1 h1
      cases a; cases b
      exact ih2 h2
    | segSuspOut _ h1 => obtain ⟨a, _⟩ := ih1 h1; cases a
    | segSuspGen _ h1 => obtain ⟨a, _⟩ := ih1 h1; cases a
  | segSuspOut q _ ih =>
    intro e2 s2 h
    cases h with
    | segRet h1 => obtain ⟨a, _⟩ := ih h1; cases a
    | segGen h1 => obtain ⟨a, _⟩ := ih h1; cases a
    | segSuspOut _ h1 =>
      obtain ⟨a, b⟩ := ih h1
      cases a; cases b
      exact ⟨rfl, rfl⟩
    | segSuspGen q2 => rw [q] at q2; cases q2
  | segSuspGen q _ _ _ ih1 ih2 =>
    intro e2 s2 h
    cases h with
    | segRet h1 => obtain ⟨a, _⟩ := ih1 h1; cases a
    | segGen h1 => obtain ⟨a, _⟩ := ih1 h1; cases a
    | segSuspOut q2 => rw [q] at q2; cases q2
    | segSuspGen q2 h1 _ h2 =>
      rw [q] at q2; cases q2
      obtain ⟨a, b⟩ := ih1 h1
      cases a; cases b
      exact ih2 h2
theorem Wakes.det {M : Model} {Γ : Ctx} {p : Pos} {g : Nat} {r : Resume} {s : Shared} {a b : GenResult} {s1 s2 : Shared} (h1 : Wakes M Γ p g r s a s1) (h2 : Wakes M Γ p g r s b s2) : b = a ∧ s2 = s1 := by
  have runs : ∀ {Γ' : Ctx} {p' : Pos} {t : Sem Fin} {fs : List Frame} {s0 : Shared}, (∃ e₁ t₁, Runs M Γ' p' t fs s0 e₁ t₁ ∧ e₁.quiet = true ∧ a = e₁.result ∧ s1 = t₁.setGen g e₁.genState) → (∃ e₁ t₁, Runs M Γ' p' t fs s0 e₁ t₁ ∧ e₁.quiet = true ∧ b = e₁.result ∧ s2 = t₁.setGen g e₁.genState) → b = a ∧ s2 = s1 := by
    rintro _ _ _ _ _ ⟨e1, t1, r1, _, rfl, rfl⟩ ⟨e2, t2, r2, _, rfl, rfl⟩
    obtain ⟨rfl, rfl⟩ := r1.det r2
    exact ⟨rfl, rfl⟩
  have same : ∀ {x : GenResult} {t : Shared}, (a = x ∧ s1 = t) → (b = x ∧ s2 = t) → b = a ∧ s2 = s1 := by
    rintro _ _ ⟨rfl, rfl⟩ h
    exact h
  unfold Wakes at h1 h2
  generalize s.gens[g]? = o at h1 h2
  cases o with
  | none => exact h1.elim
  | some st =>
    cases st with
    | fresh c =>
      cases r with
      | send v =>
        cases v with
        | none => exact runs h1 h2
        | _ => exact same h1 h2
      | throw x => exact same h1 h2
    | suspended => exact runs h1 h2
    | running => exact same h1 h2
    | finished => exact same h1 h2
theorem wpCode_and {M : Model} {Γ : Ctx} {R R' : Result → Shared → Prop} {p : Pos} {s : Shared} (h1 : wpCode M Γ R p s) (h2 : wpCode M Γ R' p s) : wpCode M Γ (fun r s' => R r s' ∧ R' r s') p s := by
  obtain ⟨r, s1, d1, q1⟩ := h1
  obtain ⟨r2, s2, d2, q2⟩ := h2
  obtain ⟨e, rfl⟩ := Runs.det d1 d2
  cases e
  exact ⟨_, _, d1, q1, q2⟩
theorem wp_and {M : Model} {α : Type} {Q Q' : α → Pos → Shared → Prop} {E E' : Value → Pos → Shared → Prop} : ∀ (t : Sem α) (Γ : Ctx) (p : Pos) (s : Shared), Sem.wp M Γ t Q E p s → Sem.wp M Γ t Q' E' p s → Sem.wp M Γ t (fun a p s => Q a p s ∧ Q' a p s) (fun a p s => E a p s ∧ E' a p s) p s := by
  intro t
  induction t with
  | pure a => intro Γ p s h1 h2; simp only [Sem.wp] at h1 h2 ⊢; exact ⟨h1, h2⟩
  | raise e => intro Γ p s h1 h2; simp only [Sem.wp] at h1 h2 ⊢; exact ⟨h1, h2⟩
  | unsupported _ => intro Γ p s h1 h2; simp only [Sem.wp] at h1
  | finish _ => intro Γ p s h1 h2; simp only [Sem.wp] at h1
  | rule _ k ih => intro Γ p s h1 h2; simp only [Sem.wp] at h1 h2 ⊢; exact ih _ _ _ _ h1 h2
  | «at» _ k ih => intro Γ p s h1 h2; simp only [Sem.wp] at h1 h2 ⊢; exact ih _ _ _ _ h1 h2
  | load a _ k ih =>
    intro Γ p s h1 h2
    simp only [Sem.wp] at h1 h2 ⊢
    obtain ⟨o, e1, h1⟩ := h1
    obtain ⟨o2, e2, h2⟩ := h2
    rw [e1] at e2; cases e2
    exact ⟨o, e1, ih _ _ _ _ h1 h2⟩
  | update a _ f k ih => intro Γ p s h1 h2; simp only [Sem.wp] at h1 h2 ⊢; exact ⟨h1.1, ih _ _ _ _ h1.2 h2.2⟩
  | loadIfAlive a k ih => intro Γ p s h1 h2; simp only [Sem.wp] at h1 h2 ⊢; exact ih _ _ _ _ h1 h2
  | point _ k ih => intro Γ p s h1 h2; simp only [Sem.wp] at h1 h2 ⊢; exact ih _ _ _ _ h1 h2
  | alloc o k ih => intro Γ p s h1 h2; simp only [Sem.wp] at h1 h2 ⊢; exact ih _ _ _ _ h1 h2
  | fresh k ih => intro Γ p s h1 h2; simp only [Sem.wp] at h1 h2 ⊢; exact ih _ _ _ _ h1 h2
  | ask k ih => intro Γ p s h1 h2; simp only [Sem.wp] at h1 h2 ⊢; exact ih _ _ _ _ h1 h2
  | choose src n k ih => intro Γ p s h1 h2; simp only [Sem.wp] at h1 h2 ⊢; exact ⟨h1.1, ih _ _ _ _ h1.2 h2.2⟩
  | os q _ k ih => intro Γ p s h1 h2; simp only [Sem.wp] at h1 h2 ⊢; exact ih _ _ _ _ h1 h2
  | call c h _ _ k ih =>
    intro Γ p s h1 h2
    simp only [Sem.wp] at h1 h2 ⊢
    obtain ⟨r, s1, d1, q1⟩ := h1
    obtain ⟨r2, s2, d2, q2⟩ := h2
    obtain ⟨e, rfl⟩ := Runs.det d1 d2
    cases e
    exact ⟨_, _, d1, ih _ _ _ _ q1 q2⟩
  | handled own k ih => intro Γ p s h1 h2; simp only [Sem.wp] at h1 h2 ⊢; exact ih _ _ _ _ h1 h2
  | genState g k ih =>
    intro Γ p s h1 h2
    simp only [Sem.wp] at h1 h2 ⊢
    obtain ⟨o, e1, h1⟩ := h1
    obtain ⟨o2, e2, h2⟩ := h2
    rw [e1] at e2; cases e2
    exact ⟨o, e1, ih _ _ _ _ h1 h2⟩
  | newGen c k ih => intro Γ p s h1 h2; simp only [Sem.wp] at h1 h2 ⊢; exact ih _ _ _ _ h1 h2
  | resume g r _ k ih =>
    intro Γ p s h1 h2
    simp only [Sem.wp] at h1 h2 ⊢
    obtain ⟨res, s1, d1, q1⟩ := h1
    obtain ⟨res2, s2, d2, q2⟩ := h2
    obtain ⟨rfl, rfl⟩ := d1.det d2
    exact ⟨_, _, d1, ih _ _ _ _ q1 q2⟩
  | stack k ih => intro Γ p s h1 h2; simp only [Sem.wp] at h1 h2 ⊢; exact ih _ _ _ _ h1 h2
  | thread k ih => intro Γ p s h1 h2; simp only [Sem.wp] at h1 h2 ⊢; exact ih _ _ _ _ h1 h2
  | _ => intro Γ p s h1 h2; simp only [Sem.wp] at h1
theorem wpAny_conj {M : Model} {A : Around} {α : Type} {t : Sem α} {Q Q' : α → Shared → Prop} {E E' : Value → Shared → Prop} {s : Shared} (h1 : wpAny M A t Q E s) (h2 : wpAny M A t Q' E' s) : wpAny M A t (fun a s => Q a s ∧ Q' a s) (fun a s => E a s ∧ E' a s) s :=
  fun Γ p hΓ => wp_and t Γ p s (h1 Γ p hΓ) (h2 Γ p hΓ)
end PySem

namespace L2
open PySem PySem.Spec PyProof.Rows
/-! ### a parameter whose token is known: text.replace(sign, "") of it -/
/-- the local x is the text c, its token out already -/
def RawS (X : Cx) (x c : Str) (s : Shared) : Prop := ∃ (t : Tok) (m : Str → Option Value), t ≠ 0 ∧ t < s.toks ∧ s.heap.Ns X.env.locals m ∧ m x = some (.str c t)
section
variable {X : Cx} {pins : List (Addr × Obj)} {σ : St} {H : Hp} {s : Shared} {a dx C d : Addr} {fs : List (Str × V)} {f : Str} {v : V} {A : Around} {E : Value → Shared → Prop}
theorem attr_at {b : Bool} {Q : Value → Shared → Prop} (I : Inv X pins σ H s) (e : H a = some (.ins C dx fs)) (c : Cls X.K C) (n : NoAttr X.K C f) (l : fs.lookup f = some v) (h : ∀ u, RelV v u → Q u { s with toks := s.toks + 1 }) :
    wpAny (model X.prog X.w) A (getAttr (.ref a) f b) Q E s := by
  obtain ⟨mA, O, r, _, _, _⟩ := ins_get I.hok e
  obtain ⟨u, hu, ru⟩ := RelO.some_of (v := v) (o := mA f) (by rw [← l]; exact r f)
  exact get_map I.kIn O (c.get f) c.hd n hu (handed_of ru) (h u ru)
theorem item_at {kvs : List (Key × V)} {k : Key} {u : Value} {Q : Value → Shared → Prop} (I : Inv X pins σ H s) (e : H d = some (.dK kvs)) (l : valV kvs k = some v) (ry : RelV (kV k) u) (h : ∀ w, RelV v w → Q w { s with toks := s.toks + 1 }) :
    wpAny (model X.prog X.w) A (getItem (.ref d) u) Q E s := by
  obtain ⟨z, hd, vs, rel, dd⟩ := dk_of I.hok e
  obtain ⟨w, hw, rw⟩ := RelO.some_of (v := v) (o := valueAt vs k) (by have := rel.val k; rwa [l] at this)
  exact wpAny_getItem_of (kV_is ry) dd.mapOf hw (h w rw)
theorem ns_one {h : Heap} {a : Addr} {m m' : Str → Option Value} (h1 : h.Ns a m) (h2 : h.Ns a m') : m = m' := by
  obtain ⟨o, es, ep, e1, e2, _, e3⟩ := h1
  obtain ⟨o', es', ep', f1, f2, _, f3⟩ := h2
  rw [e1] at f1
  cases f1
  rw [e2] at f2
  cases f2
  exact funext fun y => (e3 y).symm.trans (f3 y)
/-- a local is stored: behind it a token is out, another local stays -/
theorem store_raw {i : Nat} {x : Str} {u : Value} {Q : Unit → Shared → Prop} {E : Value → Shared → Prop} (I : Inv X pins σ H s) (hN : X.N.Nodup) (hi : X.N[i]? = some x) (hx : X.env.scope.names.lookup x = some .local) (r : RelV v u)
    (h : ∀ s', Inv X pins (σ.set i (some v)) H s' → 1 ≤ s'.toks → (∀ y c, y ≠ x → RawS X y c s → RawS X y c s') → Q () s') : wpAny (model X.prog X.w) X.A (storeName X.env x u) Q E s := by
  have hcls : (X.env.scope.kind == .class || (X.env.scope.kind == .module && X.env.locals != X.env.globals)) = false := by rw [I.ok.kind]; rfl
  have low : wpAny (model X.prog X.w) X.A (storeName X.env x u) (fun _ s' => 1 ≤ s'.toks ∧ ∀ y c, y ≠ x → RawS X y c s → RawS X y c s') E s := by
    obtain ⟨m, hn, _⟩ := I.loc
    refine wpAny_storeName_local hx hn (fun h' hn' hs => ⟨Nat.succ_le_succ (Nat.zero_le _), ?_⟩) hcls
    rintro y c hy ⟨t, m', h1, h2, h3, h4⟩
    refine ⟨t, _, h1, Nat.lt_succ_of_lt h2, hn', ?_⟩
    show (if y = x then some u else m y) = _
    rw [if_neg hy, ns_one hn h3, h4]
  have hi2 : wpAny (model X.prog X.w) X.A (storeName X.env x u) (fun _ s' => Inv X pins (σ.set i (some v)) H s') E s := store_ok I hN hi (.inl hx) r (fun s2 I2 => I2) (.inr hx)
  exact wpAny_mono (wpAny_conj hi2 low) (fun _ s' q => h s' q.1 q.2.1 q.2.2) fun _ _ q => q.1
/-- name = e: behind it a token is out -/
theorem pss_setT {i : Nat} {x : Str} {e : Expr} {te : TE} {rest : List Stmt} {u : TS} {pos' pos : Pos} (hN : X.N.Nodup) (hi : X.N[i]? = some x) (hx : X.env.scope.names.lookup x = some .local) (he : PE X e te) (h2 : PSsT X rest u)
    (hs : swapsWith e (some (.Name x pos')) pos.line X.env = pure false := by rfl) : PSs X (.Assign [.Name x pos'] e pos :: rest) (tSeq (tAsg te (gName i)) u) := by
  refine ⟨fun pins s σ H D I h => ?_⟩
  refine wpAny_execs_cons (wpAny_Assign_Name (thn (he.run pins s σ H _ I h) fun v s1 ⟨y, H1, I1, r1, q1⟩ => ?_) hs)
  exact store_raw I1 hN hi hx r1 fun s2 I2 ht _ => h2 pins s2 _ H1 D ht I2 q1
/-- the body of a def whose parameter's token is known -/
def BodyR (X : Cx) (x c : Str) (b : List Stmt) (t : TS) : Prop :=
  ∀ (pins : List (Addr × Obj)) (s : Shared) (σ : St) (H : Hp) (D : Ends), RawS X x c s → Inv X pins σ H s → t D σ H → wpAny (model X.prog X.w) X.A (execs b X.env) (SP X pins D) X.xe s
/-- y = o.f, ahead of such a body -/
theorem body_set {i j : Nat} {x y c o : Str} {f : Str} {rest : List Stmt} {u : TS} {p1 apos pos' pos : Pos} (hN : X.N.Nodup) (hi : X.N[i]? = some y) (hy : X.env.scope.names.lookup y = some .local) (hj : X.N[j]? = some o) (ho : Vis X.env.scope o) (hxy : x ≠ y) (h2 : BodyR X x c rest u)
    (hb : attributeBase (.Name o p1) f X.env (eval (.Name o p1) X.env) = eval (.Name o p1) X.env := by rfl) (hs : swapsWith (.Attribute (.Name o p1) f apos) (some (.Name y pos')) pos.line X.env = pure false := by rfl)
    (hd : (o == ("__debug__" : Str)) = false := by decide) (hcd : (o == ("__classdict__" : Str)) = false := by decide) :
    BodyR X x c (.Assign [.Name y pos'] (.Attribute (.Name o p1) f apos) pos :: rest) (tSeq (tAsg (tFld X.K (tVar j) f) (gName i)) u) := by
  intro pins s σ H D raw I h
  obtain ⟨v0, hv0, a, C, dx, fs, v, rfl, ea, c0, n, l, q⟩ := h
  refine wpAny_execs_cons (wpAny_Assign_Name (attr_of hb (raw_name hj ho I hv0 (fun u0 r0 => ?_) hd hcd)) hs)
  obtain rfl : u0 = Value.ref a := r0
  refine attr_at I ea c0 n l fun w rw => ?_
  refine store_raw (I.tok _) hN hi hy rw fun s2 I2 _ keep => h2 pins s2 _ H D (keep x c hxy ?_) I2 q
  obtain ⟨t, m, h1, h2, h3, h4⟩ := raw
  exact ⟨t, m, h1, Nat.lt_succ_of_lt h2, h3, h4⟩
/-- o[i] = p.f[y].replace(x, "") -/
def tRepl (K : PySem.W.Frag) (jp jy : Nat) (f c : Str) (td ty : TE) : TS := fun D σ H => ∃ (a C dx d : Addr) (fs : List (Str × V)) (kvs : List (Key × V)) (k : Key) (z : Str), σ[jp]? = some (some (.ref a)) ∧ H a = some (.ins C dx fs) ∧ Cls K C ∧ NoAttr K C f ∧ fs.lookup f = some (.ref d) ∧
  σ[jy]? = some (some (kV k)) ∧ H d = some (.dK kvs) ∧ valV kvs k = some (.str z) ∧ z.length ≤ 1000 ∧ (c == ("" : Str)) = false ∧
  td σ H fun x H2 => ty σ H2 fun y H3 => ∃ a H4, x = .ref a ∧ DPut H3 a y (.str (Txt.replace z c ("" : Str))) H4 ∧ D.nx σ H4
theorem body_repl {jp jy : Nat} {x c p y : Str} {f : Str} {o i : Expr} {td ty : TE} {rest : List Stmt} {u : TS} {kk : Nat} {q1 q2 q3 q4 q5 q6 apos cpos pos' pos : Pos} (hu : X.A.units + 1 < cLine) (hjp : X.N[jp]? = some p) (hp : Vis X.env.scope p) (hjy : X.N[jy]? = some y) (hy : Vis X.env.scope y) (hx : X.env.scope.names.lookup x = some .local)
    (ho : PE X o td) (hi : PE X i ty) (h2 : PSs X rest u)
    (hb : attributeBase (.Name p q1) f X.env (eval (.Name p q1) X.env) = eval (.Name p q1) X.env := by rfl)
    (hbase : attributeBase (.Subscript (.Attribute (.Name p q1) f q2) (.Name y q3) q4) "replace" X.env (eval (.Subscript (.Attribute (.Name p q1) f q2) (.Name y q3) q4) X.env) = eval (.Subscript (.Attribute (.Name p q1) f q2) (.Name y q3) q4) X.env := by rfl)
    (hst : starEach [.Name x q5, .Constant (.str ("" : Str)) kk q6] X.env = [(false, eval (.Name x q5) X.env), (false, eval (.Constant (.str ("" : Str)) kk q6) X.env)] := by rfl)
    (hline : (apos.endLine == cpos.line) = true := by rfl) (hns : NoSl (.Name y q3) := by first | exact fun _ _ => rfl | (intro _ _; rfl))
    (hs : swapsWith (.Call (.Attribute (.Subscript (.Attribute (.Name p q1) f q2) (.Name y q3) q4) "replace" apos) [.Name x q5, .Constant (.str ("" : Str)) kk q6] [] cpos) (some (.Subscript o i pos')) pos.line X.env = pure false := by rfl)
    (hd1 : (p == ("__debug__" : Str)) = false := by decide) (hc1 : (p == ("__classdict__" : Str)) = false := by decide) (hd2 : (y == ("__debug__" : Str)) = false := by decide) (hc2 : (y == ("__classdict__" : Str)) = false := by decide) (hd3 : (x == ("__debug__" : Str)) = false := by decide) :
    BodyR X x c (.Assign [.Subscript o i pos'] (.Call (.Attribute (.Subscript (.Attribute (.Name p q1) f q2) (.Name y q3) q4) "replace" apos) [.Name x q5, .Constant (.str ("" : Str)) kk q6] [] cpos) pos :: rest) (tSeq (tRepl X.K jp jy f c td ty) u) := by
  intro pins s σ H D raw I h
  obtain ⟨a, C, dx, d, fs, kvs, k, z, hσp, ea, c0, n, l, hσy, ed, lv, zz, hc, q⟩ := h
  obtain ⟨t, m, t0, t1, hm, mx⟩ := raw
  refine wpAny_execs_cons (wpAny_Assign_Subscript (Call_method2 hbase hst hline ?_) hs)
  refine subD_of PySem.F.slot_dict_getitem.lookup hns (attr_of hb (raw_name hjp hp I hσp (fun u0 r0 => ?_) hd1 hc1))
  obtain rfl : u0 = Value.ref a := r0
  refine attr_at I ea c0 n l fun w rw => ?_
  obtain rfl : w = Value.ref d := rw
  refine raw_name hjy hy (I.tok _) hσy (fun u1 r1 => ?_) hd2 hc2
  refine ⟨dict_typeIs (I.tok _) (DGet.k (k := k) ed), item_at (I.tok _) ed lv r1 fun w2 rw2 => ?_⟩
  obtain ⟨tz, rfl⟩ := rw2
  refine ⟨"str", _, PySem.F.plainAttrs_str, PySem.F.slot_str_replace, PySem.F.type_str_replace, typeIs_str _ _ _, (fun _ e => nomatch e), Calls.callWith_builtin rfl (Calls.evalArgs_plain (Calls.spliced_cons ?_))⟩
  refine wpAny_Name (wpAny_loadName_local I.ok.kind hx hm mx ?_) hd3
  refine Calls.spliced_cons (Calls.Constant_str (Calls.spliced_nil ?_))
  refine PySem.SC.replace t0 (by show s.toks + 1 + 1 ≠ 0; omega) (Nat.ne_of_lt (Nat.lt_succ_of_lt (Nat.lt_succ_of_lt t1))) hc (by show z.length + (z.length + 1) * 0 ≤ 16777216; omega) fun t' k' => ?_
  refine thn (ho.run pins _ σ H _ (I.tok _) q) fun u2 s2 ⟨x2, H2, I2, rx, q2⟩ => thn (hi.run pins s2 σ H2 _ I2 q2) fun iv s3 ⟨y2, H3, I3, ry, a2, H4, ex, g, q3⟩ => ?_
  subst ex
  obtain rfl : u2 = Value.ref a2 := rx
  exact d_setItem hu I3 g ry ⟨t', rfl⟩ fun s4 I4 => h2.run pins s4 σ H4 D I4 q3
end
/-- a def's promise where its second argument is a text whose token is out -/
structure FnRaw (P : Program) (w : World) (K : PySem.W.Frag) (mg : Str → Option Value) (base : Heap) (CX : CXT) (k : Nat) (f : Addr) (fd : FuncData) (ps : List Str) (sp : Sp) : Prop where
  len : ∀ vs H Q E, sp vs H Q E → vs.length = ps.length
  run : ∀ (A : Around) (outer : List Env) (s : Shared) (H : Hp) (as : Args) (us : List Value) (vs : List V) (Q : VK) (E : XK), Room k A → Env0 P w K mg base A outer s H → BindsTo s fd as (ps.zip us) → Vals vs us → (∃ (a : Addr) (c : Str) (t : Tok), vs = [.ref a, .str c] ∧ us = [.ref a, .str c t] ∧ t ≠ 0 ∧ t < s.toks) → sp vs H Q E →
    codeAny (model P w) A (.call (.ref f) as) (CR CX outer P w H s Q E) s
theorem fn_ofRaw {CX : CXT} {P : Program} {w : World} {K : PySem.W.Frag} {mg : Str → Option Value} {base : Heap} {k : Nat} {f : Addr} {nm ql x y : Str} {params : Arguments} {body : List Stmt} {scope : Scope} {dV kV doc pm cdv ct oc : Value} {an od : Option Addr}
    {osl : Array (Option Value)} {N : List Str} {sp : Sp} (lk : K.lookup f = some ⟨oc, od, .func (PySem.W.fnOf nm ql params body scope dV kV doc pm an cdv ct), osl⟩) (hcd : PySem.W.codeIn K cdv ql = true) (S : FnScope N [y, x] scope) (hx : scope.names.lookup x = some .local)
    (len : ∀ vs H Q E, sp vs H Q E → vs.length = [y, x].length)
    (go : ∀ (A : Around) (outer : List Env) (s : Shared) (H : Hp) (a : Addr) (c : Str) (Q : VK) (E : XK), Room k (A.deeper (envOfC ql scope s.heap.objs.size f cdv)) → sp [.ref a, .str c] H Q E →
      ∃ t, BodyR (cxOf CX P w K mg base N ql scope f cdv A outer s H E) x c body t ∧ t { nx := fun _ H' => Q .non H', rt := Q } (start N [.ref a, .str c]) H) :
    FnRaw P w K mg base CX (k + 1) f (PySem.W.fnOf nm ql params body scope dV kV doc pm an cdv ct) [y, x] sp := by
  refine ⟨len, fun A outer s H as us vs Q E room e0 hb r raw z => ?_⟩
  obtain ⟨a, c, t, rfl, rfl, t0, t1⟩ := raw
  have inK : K.In s.heap := e0.mod.kin.keeps fun b o e => (e0.bs b o e).1
  have noLim : s.heap.NoLimit := e0.mod.nolimit.keeps fun b o e => (e0.bs b o e).1
  have kinds : ∀ v ∈ [y, x].zip [Value.ref a, .str c t], scope.names.lookup v.1 = some .local ∨ (scope.names.lookup v.1 = some .cell ∧ ((cellsFrom (s.heap.objs.size + 1) scope.names []).lookup v.1).isSome = true) := fun v hv => by
    obtain ⟨n, v⟩ := v
    exact (S.par n (List.of_mem_zip hv).1).imp id fun q => ⟨q, PySem.W.cellsFrom_some _ _ _ (.inl q)⟩
  refine codeAny_call_function room.depth (inK _ _ lk) rfl S.co S.gen rfl (PySem.W.codeRec_of inK hcd) (hb _ _ _ _ ?_)
  refine wpAny_mono (wpAny_toks (wpAny_newFunctionEnv_cells (Q := fun env s1 => env = _ ∧ InCallC s _ _ _ _ s1) S.kind kinds fun env he s1 x => ⟨he, x⟩)) (fun env s1 hq => ?_) fun _ _ q => q.2
  obtain ⟨ht, he, xx⟩ := hq
  subst he
  refine ⟨noLim.keeps xx.toInCall.keep, codeAny_func ?_⟩
  obtain ⟨t', ht', q⟩ := go A outer s H a c Q E (room.deeper _) z
  have I := inv_start (CX := CX) (E := E) S room.hd e0 (len _ _ _ _ z) r xx
  have nd : [y, x].Nodup := by
    have e : [y, x] = N.take 2 := S.pre.symm
    rw [e]
    exact S.nd.sublist (List.take_sublist _ _)
  have m1 := bindL_get (kindOf := (envOfC ql scope s.heap.objs.size f cdv).kindOf) (x := x) (v := Value.str c t) (P := [y, x]) (vs := [.ref a, .str c t]) (i := 1) (m := fun _ => none) nd rfl rfl hx
  refine wpAny_mono (ht' [] s1 (start N [.ref a, .str c]) H _ ⟨t, _, t0, Nat.lt_of_lt_of_le t1 ht, xx.toInCall.ns, m1⟩ I q) (fun fl s' hs => ?_) fun _ _ hs => hs
  cases fl with
  | ret u => exact let ⟨v, σ', H', J, rv, q⟩ := hs; ⟨v, H', J.os, J.bare, J.base, J.hok, rv, q⟩
  | next => exact let ⟨σ', H', J, q⟩ := hs; ⟨V.non, H', J.os, J.bare, J.base, J.hok, rfl, q⟩
  | brk => exact let ⟨_, _, _, q⟩ := hs; False.elim q
  | cont => exact let ⟨_, _, _, q⟩ := hs; False.elim q
/-- o.m(z[y]) as a statement, m such a method; a token is out -/
theorem pst_methRaw {X : Cx} {CX : CXT} {k jz jy : Nat} {f C : Addr} {fd : FuncData} {ps : List Str} {ds : List Value} {sp : Sp} {E : XK} {o : Expr} {ta : TE} {m z y : Str} {pl : Sem Bool} {pz py ps' apos pos pos2 : Pos}
    (he : PE X o ta) (c : Cls X.K C) (hm : Meth X.K C m f) (F : FnRaw X.prog X.w X.K X.mg X.base CX k f fd ps sp) (hr : Room k X.A) (hb : Binds X.K fd ps ds) (hd : Vals [] ds) (hx : Passes CX X E)
    (hjz : X.N[jz]? = some z) (hz : Vis X.env.scope z) (hjy : X.N[jy]? = some y) (hy : Vis X.env.scope y)
    (hst : starEach [.Subscript (.Name z pz) (.Name y py) ps'] X.env = (false, eval (.Subscript (.Name z pz) (.Name y py) ps') X.env) :: starEach [] X.env := by rfl) (hpl : (backTo pos (starEach [] X.env)).any (·.1) = false := by rfl)
    (ht : eval (.Call (.Attribute o m apos) [.Subscript (.Name z pz) (.Name y py) ps'] [] pos) X.env = (do
      let ov ← eval o X.env
      standAt apos.atName
      let (f, first) ← holding [ov] (getMethod ov m pl)
      callWith pos f first (backTo pos (starEach [.Subscript (.Name z pz) (.Name y py) ps'] X.env)) (backToKw pos (keywordEach [] X.env))) := by rfl)
    (hs : swapsWith (.Call (.Attribute o m apos) [.Subscript (.Name z pz) (.Name y py) ps'] [] pos) none pos2.line X.env = pure false := by rfl)
    (hsl : ∀ v u, subscripted (.Name y py) false v u = operate [v, u] (getItem v u) := by intro _ _; rfl)
    (hd1 : (z == ("__debug__" : Str)) = false := by decide) (hc1 : (z == ("__classdict__" : Str)) = false := by decide) (hd2 : (y == ("__debug__" : Str)) = false := by decide) (hc2 : (y == ("__classdict__" : Str)) = false := by decide) :
    PST X (.Expr (.Call (.Attribute o m apos) [.Subscript (.Name z pz) (.Name y py) ps'] [] pos) pos2) (tDrop (tMeth C m sp [] E ta (tCons (tOp rIxS (tVar jz) (tVar jy)) tNil))) := by
  intro pins s σ H D h0 I h
  refine wpAny_Expr_any (thn (?_ : wpAny (model X.prog X.w) X.A _ (EP X pins σ fun _ H1 => D.nx σ H1) X.xe s) fun v s1 ⟨x, H1, I1, r1, q1⟩ => ⟨σ, H1, I1, q1⟩) I.quiet hs
  refine PySem.W.methodCall_KW (pl := pl) (wpAny_mono (PySem.wpAny_toks (he.run pins s σ H _ I h)) (fun u s1 q0 => ?_) fun _ _ q => q.2) ht
  obtain ⟨hk, x, H1, I1, rx, a, dx, fs, ex, ea, l, q⟩ := q0
  subst ex
  obtain rfl : u = Value.ref a := rx
  refine getmeth_ok I1 ea c hm l ?_
  refine PySem.W.callWith_K (first := [.ref a]) (h₀ := X.base) I1.ok.mod.kin hm.kp ?_ hst hpl
  obtain ⟨v1, hv1, v2, hv2, zz, i, cc, rfl, rfl, hzz, hat, q⟩ := q
  show wpAny _ _ (spliced ((false, eval (.Subscript (.Name z pz) (.Name y py) ps') X.env) :: backTo pos (starEach [] X.env))) _ _ _
  refine Calls.spliced_cons (Subscript_ (raw_name hjz hz I1 hv1 (fun w1 r1 => raw_name hjy hy I1 hv2 (fun w2 r2 => ?_) hd2 hc2) hd1 hc1))
  obtain ⟨tz, rfl⟩ := r1
  obtain ⟨ti, rfl⟩ := r2
  obtain ⟨j, h1, h2, h3, h4, h5⟩ := atI_get hat
  have hl : zz.cps.toList.length = zz.length := by simp [Str.length]
  rw [hl] at h1 h4 h5
  have hn := line63
  refine tail_any (typeIs_str s1 zz tz) slot_str_getitem.lookup (getItem_str (c := cc) (by
    have e1 : decide (i < -(2 ^ 63 : Int)) = false := decide_eq_false (by omega)
    have e2 : decide (i ≥ 2 ^ 63) = false := decide_eq_false (by omega)
    rw [e1, e2, Bool.or_false]) (by rw [h1]; simpa using h2) ?_) (hsl _ _)
  refine Calls.spliced_nil ⟨(I1.tok _).kIn, ?_⟩
  obtain rfl : ds = [] := by cases hd; rfl
  have rr : Vals [V.ref a, .str ⟨#[cc]⟩] [Value.ref a, .str ⟨#[cc]⟩ s1.toks] := .cons rfl (.cons ⟨_, rfl⟩ .nil)
  have I2 := I1.tok (s1.toks + 1)
  have hb2 := hb { s1 with toks := s1.toks + 1 } [Value.ref a, .str ⟨#[cc]⟩ s1.toks] I2.kIn (by rw [List.append_nil, ← rr.length]; exact F.len _ _ _ _ q)
  rw [List.append_nil] at hb2
  refine wpAny_call (codeAny_mono (F.run X.A X.stack { s1 with toks := s1.toks + 1 } H1 ⟨[Value.ref a, .str ⟨#[cc]⟩ s1.toks], []⟩ _ _ _ E hr I2.env0 hb2 rr ⟨a, _, s1.toks, rfl, rfl, Nat.ne_of_gt (Nat.lt_of_lt_of_le h0 hk), Nat.lt_succ_self _⟩ q) fun r s' hq => ?_)
  cases r with
  | error er => exact hx pins σ H1 _ er s' I2 hq
  | ok fl =>
    cases fl with
    | ret u => exact I2.after hq
    | _ => exact False.elim hq
theorem PSsT.one {X : Cx} {st : Stmt} {t : TS} (h : PST X st t) : PSsT X [st] t := by
  intro pins s σ H D h0 I q
  refine wpAny_execs_cons (thn (h pins s σ H D h0 I q) fun f s1 q => ?_)
  cases f with
  | next => exact wpAny_execs_nil q
  | ret v => exact q
  | brk => exact q
  | cont => exact q
theorem BodyR.nox {X : Cx} {x c : Str} {b : List Stmt} {t : TS} (h : BodyR X.nox x c b t) : BodyR X x c b t := by
  intro pins s σ H D raw I q
  exact wpAny_mono (h pins s σ H D raw (I.wish _) q) (fun _ _ q => q.unwish) fun _ _ z => False.elim z
theorem call_divmodW {X : Cx} : CallR X (.builtin "divmod") (fun xs H Q => ∃ i j, xs = [.int i, .int j] ∧ CDivW i j ∧ ∀ p, H p = none → Q (.ref p) (upd H p (.tup [.int (i / j), .int (i % j)]))) := by
  intro pins s σ H xs us Q I r h
  obtain ⟨i, j, rfl, ⟨h1, h2⟩, q⟩ := h
  obtain ⟨u, w', rfl, ⟨t, rfl⟩, ⟨t', rfl⟩⟩ := vals2 r
  refine divmod_int (by omega) ?_ (.inl (PyProof.noPylong_of_log2 h2))
  rw [Int.fdiv_eq_ediv_of_nonneg i (by omega), Int.fmod_eq_emod_of_nonneg i (by omega)]
  have hn : H s.heap.objs.size = none := I.hok.fresh (Nat.le_refl _)
  refine ⟨.ref s.heap.objs.size, _, ?_, rfl, q _ hn⟩
  refine I.laid (fun b o e => Heap.get?_push_of_some _ e) (Nat.le_refl _) ⟨by simp only [List.length_cons, List.length_nil]; rw [sizeLine_eq]; decide, [.int (i / j) s.toks, .int (i % j) (s.toks + 1)], .cons ⟨_, rfl⟩ (.cons ⟨_, rfl⟩ .nil), ?_⟩
  exact ⟨_, Heap.get?_push_size s.heap rfl, rfl, 0, rfl⟩
section
variable {P : Program} {w : World} {K : PySem.W.Frag} {mg : Str → Option Value} {base : Heap}
theorem Fun.okRaw {x ql y sgn : Str} {st : Stmt} {f : Addr} {fd : FuncData} {N : List Str} {k : Nat} {sp : Sp} (F : Fun K x ql st f fd) (S : FnScope N [y, sgn] (defScope st)) (hx : (defScope st).names.lookup sgn = some .local) (len : ∀ vs H Q E, sp vs H Q E → vs.length = [y, sgn].length)
    (go : ∀ (cdv : Value) (A : Around) (outer : List Env) (s : Shared) (H : Hp) (a : Addr) (c : Str) (Q : VK) (E : XK), Room k (A.deeper (envOfC ql (defScope st) s.heap.objs.size f cdv)) → sp [.ref a, .str c] H Q E →
      ∃ t, BodyR (cxOf CX0 P w K mg base N ql (defScope st) f cdv A outer s H E).nox sgn c (defBody st) t ∧ t { nx := fun _ H' => Q .non H', rt := Q } (start N [.ref a, .str c]) H) : FnRaw P w K mg base CX0 (k + 1) f fd [y, sgn] sp := by
  obtain ⟨oc, od, kV, doc, pm, an, cdv, ct, osl, rfl, lk, hcd⟩ := F.ex
  refine fn_ofRaw lk hcd S hx len fun A outer s H a c Q E room z => ?_
  obtain ⟨t, h, q⟩ := go cdv A outer s H a c Q E room z
  exact ⟨t, h.nox, q⟩
end
end L2

namespace Toy
open PySem L2

def top (i : Nat) : Stmt := PySem.Challenge.pw_undotrees_k31_whole_all_shortest_rows.main.body.getD i (.Pass ⟨0, 0, 0, 0⟩)
abbrev s_law_pool : Stmt := top 27
abbrev s_law_turned : Stmt := top 29
abbrev s_law_plain : Stmt := top 31
abbrev s_law_rank : Stmt := top 32
abbrev s_law_places : Stmt := top 33
abbrev s_law_take : Stmt := top 28
abbrev s_law_row : Stmt := top 30
abbrev s_is_row_within : Stmt := top 9
abbrev s_is_row : Stmt := top 10
abbrev s_contrary_sign : Stmt := top 11
abbrev s_made_plain : Stmt := top 13
abbrev s_is_plain_row : Stmt := top 22
abbrev s_first_wrong : Stmt := top 23
abbrev s_rank : Stmt := top 14
abbrev s_Walk___init__ : Stmt := inClass (top 25) 0
abbrev s_Walk___len__ : Stmt := inClass (top 25) 6
abbrev s_Walk_end : Stmt := inClass (top 25) 2
abbrev s_signs_many : Stmt := top 17
abbrev s_law_gone : Stmt := top 34
abbrev s_Walk_places : Stmt := inClass (top 25) 1
abbrev s_Rounds___init__ : Stmt := inClass (top 16) 0
abbrev s_Rounds_rest_many : Stmt := inClass (top 16) 1
abbrev s_shortest_many : Stmt := top 18
abbrev s_is_whole : Stmt := top 8
abbrev s_Rounds_home : Stmt := inClass (top 16) 2
abbrev s_Rounds_choices : Stmt := inClass (top 16) 3
abbrev s_Rounds_go_on : Stmt := inClass (top 16) 4
abbrev s_shortest_at : Stmt := top 19
abbrev s_law : Stmt := top 35
open RowM (sgns con ix Row)
open TL
/-- the reading, as far as it goes by itself -/
local macro_rules | `(tactic| walk_at "rd") => `(tactic| repeat (first
  | refine ⟨_, rfl, ?_⟩
  | refine ⟨_, _, rfl, rfl, ?_⟩
  | refine ⟨rfl, ?_⟩
  | refine ⟨(by show (0 : Int) < _; omega), ?_⟩
  | refine ⟨⟨by omega, by omega⟩, ?_⟩
  | refine ⟨(by decide), ?_⟩
  | refine ⟨(by omega), ?_⟩))
/-- the text of a list of signs' numbers -/
abbrev S (l : List Nat) : Str := ⟨l.toArray⟩
/-- all but the object at p is as it was -/
def Off (p : Addr) (H H' : Hp) : Prop := ∀ b o, b ≠ p → H b = some o → H' b = some o
theorem Off.refl (p : Addr) (H : Hp) : Off p H H := fun _ _ _ h => h
theorem Off.trans {p : Addr} {H H1 H2 : Hp} (a : Off p H H1) (b : Off p H1 H2) : Off p H H2 := fun c o n h => b c o n (a c o n h)
theorem off_of {p : Addr} {H H' : Hp} (a : Same H H') : Off p H H' := fun c o _ h => a c o h
theorem Off.upd {p : Addr} {H H' : Hp} {o : HO} (a : Off p H H') : Off p H (upd H' p o) := fun c u n h => by
  rw [upd_ne n]
  exact a c u n h
/-- the law's own pool of draws -/
def Pool (H : Hp) (p : Addr) : Prop := ∃ c n : Int, H p = some (.lst [.int c, .int n]) ∧ 0 ≤ n ∧ n < 2147483647
theorem Pool.same {H H' : Hp} {p : Addr} (h : Pool H p) (s : Same H H') : Pool H' p := by
  obtain ⟨c, n, e, r⟩ := h
  exact ⟨c, n, s _ _ e, r⟩
theorem Same.new {H : Hp} {p : Addr} {o : HO} (h : H p = none) : Same H (upd H p o) := fun b u e => by
  rw [upd_ne (ne_of_none e h)]
  exact e
theorem atI0 {α : Type} {a : α} {l : List α} : atI (a :: l) 0 = some a := atI_nat (xs := a :: l) (j := 0) rfl
theorem atI1 {α : Type} {a b : α} {l : List α} : atI (a :: b :: l) 1 = some b := atI_nat (xs := a :: b :: l) (j := 1) rfl
theorem one_le {c : Nat} : (⟨#[c]⟩ : Str).length ≤ 5592405 := by show 1 ≤ _; decide
/-! ### signs -/
open RowM (lo up)
theorem low1 : ∀ c ∈ sgns, Txt.lower (S [c]) = S [lo c] := by decide +kernel
theorem up1 : ∀ c ∈ sgns, Txt.upper (S [c]) = S [up c] := by decide +kernel
theorem isup1 : ∀ c ∈ sgns, Txt.isupper (S [c]) = decide (c < 97) := by decide +kernel
theorem islo1 : ∀ c ∈ sgns, Txt.islower (S [c]) = decide (97 ≤ c) := by decide +kernel
theorem six1 : ∀ c ∈ sgns, ∃ r, Builtin.Str.occurrences "aAbBcCdDeEfF" (S [c]) 0 12 1 = ix c :: r := by
  intro c hc
  have h : ∀ c ∈ sgns, (Builtin.Str.occurrences "aAbBcCdDeEfF" (S [c]) 0 12 1).head? = some (ix c) := by decide +kernel
  have := h c hc
  cases e : Builtin.Str.occurrences "aAbBcCdDeEfF" (S [c]) 0 12 1 with
  | nil => rw [e] at this; cases this
  | cons a r => rw [e] at this; cases this; exact ⟨r, rfl⟩
theorem sgns_at : ∀ i : Nat, i < 12 → ∃ c, (Str.ofString "aAbBcCdDeEfF").cps.toList[i]? = some c ∧ c ∈ sgns ∧ ix c = i := by
  have h : ∀ i ∈ List.range 12, (Str.ofString "aAbBcCdDeEfF").cps.toList[i]? = sgns[i]? ∧ (sgns[i]?).isSome = true ∧ ix (sgns.getD i 0) = i := by decide +kernel
  intro i hi
  obtain ⟨h1, h2, h3⟩ := h i (List.mem_range.mpr hi)
  have h4 : i < sgns.length := hi
  refine ⟨sgns[i], by rw [h1, List.getElem?_eq_getElem h4], List.getElem_mem _, ?_⟩
  rw [List.getD_eq_getElem?_getD, List.getElem?_eq_getElem h4] at h3
  exact h3
theorem sgns_mem : ∀ c : Nat, (c ∈ (Str.ofString "aAbBcCdDeEfF").cps.toList) = (c ∈ sgns) := by
  have h : (Str.ofString "aAbBcCdDeEfF").cps.toList = sgns := by decide +kernel
  intro c
  rw [h]
theorem sign_of_at {i : Int} {z : Str} (h0 : 0 ≤ i) (h1 : i < 12) (hz : z = Str.ofString "aAbBcCdDeEfF") : ∃ c, atI z.cps.toList i = some c ∧ c ∈ sgns ∧ (ix c : Int) = i := by
  subst hz
  obtain ⟨c, e, hc, hi⟩ := sgns_at i.toNat (by omega)
  refine ⟨c, ?_, hc, by omega⟩
  have : i = (i.toNat : Int) := by omega
  rw [this]
  exact atI_nat e
theorem el_is {te : TE} {σ : L2.St} {H : Hp} {xs ys : List V} (h : Evl.EvL te σ H xs) (e : xs = ys) : Evl.EvL te σ H ys := e ▸ h
theorem len_S (l : List Nat) : (S l).length = l.length := by simp [S, Str.length]
theorem add_S (l m : List Nat) : S l ++ S m = S (l ++ m) := ext_tl (by rw [tl_append])
theorem joinL_nil : ∀ ps : List (List Nat), joinL [] ps = ps.flatten
  | [] => rfl
  | [p] => by simp [joinL]
  | p :: q :: r => by rw [joinL, joinL_nil (q :: r)]; simp
theorem join_S (a : Str) (ha : tl a = []) (l : List Nat) : Txt.join a (l.map fun c => S [c]) = S l := by
  refine ext_tl ?_
  rw [join_eq, tl_join, ha, joinL_nil]
  show _ = l
  induction l with
  | nil => rfl
  | cons c l ih => simp [tl] at ih ⊢; exact ih
theorem sum_ones (l : List Nat) : ((l.map fun c => S [c]).map (·.length)).sum = l.length := by
  induction l with
  | nil => rfl
  | cons c l ih => simp only [List.map_cons, List.sum_cons, List.length_cons, ih, len_S]; simp; omega
section
open Evl
variable {K : PySem.W.Frag} {σ : L2.St} {H : Hp} {te tl' to : TE} {j : Nat} {vs : List Nat}
/-- "".join([e for sign in text]), each e a sign -/
theorem ev_joinMap {a s : Str} (g : Nat → Nat) (ho : Ev to σ H (.str a)) (ha : tl a = []) (h : Ev tl' σ H (.str s)) (hz : s.length ≤ 40000) (hw : ∀ x, wipe ((wipe σ vs).set j (some x)) vs = wipe σ vs)
    (he : ∀ (c : Nat) H1, Ex H H1 → c ∈ s.cps.toList → Ev te ((wipe σ vs).set j (some (.str ⟨#[c]⟩))) H1 (.str (S [g c]))) :
    Ev (tM1 (rJoinK K) to (tLc (iStr tl') (gName j) tYes te vs)) σ H
      (.str (S (s.cps.toList.map g))) := by
  have e1 : s.cps.toList.map (fun c => V.str (S [g c])) = ((s.cps.toList.map g).map fun c => S [c]).map V.str := by simp [List.map_map, Function.comp]
  have e2 : a.length = 0 := by rw [len_tl, ha]; rfl
  have z : s.cps.toList.length = s.length := rfl
  refine ev_is (ev_join ho (el_is (el_mapS (fun c => .str (S [g c])) h hz hw he) e1) ?_) (by rw [join_S a ha])
  rw [sum_ones, e2, List.length_map, z]
  omega
end
/-- [sign.upper(), sign.lower()][int(sign.isupper())] -/
theorem at_turn {c : Nat} (hc : c ∈ sgns) : atI [V.str (Txt.upper (S [c])), V.str (Txt.lower (S [c]))] (if Txt.isupper (S [c]) then 1 else 0) = some (.str (S [con c])) := by
  rw [up1 c hc, low1 c hc, isup1 c hc]
  unfold con up lo
  by_cases h : c < 97
  · have h2 : ¬ 97 ≤ c := by omega
    rw [if_neg h2, if_neg h2, if_neg h2, decide_eq_true h]
    exact atI1
  · have h2 : 97 ≤ c := by omega
    rw [if_pos h2, if_pos h2, if_pos h2, decide_eq_false h]
    exact atI0
theorem sz_str {l m : List Nat} (h1 : l.length < 40000) (h2 : m.length < 40000) : (S l).length + (S m).length ≤ sizeLine := by
  rw [len_S, len_S]
  exact Nat.le_trans (by omega : _ ≤ 100000) (by decide)
theorem row_snoc {l : List Nat} {c : Nat} (h : Row l) (hc : c ∈ sgns) : Row (l ++ [c]) := fun d hd => by
  rcases List.mem_append.mp hd with q | q
  · exact h d q
  · rw [List.mem_singleton.mp q]; exact hc
theorem all_snoc {P : Nat → Prop} {l : List Nat} {c : Nat} (h : ∀ d ∈ l, P d) (hc : P c) : ∀ d ∈ l ++ [c], P d := fun d hd => by
  rcases List.mem_append.mp hd with q | q
  · exact h d q
  · rw [List.mem_singleton.mp q]; exact hc
theorem at_last {m : List Nat} {d : Nat} : atI (S (m ++ [d])).cps.toList (-(1 : Int)) = some d := by
  show atI (m ++ [d]) (-1) = some d
  unfold atI ixN
  have h : -(((m ++ [d]).length : Nat) : Int) ≤ -1 := by simp; omega
  rw [if_neg (by decide), if_pos h]
  have e : ((-1 : Int) + ((m ++ [d]).length : Nat)).toNat = m.length := by simp; omega
  rw [e]
  simp
theorem cut_S (l : List Nat) (lo hi : Option Int) : cutS (S l) lo hi = S ((l.drop (HT.sIx l.length 0 lo)).take (HT.sIx l.length l.length hi - HT.sIx l.length 0 lo)) := by
  unfold cutS
  rw [len_S]
theorem cut_last {m : List Nat} {d : Nat} : cutS (S (m ++ [d])) none (some (-1)) = S m := by
  rw [cut_S, HT.sIx_none]
  have e : HT.sIx (m ++ [d]).length (m ++ [d]).length (some (-1)) = m.length := by
    show (if (-1 : Int) < 0 then ((-1 : Int) + ((m ++ [d]).length : Nat)).toNat else min (-1 : Int).toNat (m ++ [d]).length) = _
    rw [if_pos (by decide)]
    simp
    omega
  rw [e, List.drop_zero, Nat.sub_zero]
  simp
theorem sz_of' {n : Nat} (h : n ≤ 100000) : n ≤ sizeLine := Nat.le_trans h (by decide)
theorem exists_snoc {α : Type} {m : List α} (h : m ≠ []) : ∃ l d, m = l ++ [d] := ⟨m.dropLast, m.getLast h, (List.dropLast_concat_getLast h).symm⟩
theorem ix_con {c : Nat} (h : c ∈ sgns) : ix (con c) / 2 = ix c / 2 := by
  have : ∀ c ∈ sgns, ix (con c) / 2 = ix c / 2 := by decide
  exact this c h
/-! ### the rank of a row, as data -/
def intsD (xs : List Nat) : List PyData := xs.map fun (c : Nat) => .int (c : Int)
def rankD (l : List Nat) : PyData := .tuple [.int l.length, .list (intsD (l.map ix))]
theorem alike_ints : ∀ xs ys : List Nat, PySem.W.alikeAll (intsD xs) (intsD ys) = true
  | [], _ => by simp [intsD, PySem.W.alikeAll]
  | _ :: _, [] => by simp [intsD, PySem.W.alikeAll]
  | x :: xs, y :: ys => by
    have ih := alike_ints xs ys
    simp only [intsD] at ih ⊢
    simp [PySem.W.alikeAll, PySem.W.alike, ih]
theorem alike_rank (l m : List Nat) : PySem.W.alike (rankD l) (rankD m) = true := by
  simp [rankD, PySem.W.alike, PySem.W.alikeAll, alike_ints]
theorem eqv_int (a b : Int) : PyData.eqv (.int a) (.int b) = decide (a = b) := by
  simp [PyData.eqv]
  by_cases h : a = b <;> simp [h]
theorem lex_ints : ∀ xs ys : List Nat, xs.length = ys.length → PyProof.Rows.lexLt PyProof.Rows.itemOrd (PySem.W.keyToksAll (intsD xs)) (PySem.W.keyToksAll (intsD ys)) = RowM.lexI xs ys
  | [], [], _ => by decide
  | [], _ :: _, h => by simp at h
  | _ :: _, [], h => by simp at h
  | x :: xs, y :: ys, h => by
    have ih := lex_ints xs ys (by simpa using h)
    show PyProof.Rows.lexLt PyProof.Rows.itemOrd (PySem.W.keyToksAll (.int (x : Int) :: intsD xs)) (PySem.W.keyToksAll (.int (y : Int) :: intsD ys)) = _
    by_cases e : x = y
    · rw [PySem.W.dataLt_all_yes rfl (by rw [eqv_int]; simp [e]), ih, RowM.lexI, if_pos e]
    · rw [PySem.W.dataLt_all_no rfl (by rw [eqv_int]; simp; omega), PySem.W.dataLt_int, RowM.lexI, if_neg e]
      congr 1
      simp
theorem eqv_list_len : ∀ xs ys : List Nat, PyData.eqvAll (intsD xs) (intsD ys) = true → xs = ys
  | [], [], _ => rfl
  | [], _ :: _, h => by simp [intsD, PyData.eqvAll] at h
  | _ :: _, [], h => by simp [intsD, PyData.eqvAll] at h
  | x :: xs, y :: ys, h => by
    have h2 : PyData.eqvAll (.int (x : Int) :: intsD xs) (.int (y : Int) :: intsD ys) = true := h
    rw [PySem.W.eqv_all_cons, Bool.and_eq_true, eqv_int] at h2
    have := eqv_list_len xs ys h2.2
    have e := of_decide_eq_true h2.1
    rw [this]
    congr 1
    omega
theorem lt_rank {l m : List Nat} : PySem.W.dataLt (rankD l) (rankD m) = RowM.before l m := by
  unfold rankD
  rw [PySem.W.dataLt_tuple]
  unfold RowM.before
  by_cases e : l.length = m.length
  · rw [if_pos e, PySem.W.dataLt_all_yes rfl (by rw [eqv_int]; simp [e])]
    by_cases q : PyData.eqv (.list (intsD (l.map ix))) (.list (intsD (m.map ix))) = true
    · rw [PySem.W.dataLt_all_yes (by rw [PySem.W.alike]; exact alike_ints _ _) q]
      have : l.map ix = m.map ix := eqv_list_len _ _ (by simpa [PyData.eqv] using q)
      rw [this]
      have z : ∀ n : List Nat, RowM.lexI n n = false := by
        intro n
        induction n with
        | nil => rfl
        | cons a n ih => simp [RowM.lexI, ih]
      rw [z]
      decide
    · rw [PySem.W.dataLt_all_no (by rw [PySem.W.alike]; exact alike_ints _ _) (by simpa using q), PySem.W.dataLt_list, lex_ints _ _ (by simpa using e)]
  · rw [if_neg e, PySem.W.dataLt_all_no rfl (by rw [eqv_int]; simp; omega), PySem.W.dataLt_int]
    congr 1
    simp
section
variable {K : PySem.W.Frag} {H : Hp}
theorem dp_ints : ∀ xs : List Nat, DpAll K H (xs.map fun (c : Nat) => V.int (c : Int)) (intsD xs)
  | [] => .nil
  | x :: xs => .cons (.int _) (dp_ints xs)
theorem dp_rank {t q : Addr} {l : List Nat} (ht : H t = some (.tup [.int l.length, .ref q])) (hq : H q = some (.lst (l.map fun c => V.int (ix c : Nat)))) : Dp K H (.ref t) (rankD l) :=
  .tup (SqT.of ht) (.cons (.int _) (.cons (.lst (SqL.of hq) (by
    have := dp_ints (K := K) (H := H) (l.map ix)
    rw [List.map_map] at this
    exact this)) .nil))
end
theorem depth_ints : ∀ xs : List Nat, PyData.depthAll (intsD xs) = 0
  | [] => rfl
  | x :: xs => by
    have := depth_ints xs
    simp only [intsD, List.map_cons, PyData.depthAll, PyData.depth] at this ⊢
    omega
theorem depth_rank (l : List Nat) : (rankD l).depth ≤ 60 := by
  simp [rankD, PyData.depth, PyData.depthAll, depth_ints]
def isRow (l : List Nat) : Bool := decide (l.length ≤ 60) && l.all fun c => decide (c ∈ sgns)
theorem isRow_iff {l : List Nat} : isRow l = true ↔ l.length ≤ 60 ∧ Row l := by
  simp [isRow, RowM.Row]
theorem turns_ok (x t : Int) (h : 1 ≤ t) : 1 ≤ (if (if t < x then t else x) > 1 then (if t < x then t else x) else 1) ∧ (if (if t < x then t else x) > 1 then (if t < x then t else x) else 1) ≤ t := by
  by_cases a : t < x
  · rw [if_pos a]
    by_cases b : t > 1
    · rw [if_pos b]; omega
    · rw [if_neg b]; omega
  · rw [if_neg a]
    by_cases b : x > 1
    · rw [if_pos b]; omega
    · rw [if_neg b]; omega
theorem at2 {α : Type} {a b : α} {v : Int} (h0 : 0 ≤ v) (h1 : v < 2) : ∃ x, atI [a, b] v = some x ∧ (x = a ∨ x = b) := by
  have : v = 0 ∨ v = 1 := by omega
  rcases this with rfl | rfl
  · exact ⟨a, atI0, .inl rfl⟩
  · exact ⟨b, atI1, .inr rfl⟩
theorem cut_to {l : List Nat} {k : Nat} (h : k ≤ l.length) : cutS (S l) none (some (k : Int)) = S (l.take k) := by
  rw [cut_S, HT.sIx_none, HT.sIx_nat, Nat.min_eq_left h, List.drop_zero, Nat.sub_zero]
theorem cut_from {l : List Nat} {k : Nat} : cutS (S l) (some (k : Int)) none = S (l.drop k) := by
  rw [cut_S, HT.sIx_none, HT.sIx_nat]
  congr 1
  by_cases h : k ≤ l.length
  · rw [Nat.min_eq_left h]
    have : (l.drop k).length = l.length - k := List.length_drop ..
    rw [← this, List.take_length]
  · have h2 : l.length ≤ k := by omega
    rw [Nat.min_eq_right h2, List.drop_eq_nil_of_le h2, Nat.sub_self, List.take_zero]
theorem str_dec {c d : Nat} : decide (V.str (S [c]) = V.str (S [d])) = decide (c = d) := by
  apply decide_eq_decide.mpr
  constructor
  · intro h
    have h1 := congrArg (fun v => match v with | V.str z => z.cps.toList | _ => []) h
    simpa using h1
  · intro h; rw [h]
theorem row_sub {l m : List Nat} (h : Row l) (s : ∀ c ∈ m, c ∈ l) : Row m := fun c hc => h c (s c hc)
theorem row_app {l m : List Nat} (h : Row l) (h2 : Row m) : Row (l ++ m) := fun c hc => by
  rcases List.mem_append.mp hc with q | q
  · exact h c q
  · exact h2 c q
theorem at2of3 {α : Type} {a b c : α} {l : List α} : atI (a :: b :: c :: l) 2 = some c := atI_nat (xs := a :: b :: c :: l) (j := 2) rfl
theorem at3 {α : Type} {a b c : α} {v : Int} (h0 : 0 ≤ v) (h1 : v < 3) : ∃ x, atI [a, b, c] v = some x ∧ (x = a ∨ x = b ∨ x = c) := by
  have : v = 0 ∨ v = 1 ∨ v = 2 := by omega
  rcases this with rfl | rfl | rfl
  · exact ⟨a, atI0, .inl rfl⟩
  · exact ⟨b, atI1, .inr (.inl rfl)⟩
  · exact ⟨c, at2of3, .inr (.inr rfl)⟩
theorem at4 {α : Type} {a b c d : α} {v : Int} (h0 : 0 ≤ v) (h1 : v < 4) : ∃ x, atI [a, b, c, d] v = some x ∧ (x = a ∨ x = b ∨ x = c ∨ x = d) := by
  have : v = 0 ∨ v = 1 ∨ v = 2 ∨ v = 3 := by omega
  rcases this with rfl | rfl | rfl | rfl
  · exact ⟨a, atI0, .inl rfl⟩
  · exact ⟨b, atI1, .inr (.inl rfl)⟩
  · exact ⟨c, at2of3, .inr (.inr (.inl rfl))⟩
  · exact ⟨d, atI_nat (xs := [a, b, c, d]) (j := 3) rfl, .inr (.inr (.inr rfl))⟩
theorem Pool.ne {H : Hp} {p d : Addr} (h : Pool H p) (hd : H d = none) : p ≠ d := fun e => by
  obtain ⟨_, _, q, _⟩ := h
  rw [e, hd] at q
  cases q
theorem Pool.new {H : Hp} {p d : Addr} {o : HO} (h : Pool H p) (hd : H d = none) : Pool (upd H d o) p := h.same (Same.new hd)
/-- what stood ahead of the pool stands -/
theorem Off.same {H0 H H' : Hp} {p : Addr} (hp : H0 p = none) (s : Same H0 H) (o : Off p H H') : Same H0 H' := fun b u e => o b u (fun q => by rw [q, hp] at e; cases e) (s b u e)
/-! ### things of any kind -/
def NotStr (H : Hp) (x : V) : Prop := x = .non ∨ (∃ i, x = .int i) ∨ (∃ b, x = .bl b) ∨ ∃ a, x = .ref a ∧ ((∃ xs, H a = some (.lst xs)) ∨ (∃ xs, H a = some (.tup xs)) ∨ ∃ kvs, H a = some (.dK kvs))
theorem NotStr.same {H H' : Hp} {x : V} (h : NotStr H x) (s : Same H H') : NotStr H' x := by
  rcases h with h | h | h | ⟨a, e, ⟨xs, h⟩ | ⟨xs, h⟩ | ⟨xs, h⟩⟩
  · exact .inl h
  · exact .inr (.inl h)
  · exact .inr (.inr (.inl h))
  · exact .inr (.inr (.inr ⟨a, e, .inl ⟨xs, s _ _ h⟩⟩))
  · exact .inr (.inr (.inr ⟨a, e, .inr (.inl ⟨xs, s _ _ h⟩)⟩))
  · exact .inr (.inr (.inr ⟨a, e, .inr (.inr ⟨xs, s _ _ h⟩)⟩))
theorem NotStr.ty {K : PySem.W.Frag} {H : Hp} {x : V} (h : NotStr H x) : ∃ t : String, TyX K H x (.type t) ∧ kitB t "str" = some false := by
  rcases h with rfl | ⟨i, rfl⟩ | ⟨b, rfl⟩ | ⟨a, rfl, ⟨xs, h⟩ | ⟨xs, h⟩ | ⟨xs, h⟩⟩
  · exact ⟨_, .base .non, by decide +kernel⟩
  · exact ⟨_, .base (.int _), by decide +kernel⟩
  · exact ⟨_, .base (.bl _), by decide +kernel⟩
  · exact ⟨_, .base (.lst h), by decide +kernel⟩
  · exact ⟨_, .base (.tup h), by decide +kernel⟩
  · exact ⟨_, .base (.dK h), by decide +kernel⟩
/-- whether x is a text of at most so many of the twelve signs -/
def IsRowW (H : Hp) (x : V) (most : Int) (r : Bool) : Prop := (∃ l : List Nat, x = .str (S l) ∧ l.length ≤ 40000 ∧ r = (decide ((l.length : Int) ≤ most) && l.all fun c => decide (c ∈ sgns))) ∨ (NotStr H x ∧ r = false)
def IsRowV (H : Hp) (x : V) (r : Bool) : Prop := (∃ l : List Nat, x = .str (S l) ∧ l.length ≤ 40000 ∧ r = isRow l) ∨ (NotStr H x ∧ r = false)
theorem IsRowV.same {H H' : Hp} {x : V} {r : Bool} (h : IsRowV H x r) (s : Same H H') : IsRowV H' x r := by
  rcases h with h | ⟨h, e⟩
  · exact .inl h
  · exact .inr ⟨h.same s, e⟩
theorem IsRowV.w {H : Hp} {x : V} {r : Bool} (h : IsRowV H x r) : IsRowW H x 60 r := by
  rcases h with ⟨l, e, z, q⟩ | h
  · refine .inl ⟨l, e, z, ?_⟩
    rw [q]
    unfold isRow
    have z : decide ((l.length : Int) ≤ 60) = decide (l.length ≤ 60) := decide_eq_decide.mpr (by omega)
    rw [z]
  · exact .inr h
theorem Off.mut {p D : Addr} {H H' : Hp} {o : HO} (a : Off p H H') (hD : H D = none) : Off p H (L2.upd H' D o) := fun b u n h => by
  rw [L2.upd_ne (ne_of_none h hD)]
  exact a b u n h
theorem str_at {z : Str} {u : Int} (h0 : 0 ≤ u) (h1 : u < (z.length : Int)) : ∃ c, atI z.cps.toList u = some c ∧ c ∈ z.cps.toList := by
  obtain ⟨n, rfl⟩ : ∃ n : Nat, u = (n : Int) := ⟨u.toNat, by omega⟩
  have h2 : n < z.cps.toList.length := by
    have : z.cps.toList.length = z.length := rfl
    omega
  exact ⟨z.cps.toList[n], atI_nat (List.getElem?_eq_getElem h2), List.getElem_mem _⟩
/-! ### the ten things that are no texts -/
def oddL (t1 l1 d1 l2 t2 l3 : Addr) : List V := [.non, .int 0, .bl true, .ref t1, .ref l1, .ref d1, .ref l2, .ref t2, .ref l3, .int ((10 : Int) ^ (30 : Int).toNat)]
def oddH (H : Hp) (t1 l1 d1 l2 t2 l3 O : Addr) : Hp := upd (upd (upd (upd (upd (upd (upd H t1 (.tup [])) l1 (.lst [])) d1 (.dK [])) l2 (.lst [.str (Str.ofString "a")])) t2 (.tup [.str (Str.ofString "a")])) l3 (.lst [.str (Str.ofString "a"), .str (Str.ofString "b")])) O (.lst (oddL t1 l1 d1 l2 t2 l3))
theorem oddH_ok {H H1 H2 H3 H4 H5 H6 : Hp} {t1 l1 d1 l2 t2 l3 O : Addr} (e1 : H1 = upd H t1 (.tup [])) (e2 : H2 = upd H1 l1 (.lst [])) (e3 : H3 = upd H2 d1 (.dK [])) (e4 : H4 = upd H3 l2 (.lst [.str (Str.ofString "a")])) (e5 : H5 = upd H4 t2 (.tup [.str (Str.ofString "a")])) (e6 : H6 = upd H5 l3 (.lst [.str (Str.ofString "a"), .str (Str.ofString "b")]))
    (n1 : H t1 = none) (n2 : H1 l1 = none) (n3 : H2 d1 = none) (n4 : H3 l2 = none) (n5 : H4 t2 = none) (n6 : H5 l3 = none) (n7 : H6 O = none) :
    Same H (oddH H t1 l1 d1 l2 t2 l3 O) ∧ oddH H t1 l1 d1 l2 t2 l3 O O = some (.lst (oddL t1 l1 d1 l2 t2 l3)) ∧ ∀ x ∈ oddL t1 l1 d1 l2 t2 l3, NotStr (oddH H t1 l1 d1 l2 t2 l3 O) x := by
  have eH : oddH H t1 l1 d1 l2 t2 l3 O = upd H6 O (.lst (oddL t1 l1 d1 l2 t2 l3)) := by rw [e6, e5, e4, e3, e2, e1]; rfl
  rw [eH]
  have s6 : Same H6 (upd H6 O (.lst (oddL t1 l1 d1 l2 t2 l3))) := Same.new n7
  have s5 : Same H5 _ := Same.trans (e6 ▸ Same.new n6) s6
  have s4 : Same H4 _ := Same.trans (e5 ▸ Same.new n5) s5
  have s3 : Same H3 _ := Same.trans (e4 ▸ Same.new n4) s4
  have s2 : Same H2 _ := Same.trans (e3 ▸ Same.new n3) s3
  have s1 : Same H1 _ := Same.trans (e2 ▸ Same.new n2) s2
  have s0 : Same H _ := Same.trans (e1 ▸ Same.new n1) s1
  refine ⟨s0, upd_same, fun x hx => ?_⟩
  simp only [oddL, List.mem_cons, List.not_mem_nil, or_false] at hx
  rcases hx with rfl | rfl | rfl | rfl | rfl | rfl | rfl | rfl | rfl | rfl
  · exact .inl rfl
  · exact .inr (.inl ⟨_, rfl⟩)
  · exact .inr (.inr (.inl ⟨_, rfl⟩))
  · exact .inr (.inr (.inr ⟨_, rfl, .inr (.inl ⟨_, s1 _ _ (by rw [e1]; exact upd_same)⟩)⟩))
  · exact .inr (.inr (.inr ⟨_, rfl, .inl ⟨_, s2 _ _ (by rw [e2]; exact upd_same)⟩⟩))
  · exact .inr (.inr (.inr ⟨_, rfl, .inr (.inr ⟨_, s3 _ _ (by rw [e3]; exact upd_same)⟩)⟩))
  · exact .inr (.inr (.inr ⟨_, rfl, .inl ⟨_, s4 _ _ (by rw [e4]; exact upd_same)⟩⟩))
  · exact .inr (.inr (.inr ⟨_, rfl, .inr (.inl ⟨_, s5 _ _ (by rw [e5]; exact upd_same)⟩)⟩))
  · exact .inr (.inr (.inr ⟨_, rfl, .inl ⟨_, s6 _ _ (by rw [e6]; exact upd_same)⟩⟩))
  · exact .inr (.inl ⟨_, rfl⟩)
/-- a sign among the twelve, in a list of them -/
theorem inV_signs (c : Nat) : inV (V.str (S [c])) ((Str.ofString "aAbBcCdDeEfF").cps.toList.map fun d => V.str ⟨#[d]⟩) = decide (c ∈ sgns) := by
  have h : (Str.ofString "aAbBcCdDeEfF").cps.toList = sgns := by decide +kernel
  rw [h]
  unfold inV
  rw [List.any_map]
  have e : ∀ d : Nat, eqV (V.str ⟨#[d]⟩) (V.str (S [c])) = decide (d = c) := fun d => by
    show ((⟨#[d]⟩ : Str) == S [c]) = decide (d = c)
    by_cases q : d = c
    · subst q; simp
    · rw [decide_eq_false q]
      apply beq_eq_false_iff_ne.mpr
      intro z
      have := congrArg (fun z : Str => z.cps.toList) z
      simp at this
      exact q this
  rw [show (sgns.any ((fun y => eqV y (V.str (S [c]))) ∘ fun d => V.str ⟨#[d]⟩)) = sgns.any fun d => decide (d = c) from by congr 1; funext d; exact e d]
  by_cases q : c ∈ sgns
  · rw [decide_eq_true q]
    exact List.any_eq_true.mpr ⟨c, q, by simp⟩
  · rw [decide_eq_false q]
    exact List.any_eq_false.mpr fun d hd => by simp; intro z; subst z; exact q hd
theorem dp_strs {K : PySem.W.Frag} {H : Hp} : ∀ zs : List Str, DpAll K H (zs.map V.str) (zs.map PyData.str)
  | [] => .nil
  | z :: zs => .cons (.str z) (dp_strs zs)
theorem eqv_nil : ∀ ds : List PyData, PyData.eqv (.list ds) (.list []) = ds.isEmpty
  | [] => by simp [PyData.eqv, PyData.eqvAll]
  | _ :: _ => by simp [PyData.eqv, PyData.eqvAll]
/-- a list of code points that a text may hold -/
def Chs (l : List Nat) : Prop := ∀ c ∈ l, c < 1114112
theorem chs_in {l m : List Nat} (h : ∀ c ∈ l, c ∈ m) (g : (m.all fun c => decide (c < 1114112)) = true) : Chs l := fun c hc => of_decide_eq_true (List.all_eq_true.mp g c (h c hc))
theorem chs_sgns : (sgns.all fun c => decide (c < 1114112)) = true := by decide
theorem Chs.app {l m : List Nat} (a : Chs l) (b : Chs m) : Chs (l ++ m) := fun c h => by
  rcases List.mem_append.mp h with h | h
  · exact a c h
  · exact b c h
theorem shaped_strs (zs : List Str) (hz : zs.all PyData.strOk = true) : SeqAt.shaped (.list (zs.map PyData.str)) = true := by
  have h1 : PyData.canLayAll0 (zs.map PyData.str) = true := by
    induction zs with
    | nil => rfl
    | cons z zs ih =>
      simp only [List.all_cons, Bool.and_eq_true] at hz
      simp [PyData.canLayAll0, PyData.canLay0, hz.1, ih hz.2]
  have h2 : ∀ zs : List Str, PyData.depthAll (zs.map PyData.str) = 0 := by
    intro zs
    induction zs with
    | nil => rfl
    | cons z zs ih => simp [PyData.depthAll, PyData.depth, ih]
  simp [SeqAt.shaped, PyData.canLay0, h1, PyData.depth, h2]
/-- the signs of a text that are none of the twelve -/
def strays (l : List Nat) : List Str := ((List.range l.length).filter fun i => !decide (l.getD i 0 ∈ sgns)).map fun i => S [l.getD i 0]
theorem given_strays (l : List Nat) : Evl.given l.length (fun i => !decide (l.getD i 0 ∈ sgns)) (fun i => V.str (S [l.getD i 0])) = (strays l).map V.str := by
  unfold Evl.given strays
  rw [List.map_map]
  rfl
theorem getD_mem {l : List Nat} {i : Nat} (h : i < l.length) : l.getD i 0 ∈ l := by
  rw [List.getD_eq_getElem?_getD, List.getElem?_eq_getElem h]
  exact List.getElem_mem _
theorem strays_ok {l : List Nat} (h : Chs l) : (strays l).all PyData.strOk = true := by
  refine List.all_eq_true.mpr fun z hz => ?_
  unfold strays at hz
  obtain ⟨i, hi, rfl⟩ := List.mem_map.mp hz
  have hi := (List.mem_filter.mp hi).1
  have := h _ (getD_mem (List.mem_range.mp hi))
  simp [PyData.strOk]
  simpa using this
theorem strays_none (l : List Nat) : (strays l).isEmpty = l.all fun c => decide (c ∈ sgns) := by
  by_cases h : ∀ c ∈ l, c ∈ sgns
  · have e : strays l = [] := by
      unfold strays
      rw [List.map_eq_nil_iff, List.filter_eq_nil_iff]
      intro i hi
      have := h _ (getD_mem (List.mem_range.mp hi))
      simpa using this
    rw [e, List.all_eq_true.mpr fun c hc => decide_eq_true (h c hc)]
    rfl
  · rw [show (l.all fun c => decide (c ∈ sgns)) = false from by
      cases q : l.all fun c => decide (c ∈ sgns)
      · rfl
      · exact absurd (fun c hc => of_decide_eq_true (List.all_eq_true.mp q c hc)) h]
    cases q : (strays l).isEmpty
    · rfl
    · refine absurd (fun c hc => ?_) h
      obtain ⟨i, hi, e⟩ := List.getElem_of_mem hc
      have z := List.isEmpty_iff.mp q
      unfold strays at z
      rw [List.map_eq_nil_iff, List.filter_eq_nil_iff] at z
      have := z i (List.mem_range.mpr hi)
      rw [List.getD_eq_getElem?_getD, List.getElem?_eq_getElem hi] at this
      simpa [e] using this
/-! ### walks -/
open WalkM (PRow Tree addK gone srt)
theorem S_inj1 {l m : List Nat} (h : S l = S m) : l = m := by
  have := congrArg (fun z : Str => z.cps.toList) h
  simpa using this
theorem sT_inj {l m : List Nat} (h : V.str (S l) = .str (S m)) : l = m := by
  injection h with h
  exact S_inj1 h
theorem no_both {x y : Option HO} {o : HO} (h : x = none) (g : y = some o) (e : x = y := by rfl) : False := by
  rw [← e, h] at g
  cases g
/-- a row as a value, as a key -/
def sT (p : List Nat) : V := .str (S p)
def kT (p : List Nat) : Key := Sum.inr (S p)
def kvT (ks : List (List Nat)) : List (Key × V) := ks.map fun p => (kT p, .bl true)
theorem kT_inj {p q : List Nat} : kT p = kT q ↔ p = q := ⟨fun h => by injection h with h; exact S_inj1 h, fun h => by rw [h]⟩
theorem kV_kT (p : List Nat) : kV (kT p) = sT p := rfl
theorem keys_T (ks : List (List Nat)) : (kvT ks).map (fun kv => kV kv.1) = ks.map sT := by simp [kvT, Function.comp, kV_kT]
theorem val_T (ks : List (List Nat)) (p : List Nat) : valV (kvT ks) (kT p) = if p ∈ ks then some (.bl true) else none := by
  unfold valV kvT
  induction ks with
  | nil => rfl
  | cons q ks ih =>
    rw [List.map_cons, List.find?_cons]
    by_cases h : kT q = kT p
    · have := kT_inj.mp h
      subst this
      simp
    · have h2 : ¬ p = q := fun e => h (by rw [e])
      simp only [h, decide_false]
      rw [ih]
      simp [h2]
theorem put_T (ks : List (List Nat)) (p : List Nat) : putK (kvT ks) (kT p) (.bl true) = kvT (addK ks p) := by
  have e : (kvT ks).any (fun kv => decide (kv.1 = kT p)) = decide (p ∈ ks) := by
    unfold kvT
    rw [List.any_map]
    induction ks with
    | nil => rfl
    | cons q ks ih =>
      rw [List.any_cons, ih]
      by_cases h : q = p
      · subst h; simp
      · have h2 : ¬ p = q := fun e => h e.symm
        simp [kT_inj, h, h2]
  unfold putK addK
  rw [e]
  by_cases h : p ∈ ks
  · rw [if_pos h, decide_eq_true h, if_pos rfl]
    unfold kvT
    rw [List.map_map]
    refine List.map_congr_left fun q _ => ?_
    simp only [Function.comp]
    by_cases h2 : kT q = kT p
    · rw [if_pos h2]
    · rw [if_neg h2]
  · rw [if_neg h, decide_eq_false h, if_neg (by decide)]
    simp [kvT]
theorem merge_T (p : List Nat) : mergeK [] [(kT p, V.bl true)] = kvT [p] := rfl
theorem len_kvT (ks : List (List Nat)) : (kvT ks).length = ks.length := by simp [kvT]
/-- the last sign of a text -/
theorem ends_last {l : List Nat} {d : Nat} : Txt.endswith (S l) (S [d]) = decide (l.getLast? = some d) := by
  have e1 : (S [d]).length = 1 := rfl
  have e : Txt.endswith (S l) (S [d]) = (decide ((S [d]).length ≤ (S l).length) && Builtin.Str.subAt (S l) (S [d]) ((S l).length - (S [d]).length)) := by
    unfold Txt.endswith
    simp
  rw [e, PySem.StrLaws.subAt_eq, e1, len_S]
  show (decide (1 ≤ l.length) && ((l.drop (l.length - 1)).take 1 == [d])) = _
  rcases List.eq_nil_or_concat l with rfl | ⟨m, x, rfl⟩
  · rfl
  · have h1 : (m.concat x).length - 1 = m.length := by simp
    rw [h1, List.concat_eq_append, List.drop_left]
    by_cases h : x = d <;> simp [h]
theorem made_on {l : List Nat} {i c : Nat} (hc : l[i]? = some c) : RowM.plain (l.take (i + 1)) = WalkM.on (RowM.plain (l.take i)) c := by
  rw [List.take_add_one, hc]
  exact WalkM.plain_snoc _ _
/-- a walk in the heap: the object, the list of its places, the places, the end -/
def wkfs (q : Addr) (e : List Nat) : List (Str × V) := [(Str.ofString "own_places", .ref q), (Str.ofString "own_end", sT e)]
def WkAt (C : Addr) (H : Hp) (a q : Addr) (ps : List (List Nat)) (e : List Nat) : Prop := (∃ dx, H a = some (.ins C dx (wkfs q e))) ∧ H q = some (.lst (ps.map sT))
theorem WkAt.same {C : Addr} {H H' : Hp} {a q : Addr} {ps : List (List Nat)} {e : List Nat} (h : WkAt C H a q ps e) (s : Same H H') : WkAt C H' a q ps e := ⟨let ⟨dx, z⟩ := h.1; ⟨dx, s _ _ z⟩, s _ _ h.2⟩
theorem WkAt.off {C p : Addr} {H H' : Hp} {a q : Addr} {ps : List (List Nat)} {e : List Nat} (h : WkAt C H a q ps e) (s : Off p H H') (n1 : a ≠ p) (n2 : q ≠ p) : WkAt C H' a q ps e := ⟨let ⟨dx, z⟩ := h.1; ⟨dx, s _ _ n1 z⟩, s _ _ n2 h.2⟩
theorem le_rank (l m : List Nat) : PySem.W.dataLe false (fun b : V × PyData => b.2) (sT l, rankD l) (sT m, rankD m) = WalkM.leR l m := by
  show (!PySem.W.dataLt (rankD m) (rankD l)) = _
  rw [lt_rank]
  rfl
def bsT (ts : List (List Nat)) : List (V × PyData) := ts.map fun p => (sT p, rankD p)
theorem bsT_fst (ts : List (List Nat)) : (bsT ts).map (·.1) = ts.map sT := by simp [bsT, Function.comp]
theorem sort_bsT (ts : List (List Nat)) : ((bsT ts).mergeSort (PySem.W.dataLe false (·.2))).map (·.1) = (srt ts).map sT := by
  have h : (ts.mergeSort WalkM.leR).map (fun p => ((sT p, rankD p) : V × PyData)) = (bsT ts).mergeSort (PySem.W.dataLe false (·.2)) :=
    List.map_mergeSort fun a _ b _ => (le_rank a b).symm
  rw [← h, List.map_map]
  rfl
theorem alike_bsT (ts : List (List Nat)) : PySem.W.AllAlike ((bsT ts).map (·.2)) := fun d hd d' hd' => by
  simp only [bsT, List.map_map, List.mem_map, Function.comp] at hd hd'
  obtain ⟨p, _, rfl⟩ := hd
  obtain ⟨q, _, rfl⟩ := hd'
  exact alike_rank p q
theorem sortable_bsT (ts : List (List Nat)) : PySem.W.Sortable ((bsT ts).map (·.2)) := .inl fun d hd => by
  simp only [bsT, List.map_map, List.mem_map, Function.comp] at hd
  obtain ⟨p, _, rfl⟩ := hd
  exact ⟨_, _, rfl⟩
theorem depth_rank2 (l : List Nat) : (rankD l).depth ≤ 50 := by
  simp [rankD, PyData.depth, PyData.depthAll, depth_ints]
theorem in_texts (ts : List (List Nat)) (p : List Nat) : inV (sT p) (ts.map sT) = decide (p ∈ ts) := by
  unfold inV sT
  rw [List.any_map]
  induction ts with
  | nil => rfl
  | cons q ts ih =>
    rw [List.any_cons, ih]
    by_cases h : p = q
    · subst h; simp [eqV]
    · have h2 : ¬ S p = S q := fun e => h (S_inj1 e)
      have h3 : ¬ S q = S p := fun e => h (S_inj1 e).symm
      simp [eqV, h, h2, h3]
theorem flat_T (ts : List (List Nat)) : (ts.map sT).all flatV = true := by
  rw [List.all_map]
  exact List.all_eq_true.mpr fun _ _ => rfl
/-- a tree whose rows are short -/
structure TreeS (ts : List (List Nat)) : Prop where
  t : Tree ts
  z : ∀ p ∈ ts, p.length ≤ 60
  n0 : 1 ≤ ts.length
  n1 : ts.length ≤ 61
theorem treeS_gone {l : List Nat} (h : Row l) (z : l.length ≤ 60) : TreeS (gone l) :=
  ⟨WalkM.tree_gone h, fun p hp => Nat.le_trans (WalkM.gone_small l p hp) z, WalkM.gone_pos l, Nat.le_trans (WalkM.gone_length l) (by omega)⟩
theorem on_snoc {m : List Nat} {c : Nat} : WalkM.on (m ++ [con c]) c = m := by
  unfold WalkM.on
  rw [if_pos (by simp)]
  simp
theorem on_else {p : List Nat} {c : Nat} (h : ¬ p.getLast? = some (con c)) : WalkM.on p c = p ++ [c] := if_neg h
theorem TreeS.row {ts : List (List Nat)} (h : TreeS ts) {p : List Nat} (hp : p ∈ ts) : isRow p = true := isRow_iff.mpr ⟨h.z p hp, (h.t.pr p hp).1⟩
/-- what lies within -/
def within (l m : List Nat) : Bool := (gone l).all fun p => decide (p ∈ gone m)
theorem within_srt (l m : List Nat) : ((srt (gone l)).all fun p => decide (p ∈ srt (gone m))) = within l m := by
  unfold within
  rw [(WalkM.srt_perm (gone l)).all_eq]
  simp only [WalkM.srt_mem]
theorem con_is {c : Nat} (hc : c ∈ sgns) : (if Txt.isupper (S [c]) = true then V.str (Txt.lower (S [c])) else V.str (Txt.upper (S [c]))) = .str (S [con c]) := by
  rw [up1 c hc, low1 c hc, isup1 c hc]
  unfold con lo up
  by_cases h : c < 97
  · have h2 : ¬ 97 ≤ c := by omega
    rw [decide_eq_true h, if_pos rfl, if_neg h2, if_neg h2]
  · have h2 : 97 ≤ c := by omega
    rw [decide_eq_false h, if_neg (by decide), if_pos h2, if_pos h2]
theorem ne_nil {l : List Nat} (h : l ≠ []) : decide (V.str (S l) = V.str (Str.ofString "")) = false := decide_eq_false fun e => h (sT_inj (l := l) (m := []) e)
theorem dec_nil (l : List Nat) : decide (V.str (S l) = V.str (Str.ofString "")) = decide (l = []) := decide_eq_decide.mpr ⟨fun e => sT_inj (l := l) (m := []) e, fun e => by rw [e]; rfl⟩
theorem dec_str (l m : List Nat) : decide (V.str (S l) = V.str (S m)) = decide (l = m) := decide_eq_decide.mpr ⟨sT_inj, fun e => by rw [e]⟩
/-- rows as data -/
def sD (ts : List (List Nat)) : List PyData := (ts.map S).map PyData.str
theorem sT_map (ts : List (List Nat)) : ts.map sT = (ts.map S).map V.str := by rw [List.map_map]; rfl
theorem dp_T {K : PySem.W.Frag} {H : Hp} {q : Addr} {ts : List (List Nat)} (h : H q = some (.lst (ts.map sT))) : Dp K H (.ref q) (.list (sD ts)) := .lst (SqL.of h) (by rw [sT_map]; exact dp_strs _)
theorem strOk_row {l : List Nat} (h : Row l) : PyData.strOk (S l) = true := by
  have := strays_ok (l := l) (chs_in (m := sgns) h chs_sgns)
  have q : ∀ c ∈ l, c < 1114112 := chs_in (m := sgns) h chs_sgns
  unfold PyData.strOk
  simp only [List.all_eq_true, Array.all_eq_true, decide_eq_true_eq]
  first
    | exact q
    | (intro i hi; exact q _ (by simpa using List.getElem_mem (l := l) (by simpa using hi)))
theorem shaped_T {ts : List (List Nat)} (h : ∀ p ∈ ts, Row p) : SeqAt.shaped (.list (sD ts)) = true := shaped_strs _ (by
  rw [List.all_map]
  exact List.all_eq_true.mpr fun p hp => strOk_row (h p hp))
theorem eqv_sD : ∀ ts us : List (List Nat), PyData.eqvAll (sD ts) (sD us) = decide (ts = us)
  | [], [] => by simp [sD, PyData.eqvAll]
  | [], _ :: _ => by simp [sD, PyData.eqvAll]
  | _ :: _, [] => by simp [sD, PyData.eqvAll]
  | t :: ts, u :: us => by
    have ih := eqv_sD ts us
    have e : sD (t :: ts) = .str (S t) :: sD ts := rfl
    have e2 : sD (u :: us) = .str (S u) :: sD us := rfl
    rw [e, e2, PySem.W.eqv_all_cons, ih]
    have e3 : PyData.eqv (.str (S t)) (.str (S u)) = decide (t = u) := by
      simp only [PyData.eqv]
      by_cases h : t = u
      · subst h; simp
      · have : ¬ S t = S u := fun z => h (S_inj1 z)
        simp [h, this]
    rw [e3]
    by_cases h1 : t = u
    · by_cases h2 : ts = us
      · simp [h1, h2]
      · simp [h1, h2]
    · simp [h1]
theorem eqv_T (ts us : List (List Nat)) : PyData.eqv (.list (sD ts)) (.list (sD us)) = decide (ts = us) := by rw [PyData.eqv, eqv_sD]
theorem within_nil (l m : List Nat) : decide (((gone l).filter fun p => !decide (p ∈ gone m)) = []) = within l m := by
  unfold within
  rw [Bool.eq_iff_iff, decide_eq_true_iff, List.filter_eq_nil_iff, List.all_eq_true]
  simp
theorem turn_one (c : Nat) : RowM.turn [c] = [con c] := rfl
theorem isRow_of {l : List Nat} (h : Row l) (z : l.length ≤ 60) : isRow l = true := isRow_iff.mpr ⟨z, h⟩

/-! ### rounds: what is left at each place -/
theorem starts_S {e q : List Nat} : Txt.startswith (S e) (S q) = q.isPrefixOf e := by
  have h : Txt.startswith (S e) (S q) = (decide ((S q).length ≤ (S e).length) && Builtin.Str.subAt (S e) (S q) 0) := by
    unfold Txt.startswith
    simp
  rw [h, PySem.StrLaws.subAt_eq, len_S, len_S]
  show (decide (q.length ≤ e.length) && ((e.drop 0).take q.length == q)) = _
  rw [List.drop_zero, Bool.eq_iff_iff, List.isPrefixOf_iff_prefix, Bool.and_eq_true, decide_eq_true_eq, beq_iff_eq]
  constructor
  · rintro ⟨_, h⟩
    exact ⟨e.drop q.length, by conv => lhs; lhs; rw [← h]
                               exact List.take_append_drop _ _⟩
  · rintro ⟨t, rfl⟩
    exact ⟨by simp, by simp⟩
def kvL (ps : List (List Nat)) (g : List Nat → List Nat) : List (Key × V) := ps.map fun p => (kT p, sT (g p))
def setF (g : List Nat → List Nat) (p x : List Nat) (q : List Nat) : List Nat := if q = p then x else g q
theorem setF_same {g : List Nat → List Nat} {p x : List Nat} : setF g p x p = x := if_pos rfl
theorem setF_ne {g : List Nat → List Nat} {p x q : List Nat} (h : q ≠ p) : setF g p x q = g q := if_neg h
theorem keys_L (ps : List (List Nat)) (g : List Nat → List Nat) : (kvL ps g).map (fun kv => kV kv.1) = ps.map sT := by simp [kvL, Function.comp, kV_kT]
theorem any_L (ps : List (List Nat)) (g : List Nat → List Nat) (p : List Nat) : (kvL ps g).any (fun kv => decide (kv.1 = kT p)) = decide (p ∈ ps) := by
  unfold kvL
  rw [List.any_map]
  induction ps with
  | nil => rfl
  | cons q ks ih =>
    rw [List.any_cons, ih]
    by_cases h : q = p
    · subst h; simp
    · have h2 : ¬ p = q := fun e => h e.symm
      simp [kT_inj, h, h2]
theorem val_L (g : List Nat → List Nat) {p : List Nat} : ∀ {ps : List (List Nat)}, p ∈ ps → valV (kvL ps g) (kT p) = some (sT (g p))
  | q :: ks, h => by
    unfold valV kvL
    rw [List.map_cons, List.find?_cons]
    by_cases e : kT q = kT p
    · have := kT_inj.mp e
      subst this
      simp
    · simp only [e, decide_false]
      have h2 : p ∈ ks := (List.mem_cons.mp h).resolve_left fun z => e (by rw [z])
      exact val_L g h2
theorem put_new {ps : List (List Nat)} {g : List Nat → List Nat} {p x : List Nat} (h : p ∉ ps) : putK (kvL ps g) (kT p) (sT x) = kvL (ps ++ [p]) (setF g p x) := by
  unfold putK
  rw [any_L, decide_eq_false h, if_neg (by decide)]
  unfold kvL
  rw [List.map_append, List.map_singleton, setF_same]
  congr 1
  exact List.map_congr_left fun q hq => by rw [setF_ne (fun e => h (by rw [← e]; exact hq))]
theorem put_old {ps : List (List Nat)} {g : List Nat → List Nat} {p x : List Nat} (h : p ∈ ps) : putK (kvL ps g) (kT p) (sT x) = kvL ps (setF g p x) := by
  unfold putK
  rw [any_L, decide_eq_true h, if_pos rfl]
  unfold kvL
  rw [List.map_map]
  refine List.map_congr_left fun q _ => ?_
  simp only [Function.comp]
  by_cases h2 : q = p
  · subst h2; rw [if_pos rfl, setF_same]
  · rw [if_neg (fun e => h2 (kT_inj.mp e)), setF_ne h2]
/-- a step off the way to the end -/
def offE (e p q : List Nat) : Bool := decide (q ≠ []) && decide (q.dropLast = p) && !(q.isPrefixOf e)
def cnt (qs : List (List Nat)) (e p : List Nat) : Nat := (qs.filter (offE e p)).length
theorem cnt_snoc (qs : List (List Nat)) (e p q : List Nat) : cnt (qs ++ [q]) e p = cnt qs e p + if offE e p q = true then 1 else 0 := by
  unfold cnt
  rw [List.filter_append, List.length_append, List.filter_cons]
  split <;> simp
theorem cnt_le (qs : List (List Nat)) (e p : List Nat) : cnt qs e p ≤ qs.length := List.length_filter_le _ _
theorem len_of_leR {a b : List Nat} (h : WalkM.leR a b = true) : a.length ≤ b.length := by
  unfold WalkM.leR RowM.before at h
  by_cases q : a.length ≤ b.length
  · exact q
  · have h1 : b.length < a.length := by omega
    have h2 : ¬ b.length = a.length := by omega
    simp [h1, h2] at h
/-- places in their order -/
structure Ord (ps : List (List Nat)) : Prop where
  t : TreeS ps
  le : ps.Pairwise (fun a b => WalkM.leR a b = true)
theorem ord_srt {ts : List (List Nat)} (t : TreeS ts) : Ord (srt ts) := ⟨⟨WalkM.srt_tree t.t, fun p hp => t.z p (WalkM.srt_mem.mp hp), by rw [WalkM.srt_length]; exact t.n0, by rw [WalkM.srt_length]; exact t.n1⟩, WalkM.srt_pairwise ts⟩
theorem srt_ord {ps : List (List Nat)} (o : Ord ps) : srt ps = ps := by
  refine List.Perm.eq_of_pairwise (le := fun a b => WalkM.leR a b = true) (fun a b ha hb h1 h2 => ?_) (WalkM.srt_pairwise ps) o.le (WalkM.srt_perm ps)
  have ra := (o.t.t.pr a (WalkM.srt_mem.mp ha)).1
  have rb := (o.t.t.pr b hb).1
  unfold WalkM.leR at h1 h2
  simp only [Bool.not_eq_true'] at h1 h2
  exact WalkM.before_eq ra rb h2 h1
theorem ord_before {ps : List (List Nat)} (o : Ord ps) {i j : Nat} {p q : List Nat} (hi : ps[i]? = some p) (hj : ps[j]? = some q) (h : i < j) : p.length ≤ q.length := by
  obtain ⟨h1, rfl⟩ := List.getElem?_eq_some_iff.mp hi
  obtain ⟨h2, rfl⟩ := List.getElem?_eq_some_iff.mp hj
  exact len_of_leR (List.pairwise_iff_getElem.mp o.le i j h1 h2 h)
theorem ord_new {ps : List (List Nat)} (o : Ord ps) {i : Nat} {p : List Nat} (hi : ps[i]? = some p) : p ∉ ps.take i := fun h => by
  obtain ⟨j, hj⟩ := List.mem_iff_getElem?.mp h
  have hji : j < i := by
    have := (List.getElem?_eq_some_iff.mp hj).1
    rw [List.length_take] at this
    omega
  rw [List.getElem?_take_of_lt hji] at hj
  obtain ⟨h1, e1⟩ := List.getElem?_eq_some_iff.mp hi
  obtain ⟨h2, e2⟩ := List.getElem?_eq_some_iff.mp hj
  exact (List.pairwise_iff_getElem.mp o.t.t.nd j i h2 h1 hji) (e2.trans e1.symm)
theorem ord_parent {ps : List (List Nat)} (o : Ord ps) {i : Nat} {p : List Nat} (hi : ps[i]? = some p) (ne : p ≠ []) : p.dropLast ∈ ps.take i := by
  have hp := o.t.t.cl p (List.mem_of_getElem? hi) ne
  obtain ⟨j, hj⟩ := List.mem_iff_getElem?.mp hp
  have hl : p.dropLast.length + 1 = p.length := by
    rw [List.length_dropLast]
    have := List.length_pos_iff.mpr ne
    omega
  have hji : j < i := by
    rcases Nat.lt_trichotomy j i with h | h | h
    · exact h
    · subst h
      rw [hj] at hi
      injection hi with hi
      rw [hi] at hl
      omega
    · have := ord_before o hi hj h
      omega
  exact List.mem_iff_getElem?.mpr ⟨j, by rw [List.getElem?_take_of_lt hji]; exact hj⟩
/-- nothing goes on from a place ahead of it -/
theorem ord_none {ps : List (List Nat)} (o : Ord ps) {i : Nat} {p : List Nat} (e : List Nat) (hi : ps[i]? = some p) : cnt (ps.take (i + 1)) e p = 0 := by
  unfold cnt
  rw [List.length_eq_zero_iff, List.filter_eq_nil_iff]
  intro q hq h
  unfold offE at h
  simp only [Bool.and_eq_true, decide_eq_true_eq] at h
  have hl : p.length + 1 = q.length := by
    rw [← h.1.2, List.length_dropLast]
    have := List.length_pos_iff.mpr h.1.1
    omega
  obtain ⟨j, hj⟩ := List.mem_iff_getElem?.mp hq
  have hji : j < i + 1 := by
    have := (List.getElem?_eq_some_iff.mp hj).1
    rw [List.length_take] at this
    omega
  rw [List.getElem?_take_of_lt hji] at hj
  by_cases z : j = i
  · subst z
    rw [hi] at hj
    injection hj with hj
    rw [hj] at hl
    omega
  · have := ord_before o hj hi (by omega)
    omega
/-- what is left: as many signs as steps off the way -/
def Left (ps : List (List Nat)) (e : List Nat) (g : List Nat → List Nat) : Prop := ∀ q ∈ ps, (g q).length = cnt ps e q ∧ Row (g q)
theorem take_one {ps : List (List Nat)} {i : Nat} {p : List Nat} (h : ps[i]? = some p) : ps.take (i + 1) = ps.take i ++ [p] := by rw [List.take_add_one, h]; rfl
theorem left_in {ps : List (List Nat)} (o : Ord ps) {e : List Nat} {g : List Nat → List Nat} {i : Nat} {p : List Nat} (hi : ps[i]? = some p) (L : Left (ps.take i) e g) (h : p = [] ∨ p.isPrefixOf e = true) : Left (ps.take (i + 1)) e (setF g p []) := by
  intro q hq
  by_cases z : q = p
  · subst z
    rw [setF_same, ord_none o e hi]
    exact ⟨rfl, RowM.nil_row⟩
  · rw [setF_ne z]
    rw [take_one hi] at hq ⊢
    have hq2 : q ∈ ps.take i := (List.mem_append.mp hq).resolve_right fun y => z (List.mem_singleton.mp y)
    have ho : offE e q p = false := by
      unfold offE
      rcases h with h | h
      · rw [h]; simp
      · rw [h]; simp
    rw [cnt_snoc, ho, if_neg (by decide)]
    exact L q hq2
theorem left_on {ps : List (List Nat)} (o : Ord ps) {e : List Nat} {g : List Nat → List Nat} {i : Nat} {m : List Nat} {c : Nat} (hi : ps[i]? = some (m ++ [c])) (L : Left (ps.take i) e g) (h : (m ++ [c]).isPrefixOf e = false) :
    Left (ps.take (i + 1)) e (setF (setF g (m ++ [c]) []) m (setF g (m ++ [c]) [] m ++ [c])) := by
  have nm : m ≠ m ++ [c] := fun z => by
    have := congrArg List.length z
    rw [List.length_append, List.length_singleton] at this
    omega
  have sc : c ∈ sgns := (o.t.t.pr _ (List.mem_of_getElem? hi)).1 c (by simp)
  intro q hq
  have pm : m ∈ ps.take i := by
    have := ord_parent o hi (by simp)
    rwa [List.dropLast_concat] at this
  have ho : offE e q (m ++ [c]) = decide (m = q) := by
    unfold offE
    rw [h, List.dropLast_concat]
    simp
  by_cases z : q = m
  · subst z
    rw [setF_same, setF_ne nm, take_one hi, cnt_snoc, ho, decide_eq_true rfl, if_pos rfl, List.length_append]
    exact ⟨by rw [(L q pm).1]; rfl, row_snoc (L q pm).2 sc⟩
  · rw [setF_ne z]
    by_cases y : q = m ++ [c]
    · rw [y, setF_same, ord_none o e hi]
      exact ⟨rfl, RowM.nil_row⟩
    · rw [setF_ne y]
      rw [take_one hi] at hq ⊢
      have hq2 : q ∈ ps.take i := (List.mem_append.mp hq).resolve_right fun x => y (List.mem_singleton.mp x)
      rw [cnt_snoc, ho, decide_eq_false (fun x => z x.symm), if_neg (by decide)]
      exact L q hq2
theorem left_set {ps : List (List Nat)} {e : List Nat} {g : List Nat → List Nat} {p y : List Nat} (L : Left ps e g) (hp : p ∈ ps) (h : y.Perm (g p)) : Left ps e (setF g p y) := by
  intro q hq
  by_cases z : q = p
  · subst z
    rw [setF_same, h.length_eq]
    exact ⟨(L q hq).1, fun c hc => (L q hq).2 c (h.mem_iff.mp hc)⟩
  · rw [setF_ne z]
    exact L q hq
/-- one sign each, sorted -/
theorem srt_signs (x : List Nat) : ∃ y : List Nat, srt (x.map fun c => [c]) = y.map (fun c => [c]) ∧ y.Perm x := by
  refine ⟨(srt (x.map fun c => [c])).map (fun p => p.headD 0), ?_, ?_⟩
  · rw [List.map_map]
    refine (List.map_id _).symm.trans (List.map_congr_left fun p hp => ?_)
    obtain ⟨c, _, rfl⟩ := List.mem_map.mp (WalkM.srt_mem.mp hp)
    rfl
  · have h := (WalkM.srt_perm (x.map fun c => [c])).map (fun p => p.headD 0)
    rw [List.map_map] at h
    have e : x.map ((fun p : List Nat => p.headD 0) ∘ fun c => [c]) = x := by
      conv => rhs; rw [← List.map_id x]
      rfl
    rwa [e] at h
/-! ### in how many ways -/
def fct : Nat → Nat
  | 0 => 1
  | n + 1 => fct n * (n + 1)
theorem fct_step (a j : Nat) : ((a * fct (j + 1) : Nat) : Int) = ((a * fct j : Nat) : Int) * (0 + (j : Int) + 1) := by
  have e : (0 + (j : Int) + 1) = ((j + 1 : Nat) : Int) := by omega
  rw [e, ← Int.natCast_mul, Nat.mul_assoc]
  rfl
def ways (f : List Nat → Nat) (qs : List (List Nat)) : Nat := qs.foldl (fun a p => a * fct (f p)) 1
theorem ways_snoc (f : List Nat → Nat) (qs : List (List Nat)) (p : List Nat) : ways f (qs ++ [p]) = ways f qs * fct (f p) := by simp [ways, List.foldl_append]
theorem ways_congr {f g : List Nat → Nat} {qs : List (List Nat)} (h : ∀ q ∈ qs, f q = g q) : ways f qs = ways g qs := by
  unfold ways
  generalize 1 = a
  induction qs generalizing a with
  | nil => rfl
  | cons q qs ih =>
    rw [List.foldl_cons, List.foldl_cons, h q List.mem_cons_self]
    exact ih (fun r hr => h r (List.mem_cons_of_mem _ hr)) _
/-- rounds in the heap -/
def rdfs (e : List Nat) (d : Addr) : List (Str × V) := [(Str.ofString "own_end", sT e), (Str.ofString "own_left", .ref d), (Str.ofString "own_here", sT [])]
def RdAt (C : Addr) (H : Hp) (a d : Addr) (ps : List (List Nat)) (e : List Nat) (g : List Nat → List Nat) : Prop := (∃ dx, H a = some (.ins C dx (rdfs e d))) ∧ H d = some (.dK (kvL ps g)) ∧ a ≠ d

/-! ### how many they can be -/
theorem fct_le : ∀ n : Nat, n ≤ 64 → fct n ≤ 64 ^ n
  | 0, _ => Nat.le_refl _
  | n + 1, h => by
    rw [fct, Nat.pow_succ]
    exact Nat.mul_le_mul (fct_le n (by omega)) h
theorem ways_le {f : List Nat → Nat} (h : ∀ q, f q ≤ 64) (qs : List (List Nat)) : ways f qs ≤ 64 ^ (qs.map f).sum := by
  unfold ways
  have g : ∀ (qs : List (List Nat)) (a : Nat), qs.foldl (fun a p => a * fct (f p)) a ≤ a * 64 ^ (qs.map f).sum := by
    intro qs
    induction qs with
    | nil => intro a; simp
    | cons q qs ih =>
      intro a
      rw [List.foldl_cons, List.map_cons, List.sum_cons, Nat.pow_add, ← Nat.mul_assoc]
      exact Nat.le_trans (ih _) (Nat.mul_le_mul (Nat.mul_le_mul (Nat.le_refl _) (fct_le _ (h q))) (Nat.le_refl _))
  have := g qs 1
  rwa [Nat.one_mul] at this
theorem off_zero {e q : List Nat} : ∀ {ps : List (List Nat)}, (∀ p ∈ ps, p ≠ q.dropLast) → (ps.map fun p => if offE e p q = true then 1 else 0).sum = 0
  | [], _ => rfl
  | p :: ps, h => by
    have hp : offE e p q = false := by
      unfold offE
      have := h p List.mem_cons_self
      simp [Ne.symm this]
    rw [List.map_cons, List.sum_cons, hp, off_zero fun r hr => h r (List.mem_cons_of_mem _ hr)]
    rfl
theorem off_one {e q : List Nat} : ∀ {ps : List (List Nat)}, ps.Nodup → (ps.map fun p => if offE e p q = true then 1 else 0).sum ≤ 1
  | [], _ => Nat.zero_le _
  | p :: ps, h => by
    obtain ⟨h1, h2⟩ := List.nodup_cons.mp h
    rw [List.map_cons, List.sum_cons]
    by_cases z : p = q.dropLast
    · rw [off_zero fun r hr e => h1 (by rw [z, ← e]; exact hr)]
      split <;> omega
    · have hp : offE e p q = false := by
        unfold offE
        simp [Ne.symm z]
      rw [hp]
      have := off_one (e := e) (q := q) h2
      simpa using this
theorem sum_add (f g : List Nat → Nat) : ∀ ps : List (List Nat), (ps.map fun p => f p + g p).sum = (ps.map f).sum + (ps.map g).sum
  | [] => rfl
  | p :: ps => by
    rw [List.map_cons, List.map_cons, List.map_cons, List.sum_cons, List.sum_cons, List.sum_cons, sum_add f g ps]
    omega
theorem cnt_sum {ps : List (List Nat)} (nd : ps.Nodup) (e : List Nat) (qs : List (List Nat)) : (ps.map (cnt qs e)).sum ≤ qs.length := by
  have g : ∀ n, (ps.map (cnt (qs.take n) e)).sum ≤ (qs.take n).length := by
    intro n
    induction n with
    | zero =>
      have : ∀ ps : List (List Nat), (ps.map (cnt (qs.take 0) e)).sum = 0 := by
        intro ps
        induction ps with
        | nil => rfl
        | cons p ps ih =>
          rw [List.map_cons, List.sum_cons, ih]
          rfl
      rw [this]
      exact Nat.zero_le _
    | succ n ih =>
      cases hq : qs[n]? with
      | none =>
        have : qs.take (n + 1) = qs.take n := by rw [List.take_add_one, hq]; simp
        rw [this]
        exact ih
      | some q =>
        rw [take_one hq]
        have ec : (cnt (qs.take n ++ [q]) e) = fun p => cnt (qs.take n) e p + if offE e p q = true then 1 else 0 := funext fun p => cnt_snoc _ e p q
        rw [ec, sum_add, List.length_append]
        exact Nat.add_le_add ih (off_one nd)
  have := g qs.length
  rwa [List.take_length] at this
theorem log_small {n k : Nat} (hk : 0 < k) (h : n < 2 ^ k) : n.log2 < k := by
  by_cases z : n = 0
  · subst z; exact hk
  · exact (Nat.log2_lt z).mpr h
theorem ways_log {ps : List (List Nat)} (o : Ord ps) (e : List Nat) : (ways (cnt ps e) ps).log2 < 1900 := by
  have h1 := ways_le (f := cnt ps e) (fun q => Nat.le_trans (cnt_le ps e q) (Nat.le_trans o.t.n1 (by decide))) ps
  have h2 := Nat.le_trans (cnt_sum o.t.t.nd e ps) o.t.n1
  have h3 : (64 : Nat) ^ (ps.map (cnt ps e)).sum ≤ 64 ^ 61 := Nat.pow_le_pow_right (by decide) h2
  have h4 : (64 : Nat) ^ 61 = 2 ^ 366 := by rw [show (64 : Nat) = 2 ^ 6 from rfl, ← Nat.pow_mul]
  have h5 : (2 : Nat) ^ 366 < 2 ^ 367 := Nat.pow_lt_pow_right (by decide) (by decide)
  have := log_small (n := ways (cnt ps e) ps) (k := 367) (by decide) (Nat.lt_of_le_of_lt (Nat.le_trans h1 h3) (h4 ▸ h5))
  omega
theorem small_log {i : Int} (h : i.natAbs < 1024) : i.natAbs.log2 < 1900 := by
  have := log_small (n := i.natAbs) (k := 10) (by decide) h
  omega
theorem two_ints {i j : Int} (hi : i.natAbs.log2 < 1900) (hj : j.natAbs.log2 < 1900) : (PyData.list [.int i, .int j]).showable = true ∧ (PyData.list [.int i, .int j]).hasDict = false ∧ (PyData.list [.int i, .int j]).shown.length ≤ sizeLine ∧ (PyData.list [.int i, .int j]).depth ≤ 60 := by
  refine ⟨?_, by simp [PyData.hasDict, PyData.hasDictAll], ?_, by simp [PyData.depth, PyData.depthAll]⟩
  · have h1 : i.natAbs.log2 < 1920 := by omega
    have h2 : j.natAbs.log2 < 1920 := by omega
    simp [PyData.showable, PyData.showableAll, h1, h2]
  · have l1 : (PyData.int i).shown.length ≤ 2000 := Nat.le_trans (PyProof.Rows.int_text_len_1921 (by omega)) (by decide)
    have l2 : (PyData.int j).shown.length ≤ 2000 := Nat.le_trans (PyProof.Rows.int_text_len_1921 (by omega)) (by decide)
    show (listText [(PyData.int i).shown, (PyData.int j).shown]).length ≤ sizeLine
    refine Nat.le_trans (listText_len_le _) ?_
    simp only [List.map_cons, List.map_nil, List.sum_cons, List.sum_nil, List.length_cons, List.length_nil]
    exact Nat.le_trans (by omega : _ ≤ 5000) (by decide)
/-! ### shortest rows: the way through a tree -/
def lcp : List Nat → List Nat → Nat
  | a :: r, b :: s => if a = b then lcp r s + 1 else 0
  | _, _ => 0
theorem lcp_snoc (h : List Nat) (c : Nat) (e : List Nat) : lcp (h ++ [c]) e = if (h ++ [c]).isPrefixOf e then h.length + 1 else lcp h e := by
  induction h generalizing e with
  | nil =>
    cases e with
    | nil => rfl
    | cons b s =>
      by_cases q : c = b
      · subst q; simp [lcp]
      · simp [lcp, q]
  | cons a r ih =>
    cases e with
    | nil => rfl
    | cons b s =>
      by_cases q : a = b
      · subst q
        simp only [List.cons_append, lcp, if_true, ih, List.isPrefixOf_cons₂, beq_self_eq_true, Bool.true_and]
        split <;> simp
      · simp [lcp, q]
theorem lcp_le (h e : List Nat) : lcp h e ≤ h.length ∧ lcp h e ≤ e.length := by
  induction h generalizing e with
  | nil => simp [lcp]
  | cons a r ih =>
    cases e with
    | nil => simp [lcp]
    | cons b s =>
      by_cases q : a = b
      · have := ih s
        simp [lcp, q]
        omega
      · simp [lcp, q]
theorem lcp_pre (h e : List Nat) : lcp h e = h.length ↔ h.isPrefixOf e = true := by
  induction h generalizing e with
  | nil => simp [lcp]
  | cons a r ih =>
    cases e with
    | nil => simp [lcp]
    | cons b s =>
      by_cases q : a = b
      · simp [lcp, q, ih]
      · simp [lcp, q]
theorem pre_iff {h e : List Nat} : h.isPrefixOf e = true ↔ h <+: e := List.isPrefixOf_iff_prefix
/-- signs in their order -/
def sgS (x : List Nat) : List Nat := (srt (x.map fun c => [c])).map (fun q => q.headD 0)
theorem sgS_perm (x : List Nat) : (sgS x).Perm x := by
  have h := (WalkM.srt_perm (x.map fun c => [c])).map (fun p => p.headD 0)
  rw [List.map_map] at h
  have e : x.map ((fun p : List Nat => p.headD 0) ∘ fun c => [c]) = x := by
    conv => rhs; rw [← List.map_id x]
    rfl
  rwa [e] at h
theorem sgS_map (x : List Nat) : (sgS x).map (fun c => [c]) = srt (x.map fun c => [c]) := by
  unfold sgS
  rw [List.map_map]
  refine (List.map_congr_left fun p hp => ?_).trans (List.map_id _)
  obtain ⟨c, _, rfl⟩ := List.mem_map.mp (WalkM.srt_mem.mp hp)
  rfl
def rawSh (ps : List (List Nat)) (e p : List Nat) : List Nat := (ps.filter (offE e p)).map fun q => q.getLastD 0
/-- the signs off the way to the end, at a place -/
def lft (ps : List (List Nat)) (e p : List Nat) : List Nat := sgS (rawSh ps e p)
theorem off_iff {e p q : List Nat} : offE e p q = true ↔ ∃ c, q = p ++ [c] ∧ ¬ q <+: e := by
  unfold offE
  simp only [Bool.and_eq_true, decide_eq_true_eq, Bool.not_eq_true']
  constructor
  · rintro ⟨⟨h1, h2⟩, h3⟩
    obtain ⟨m, c, rfl⟩ := exists_snoc h1
    rw [List.dropLast_concat] at h2
    subst h2
    exact ⟨c, rfl, fun z => by rw [pre_iff.mpr z] at h3; cases h3⟩
  · rintro ⟨c, rfl, h⟩
    refine ⟨⟨by simp, by simp⟩, ?_⟩
    cases z : (p ++ [c]).isPrefixOf e with
    | false => rfl
    | true => exact absurd (pre_iff.mp z) h
theorem mem_lft {ps : List (List Nat)} {e p : List Nat} {c : Nat} : c ∈ lft ps e p ↔ p ++ [c] ∈ ps ∧ ¬ (p ++ [c]) <+: e := by
  unfold lft
  rw [(sgS_perm _).mem_iff]
  unfold rawSh
  rw [List.mem_map]
  constructor
  · rintro ⟨q, hq, rfl⟩
    obtain ⟨h1, h2⟩ := List.mem_filter.mp hq
    obtain ⟨c, rfl, h3⟩ := off_iff.mp h2
    rw [show (p ++ [c]).getLastD 0 = c by simp]
    exact ⟨h1, h3⟩
  · rintro ⟨h1, h2⟩
    exact ⟨p ++ [c], List.mem_filter.mpr ⟨h1, off_iff.mpr ⟨c, rfl, h2⟩⟩, by simp⟩
theorem lft_nodup {ps : List (List Nat)} (nd : ps.Nodup) (e p : List Nat) : (lft ps e p).Nodup := by
  unfold lft
  rw [(sgS_perm _).nodup_iff]
  unfold rawSh
  refine List.pairwise_map.mpr ((List.Pairwise.filter (offE e p) nd).imp_of_mem fun {a b} ha hb hne heq => hne ?_)
  obtain ⟨c, rfl, _⟩ := off_iff.mp (List.mem_filter.mp ha).2
  obtain ⟨d, rfl, _⟩ := off_iff.mp (List.mem_filter.mp hb).2
  have : c = d := by simpa using heq
  rw [this]
theorem lft_len (ps : List (List Nat)) (e p : List Nat) : (lft ps e p).length = cnt ps e p := by
  unfold lft
  rw [(sgS_perm _).length_eq]
  unfold rawSh cnt
  rw [List.length_map]
/-- where one stands, what is left, and the numbers -/
structure Sh where
  h : List Nat
  g : List Nat → List Nat
  many : Nat
  left : Nat
  f : List Nat
def homeS (e h : List Nat) : List Nat := if h = e then [] else if h.isPrefixOf e then [e.getD h.length 0] else [con (h.getLastD 0)]
def chS (e : List Nat) (s : Sh) : List Nat := if s.g s.h = [] then homeS e s.h else s.g s.h
def atS (e : List Nat) (s : Sh) : Nat := s.left / (s.many / (chS e s).length)
def cS (e : List Nat) (s : Sh) : Nat := (chS e s).getD (atS e s) 0
def stepS (e : List Nat) (s : Sh) : Sh := ⟨WalkM.on s.h (cS e s), setF s.g s.h ((s.g s.h).filter fun c => decide (c ≠ cS e s)), s.many / (chS e s).length, s.left % (s.many / (chS e s).length), s.f ++ [cS e s]⟩
def runS (e : List Nat) : Nat → Sh → Sh
  | 0, s => s
  | n + 1, s => stepS e (runS e n s)
def initS (ps : List (List Nat)) (e : List Nat) (n : Nat) : Sh := ⟨[], lft ps e, ways (fun p => (lft ps e p).length) ps, n, []⟩
def lenS (ps : List (List Nat)) (e : List Nat) : Nat := 2 * (ps.length - 1) - e.length
/-- the shortest row of a number -/
def shortR (ps : List (List Nat)) (e : List Nat) (n : Nat) : List Nat := (runS e (lenS ps e) (initS ps e n)).f
/-- how many places off the way to the end have not been seen -/
def unseen (ps : List (List Nat)) (e : List Nat) (vs : List (List Nat)) : Nat := (ps.filter fun q => decide (q ∉ vs) && !q.isPrefixOf e).length
structure InvS (ps : List (List Nat)) (e : List Nat) (s : Sh) (i : Nat) : Prop where
  rf : Row s.f
  hp : RowM.plain s.f = s.h
  vs : ∀ p ∈ gone s.f, p ∈ ps
  gl : ∀ p ∈ ps, s.g p = (lft ps e p).filter fun c => decide (p ++ [c] ∉ gone s.f)
  pi : ∀ p ∈ gone s.f, (¬ p <+: s.h ∨ ∃ c, (p ++ [c]) <+: e ∧ (p ++ [c]) <+: s.h) → s.g p = []
  ln : s.f.length = i
  phi : i + 2 * unseen ps e (gone s.f) + (s.h.length + e.length - 2 * lcp s.h e) = lenS ps e
  mn : s.many = ways (fun p => (s.g p).length) ps
  lt : s.left < s.many
theorem fct_pos : ∀ n, 0 < fct n
  | 0 => by decide
  | n + 1 => Nat.mul_pos (fct_pos n) (Nat.succ_pos n)
theorem ways_from (f : List Nat → Nat) (qs : List (List Nat)) (a : Nat) : qs.foldl (fun a p => a * fct (f p)) a = a * ways f qs := by
  unfold ways
  induction qs generalizing a with
  | nil => simp
  | cons q qs ih =>
    rw [List.foldl_cons, List.foldl_cons, ih, ih (1 * fct (f q)), Nat.one_mul, Nat.mul_assoc]
theorem ways_cons (f : List Nat → Nat) (q : List Nat) (qs : List (List Nat)) : ways f (q :: qs) = fct (f q) * ways f qs := by
  show (qs.foldl (fun a p => a * fct (f p)) (1 * fct (f q))) = _
  rw [ways_from, Nat.one_mul]
theorem ways_pos (f : List Nat → Nat) : ∀ qs : List (List Nat), 0 < ways f qs
  | [] => Nat.one_pos
  | q :: qs => by rw [ways_cons]; exact Nat.mul_pos (fct_pos _) (ways_pos f qs)
/-- one fewer at one place -/
theorem ways_dec {f g : List Nat → Nat} {p : List Nat} : ∀ {qs : List (List Nat)}, qs.Nodup → p ∈ qs → f p = g p + 1 → (∀ q ∈ qs, q ≠ p → f q = g q) → ways f qs = ways g qs * f p
  | q :: qs, nd, hp, h1, h2 => by
    obtain ⟨n1, n2⟩ := List.nodup_cons.mp nd
    rw [ways_cons, ways_cons]
    by_cases z : q = p
    · subst z
      have : ways f qs = ways g qs := ways_congr fun r hr => h2 r (List.mem_cons_of_mem _ hr) fun e => n1 (e ▸ hr)
      rw [this, h1, fct]
      simp only [Nat.mul_assoc, Nat.mul_comm, Nat.mul_left_comm]
    · rw [ways_dec n2 ((List.mem_cons.mp hp).resolve_left fun e => z e.symm) h1 fun r hr hn => h2 r (List.mem_cons_of_mem _ hr) hn, h2 q List.mem_cons_self z, Nat.mul_assoc]
theorem prefix_split {p h : List Nat} (hp : p <+: h) (ne : p ≠ h) : ∃ c r, h = p ++ c :: r := by
  obtain ⟨r, rfl⟩ := hp
  cases r with
  | nil => simp at ne
  | cons c r => exact ⟨c, r, rfl⟩
theorem prefix_snoc {p h : List Nat} {c : Nat} : p <+: h ++ [c] ↔ p <+: h ∨ p = h ++ [c] := by
  rw [List.prefix_concat_iff]
  exact Or.comm
theorem tree_pre {ts : List (List Nat)} (cl : ∀ p ∈ ts, p ≠ [] → p.dropLast ∈ ts) {p q : List Nat} (hq : q ∈ ts) (h : p <+: q) : p ∈ ts := by
  obtain ⟨r, rfl⟩ := h
  revert hq
  refine WalkM.snoc_ind (P := fun r => p ++ r ∈ ts → p ∈ ts) (fun h => by simpa using h) (fun l c ih h => ih ?_) r
  have := cl _ h (by simp)
  rwa [← List.append_assoc, List.dropLast_concat] at this
theorem unseen_same {ps : List (List Nat)} {e : List Nat} {vs vs' : List (List Nat)} (h : ∀ q ∈ ps, ¬ q <+: e → (q ∈ vs ↔ q ∈ vs')) : unseen ps e vs = unseen ps e vs' := by
  unfold unseen
  congr 1
  refine List.filter_congr fun q hq => ?_
  by_cases z : q <+: e
  · rw [pre_iff.mpr z]; simp
  · rw [decide_eq_decide.mpr (not_congr (h q hq z))]
theorem filter_one {α : Type} [DecidableEq α] {P Q : α → Bool} {x : α} : ∀ {ps : List α}, ps.Nodup → x ∈ ps → P x = true → Q x = false → (∀ q ∈ ps, q ≠ x → P q = Q q) → (ps.filter P).length = (ps.filter Q).length + 1
  | q :: qs, nd, hx, h1, h2, h3 => by
    obtain ⟨n1, n2⟩ := List.nodup_cons.mp nd
    by_cases z : q = x
    · subst z
      rw [List.filter_cons, List.filter_cons, if_pos h1, h2, if_neg (by decide), List.length_cons]
      congr 2
      exact List.filter_congr fun r hr => h3 r (List.mem_cons_of_mem _ hr) fun e => n1 (e ▸ hr)
    · have ih := filter_one n2 ((List.mem_cons.mp hx).resolve_left fun e => z e.symm) h1 h2 fun r hr hn => h3 r (List.mem_cons_of_mem _ hr) hn
      rw [List.filter_cons, List.filter_cons, h3 q List.mem_cons_self z]
      split
      · rw [List.length_cons, List.length_cons, ih]
      · exact ih
theorem unseen_one {ps : List (List Nat)} {e x : List Nat} {vs vs' : List (List Nat)} (nd : ps.Nodup) (hx : x ∈ ps) (h1 : x ∉ vs) (h2 : ¬ x <+: e) (h3 : ∀ q, q ∈ vs' ↔ q ∈ vs ∨ q = x) : unseen ps e vs = unseen ps e vs' + 1 := by
  unfold unseen
  refine filter_one nd hx ?_ ?_ fun q hq hn => ?_
  · rw [decide_eq_true h1]
    cases z : x.isPrefixOf e with
    | false => rfl
    | true => exact absurd (pre_iff.mp z) h2
  · rw [decide_eq_false (not_not_intro ((h3 x).mpr (.inr rfl)))]
    rfl
  · have : q ∉ vs ↔ q ∉ vs' := not_congr ⟨fun h => (h3 q).mpr (.inl h), fun h => ((h3 q).mp h).resolve_right hn⟩
    rw [decide_eq_decide.mpr this]
/-- a tree with its end -/
structure TrE (ps : List (List Nat)) (e : List Nat) : Prop where
  t : Tree ps
  n : [] ∈ ps
  e : e ∈ ps
section
variable {ps : List (List Nat)} {e : List Nat} {s : Sh} {i : Nat}
theorem InvS.here (I : InvS ps e s i) : s.h ∈ gone s.f := I.hp ▸ WalkM.end_gone s.f
theorem InvS.pr (I : InvS ps e s i) : WalkM.PRow s.h := I.hp ▸ WalkM.prow_plain I.rf
theorem InvS.goes (I : InvS ps e s i) (c : Nat) : gone (s.f ++ [c]) = addK (gone s.f) (WalkM.on s.h c) := by rw [WalkM.gone_snoc, I.hp]
theorem InvS.gcl (I : InvS ps e s i) : ∀ p ∈ gone s.f, p ≠ [] → p.dropLast ∈ gone s.f := (WalkM.tree_gone I.rf).cl
theorem InvS.all (I : InvS ps e s i) (T : TrE ps e) (h1 : s.h = e) (h2 : s.g s.h = []) : ∀ p ∈ ps, p ∈ gone s.f := by
  intro p
  refine WalkM.snoc_ind (P := fun p => p ∈ ps → p ∈ gone s.f) (fun _ => WalkM.nil_gone _) (fun p c ih hp => ?_) p
  have hp0 : p ∈ ps := by
    have := T.t.cl _ hp (by simp)
    rwa [List.dropLast_concat] at this
  have ih := ih hp0
  refine Classical.byContradiction fun hn => ?_
  have npe : ¬ (p ++ [c]) <+: e := fun z => hn (tree_pre I.gcl (h1 ▸ I.here) z)
  have hc : c ∈ s.g p := by
    rw [I.gl p hp0]
    exact List.mem_filter.mpr ⟨mem_lft.mpr ⟨hp, npe⟩, decide_eq_true hn⟩
  have no : s.g p = [] → False := fun z => by rw [z] at hc; cases hc
  by_cases q : p <+: s.h
  · by_cases q2 : p = s.h
    · exact no (q2 ▸ h2)
    · obtain ⟨d, r, hd⟩ := prefix_split q q2
      have : (p ++ [d]) <+: s.h := ⟨r, by rw [hd]; simp⟩
      exact no (I.pi p ih (.inr ⟨d, h1 ▸ this, this⟩))
  · exact no (I.pi p ih (.inl q))
theorem unseen_zero {vs : List (List Nat)} (h : ∀ p ∈ ps, p ∈ vs) : unseen ps e vs = 0 := by
  unfold unseen
  rw [List.length_eq_zero_iff, List.filter_eq_nil_iff]
  intro q hq
  rw [decide_eq_false (not_not_intro (h q hq))]
  simp
theorem InvS.open (I : InvS ps e s i) (T : TrE ps e) (hi : i < lenS ps e) : s.g s.h = [] → s.h ≠ e := fun h2 h1 => by
  have h3 := I.phi
  have z := unseen_zero (e := e) (I.all T h1 h2)
  have z2 := (lcp_pre s.h e).mpr (pre_iff.mpr (h1 ▸ List.prefix_refl _))
  have z3 : s.h.length = e.length := by rw [h1]
  rw [z] at h3
  omega
/-- down a step off the way -/
theorem InvS.down (I : InvS ps e s i) (T : TrE ps e) (ne : s.g s.h ≠ []) : atS e s < (chS e s).length ∧ InvS ps e (stepS e s) (i + 1) := by
  have hh := I.vs _ I.here
  have ec : chS e s = s.g s.h := by unfold chS; rw [if_neg ne]
  have gl := I.gl _ hh
  have ndg : (s.g s.h).Nodup := by rw [gl]; exact List.Pairwise.filter _ (lft_nodup T.t.nd e s.h)
  have L1 : 1 ≤ (s.g s.h).length := List.length_pos_iff.mpr ne
  have dec : ways (fun p => (s.g p).length) ps = ways (fun p => if p = s.h then (s.g s.h).length - 1 else (s.g p).length) ps * (s.g s.h).length :=
    ways_dec (f := fun p => (s.g p).length) T.t.nd hh (by show _ = (if s.h = s.h then _ else _) + 1; rw [if_pos rfl]; omega) fun q _ hn => by show _ = if q = s.h then _ else _; rw [if_neg hn]
  have em : s.many / (chS e s).length = ways (fun p => if p = s.h then (s.g s.h).length - 1 else (s.g p).length) ps := by
    rw [ec, I.mn, dec, Nat.mul_div_cancel _ L1]
  have mp := ways_pos (fun p => if p = s.h then (s.g s.h).length - 1 else (s.g p).length) ps
  have at1 : atS e s < (chS e s).length := by
    unfold atS
    rw [em, ec]
    refine (Nat.div_lt_iff_lt_mul mp).mpr ?_
    rw [Nat.mul_comm, ← dec, ← I.mn]
    exact I.lt
  refine ⟨at1, ?_⟩
  have hc : cS e s ∈ s.g s.h := by
    unfold cS
    rw [ec] at at1 ⊢
    rw [List.getD_eq_getElem?_getD, List.getElem?_eq_getElem at1]
    exact List.getElem_mem _
  generalize hcc : cS e s = c at hc
  have hc2 := hc
  rw [gl] at hc2
  obtain ⟨h1, h2⟩ := List.mem_filter.mp hc2
  obtain ⟨h3, h4⟩ := mem_lft.mp h1
  have h2 := of_decide_eq_true h2
  have on1 : WalkM.on s.h c = s.h ++ [c] := by rw [← WalkM.on_plain c I.pr, WalkM.plain_prow (T.t.pr _ h3)]
  have sc : c ∈ sgns := (T.t.pr _ h3).1 c (by simp)
  have eg : gone (s.f ++ [c]) = gone s.f ++ [s.h ++ [c]] := by rw [I.goes, on1]; unfold addK; rw [if_neg h2]
  have es : stepS e s = ⟨s.h ++ [c], setF s.g s.h ((s.g s.h).filter fun d => decide (d ≠ c)), s.many / (chS e s).length, s.left % (s.many / (chS e s).length), s.f ++ [c]⟩ := by unfold stepS; rw [hcc, on1]
  rw [es, em]
  have lf : ((s.g s.h).filter fun d => decide (d ≠ c)).length = (s.g s.h).length - 1 := by
    have := filter_one (P := fun _ => true) (Q := fun d => decide (d ≠ c)) ndg hc rfl (decide_eq_false (not_not_intro rfl)) fun q _ hn => (decide_eq_true hn).symm
    rw [List.filter_eq_self.mpr fun _ _ => rfl] at this
    omega
  have mem' : ∀ q, q ∈ gone (s.f ++ [c]) ↔ q ∈ gone s.f ∨ q = s.h ++ [c] := fun q => by rw [eg, List.mem_append, List.mem_singleton]
  refine ⟨row_snoc I.rf sc, by rw [WalkM.plain_snoc, I.hp, on1], fun p hp => ?_, fun p hp => ?_, fun p hp hq => ?_, by rw [List.length_append, I.ln]; rfl, ?_, ?_, Nat.mod_lt _ mp⟩
  · rcases (mem' p).mp hp with h | rfl
    · exact I.vs p h
    · exact h3
  · show setF s.g s.h _ p = (lft ps e p).filter fun d => decide (p ++ [d] ∉ gone (s.f ++ [c]))
    by_cases z : p = s.h
    · subst z
      rw [setF_same, gl, List.filter_filter]
      refine List.filter_congr fun d _ => ?_
      have : (s.h ++ [d] ∉ gone (s.f ++ [c])) ↔ (d ≠ c ∧ s.h ++ [d] ∉ gone s.f) := by
        rw [mem']
        constructor
        · intro h
          exact ⟨fun e => h (.inr (by rw [e])), fun e => h (.inl e)⟩
        · rintro ⟨a, b⟩ (h | h)
          · exact b h
          · exact a (by simpa using h)
      rw [decide_eq_decide.mpr this, Bool.decide_and]
    · rw [setF_ne z, I.gl p hp]
      refine List.filter_congr fun d _ => decide_eq_decide.mpr (not_congr ?_)
      rw [mem']
      constructor
      · exact .inl
      · rintro (h | h)
        · exact h
        · exact absurd (List.append_inj' h rfl).1 z
  · show setF s.g s.h _ p = []
    have hp' : p ∈ gone s.f ∨ p = s.h ++ [c] := (mem' p).mp hp
    have hq' : ¬ p <+: s.h ++ [c] ∨ ∃ d, (p ++ [d]) <+: e ∧ (p ++ [d]) <+: s.h ++ [c] := hq
    rcases hp' with h | rfl
    · have z : p ≠ s.h := fun z => by
        rcases hq' with q | ⟨d, q1, q2⟩
        · exact q (z ▸ List.prefix_append _ _)
        · rw [z] at q1 q2
          exact h4 (q2.eq_of_length (by simp) ▸ q1)
      rw [setF_ne z]
      refine I.pi p h ?_
      rcases hq' with q | ⟨d, q1, q2⟩
      · exact .inl fun y => q (y.trans (List.prefix_append _ _))
      · refine .inr ⟨d, q1, ?_⟩
        rcases prefix_snoc.mp q2 with y | y
        · exact y
        · exact absurd (y ▸ q1) h4
    · exfalso
      rcases hq' with q | ⟨d, q1, q2⟩
      · exact q (List.prefix_refl _)
      · have := q2.length_le
        rw [List.length_append (as := s.h ++ [c])] at this
        simp at this
        omega
  · show i + 1 + 2 * unseen ps e (gone (s.f ++ [c])) + ((s.h ++ [c]).length + e.length - 2 * lcp (s.h ++ [c]) e) = lenS ps e
    have h5 := I.phi
    have h6 := unseen_one T.t.nd h3 h2 h4 mem'
    have h7 : (s.h ++ [c]).isPrefixOf e = false := by
      cases z : (s.h ++ [c]).isPrefixOf e with
      | false => rfl
      | true => exact absurd (pre_iff.mp z) h4
    rw [lcp_snoc, h7, List.length_append, List.length_singleton]
    have h8 := lcp_le s.h e
    simp only [Bool.false_eq_true, if_false]
    omega
  · show ways _ ps = ways (fun p => (setF s.g s.h _ p).length) ps
    refine ways_congr fun q _ => ?_
    by_cases z : q = s.h
    · rw [if_pos z, z, setF_same, lf]
    · rw [if_neg z, setF_ne z]
/-- home, or on the way to the end -/
theorem InvS.step0 (I : InvS ps e s i) (T : TrE ps e) (hg : s.g s.h = []) (c : Nat) (ec : chS e s = [c]) (sc : c ∈ sgns) (h' : List Nat) (on1 : WalkM.on s.h c = h') (hm : h' ∈ ps)
    (h3 : ∀ p d, p ++ [d] = h' → ¬ (p ++ [d]) <+: e → p ++ [d] ∈ gone s.f) (h4 : ∀ p ∈ gone s.f, (¬ p <+: h' ∨ ∃ d, (p ++ [d]) <+: e ∧ (p ++ [d]) <+: h') → s.g p = [])
    (h5 : h' ∉ gone s.f → (¬ h' <+: h' ∨ ∃ d, (h' ++ [d]) <+: e ∧ (h' ++ [d]) <+: h') → False) (h6 : h'.length + e.length - 2 * lcp h' e + 1 = s.h.length + e.length - 2 * lcp s.h e) : atS e s < (chS e s).length ∧ InvS ps e (stepS e s) (i + 1) := by
  have e1 : s.many / (chS e s).length = s.many := by rw [ec]; exact Nat.div_one _
  have e2 : atS e s = 0 := by unfold atS; rw [e1]; exact Nat.div_eq_of_lt I.lt
  have e3 : cS e s = c := by unfold cS; rw [e2, ec]; rfl
  have at1 : atS e s < (chS e s).length := by rw [e2, ec]; exact Nat.one_pos
  refine ⟨at1, ?_⟩
  have es : stepS e s = ⟨h', setF s.g s.h [], s.many, s.left, s.f ++ [c]⟩ := by
    unfold stepS
    rw [e1, e3, on1, hg, Nat.mod_eq_of_lt I.lt]
    rfl
  have eg : ∀ q, setF s.g s.h [] q = s.g q := fun q => by
    by_cases z : q = s.h
    · rw [z, setF_same, hg]
    · rw [setF_ne z]
  have mem' : ∀ q, q ∈ gone (s.f ++ [c]) ↔ q ∈ gone s.f ∨ q = h' := fun q => by rw [I.goes, on1]; exact WalkM.mem_addK
  rw [es]
  have h7 := I.phi
  refine ⟨row_snoc I.rf sc, by rw [WalkM.plain_snoc, I.hp, on1], fun p hp => ?_, fun p hp => ?_, fun p hp hq => ?_, by rw [List.length_append, I.ln]; rfl, ?_, ?_, I.lt⟩
  · rcases (mem' p).mp hp with h | rfl
    · exact I.vs p h
    · exact hm
  · show setF s.g s.h [] p = _
    rw [eg, I.gl p hp]
    refine List.filter_congr fun d hd => decide_eq_decide.mpr (not_congr ?_)
    rw [mem']
    constructor
    · exact .inl
    · rintro (h | h)
      · exact h
      · exact h3 p d h (mem_lft.mp hd).2
  · show setF s.g s.h [] p = []
    rw [eg]
    by_cases z : p ∈ gone s.f
    · exact h4 p z hq
    · have z2 := ((mem' p).mp hp).resolve_left z
      subst z2
      exact (h5 z hq).elim
  · show i + 1 + 2 * unseen ps e (gone (s.f ++ [c])) + (h'.length + e.length - 2 * lcp h' e) = lenS ps e
    have : unseen ps e (gone (s.f ++ [c])) = unseen ps e (gone s.f) := unseen_same fun q hq hn => by
      rw [mem']
      constructor
      · rintro (h | h)
        · exact h
        · by_cases q0 : q = []
          · rw [q0]; exact WalkM.nil_gone _
          · obtain ⟨m, d, rfl⟩ := exists_snoc q0
            exact h3 m d h hn
      · exact .inl
    rw [this]
    omega
  · show s.many = ways (fun p => (setF s.g s.h [] p).length) ps
    rw [I.mn]
    exact ways_congr fun q _ => by rw [eg]
theorem InvS.home (I : InvS ps e s i) (T : TrE ps e) (hi : i < lenS ps e) (hg : s.g s.h = []) : ∃ c, chS e s = [c] ∧ atS e s < (chS e s).length ∧ InvS ps e (stepS e s) (i + 1) := by
  have hne := I.open T hi hg
  have hh := I.vs _ I.here
  by_cases hp : s.h <+: e
  · obtain ⟨c, r, he⟩ := prefix_split hp hne
    have h1 : (s.h ++ [c]) <+: e := ⟨r, by rw [he]; simp⟩
    have h2 : s.h ++ [c] ∈ ps := tree_pre T.t.cl T.e h1
    have ec : chS e s = [c] := by
      unfold chS homeS
      rw [if_pos hg, if_neg hne, if_pos (pre_iff.mpr hp), he]
      simp
    have on1 : WalkM.on s.h c = s.h ++ [c] := by rw [← WalkM.on_plain c I.pr, WalkM.plain_prow (T.t.pr _ h2)]
    refine ⟨c, ec, I.step0 T hg c ec ((T.t.pr _ h2).1 c (by simp)) (s.h ++ [c]) on1 h2 (fun p d hq hn => absurd (hq ▸ h1) hn) (fun p hpg hq => ?_) (fun _ hq => ?_) ?_⟩
    · rcases hq with q | ⟨d, q1, q2⟩
      · exact I.pi p hpg (.inl fun y => q (y.trans (List.prefix_append _ _)))
      · rcases prefix_snoc.mp q2 with y | y
        · exact I.pi p hpg (.inr ⟨d, q1, y⟩)
        · have := (List.append_inj' y rfl).1
          rw [this]
          exact hg
    · rcases hq with q | ⟨d, q1, q2⟩
      · exact q (List.prefix_refl _)
      · exact absurd q2.length_le (by simp)
    · have h5 : lcp s.h e = s.h.length := (lcp_pre _ _).mpr (pre_iff.mpr hp)
      have h6 := h1.length_le
      rw [lcp_snoc, if_pos (pre_iff.mpr h1), h5]
      simp only [List.length_append, List.length_singleton] at h6 ⊢
      omega
  · have h0 : s.h ≠ [] := fun z => hp (z ▸ List.nil_prefix)
    obtain ⟨m, c, hm⟩ := exists_snoc h0
    have sc : c ∈ sgns := (T.t.pr _ hh).1 c (by rw [hm]; simp)
    have ec : chS e s = [con c] := by
      unfold chS homeS
      have : ¬ s.h.isPrefixOf e = true := fun z => hp (pre_iff.mp z)
      rw [if_pos hg, if_neg hne, if_neg this, hm]
      simp
    have on1 : WalkM.on s.h (con c) = m := by
      rw [hm]
      unfold WalkM.on
      rw [if_pos (by rw [RowM.con_con sc]; simp)]
      simp
    have mg : m ∈ gone s.f := by
      have := I.gcl _ I.here h0
      rwa [hm, List.dropLast_concat] at this
    refine ⟨con c, ec, I.step0 T hg (con c) ec (RowM.con_mem sc) m on1 (I.vs _ mg) (fun p d hq _ => hq ▸ mg) (fun p hpg hq => ?_) (fun z => absurd mg z) ?_⟩
    · rcases hq with q | ⟨d, q1, q2⟩
      · by_cases y : p <+: s.h
        · rw [hm] at y
          rcases prefix_snoc.mp y with y | y
          · exact absurd y q
          · rw [y, ← hm]; exact hg
        · exact I.pi p hpg (.inl y)
      · exact I.pi p hpg (.inr ⟨d, q1, by rw [hm]; exact q2.trans (List.prefix_append _ _)⟩)
    · have h7 : (m ++ [c]).isPrefixOf e = false := by
        cases z : (m ++ [c]).isPrefixOf e with
        | false => rfl
        | true => exact absurd (hm ▸ pre_iff.mp z) hp
      have h8 := lcp_le m e
      rw [hm, lcp_snoc, h7, List.length_append, List.length_singleton]
      simp only [Bool.false_eq_true, if_false]
      omega
theorem InvS.next (I : InvS ps e s i) (T : TrE ps e) (hi : i < lenS ps e) : chS e s ≠ [] ∧ atS e s < (chS e s).length ∧ InvS ps e (stepS e s) (i + 1) := by
  by_cases hg : s.g s.h = []
  · obtain ⟨c, ec, h1, h2⟩ := I.home T hi hg
    exact ⟨by rw [ec]; simp, h1, h2⟩
  · obtain ⟨h1, h2⟩ := I.down T hg
    exact ⟨by unfold chS; rw [if_neg hg]; exact hg, h1, h2⟩
theorem filter_two {α : Type} (P : α → Bool) : ∀ ps : List α, (ps.filter P).length + (ps.filter fun q => !P q).length = ps.length
  | [] => rfl
  | q :: qs => by
    have := filter_two P qs
    rw [List.filter_cons, List.filter_cons, List.length_cons]
    cases P q <;> simp <;> omega
theorem pre_count (T : TrE ps e) : (ps.filter fun q => q.isPrefixOf e).length = e.length + 1 := by
  have h : (ps.filter fun q => q.isPrefixOf e).Perm ((List.range (e.length + 1)).map fun j => e.take j) := by
    refine (List.perm_ext_iff_of_nodup (List.Pairwise.filter _ T.t.nd) ?_).mpr fun q => ?_
    · refine List.pairwise_map.mpr (List.Pairwise.imp_of_mem (fun {a b} ha hb hne heq => hne ?_) List.nodup_range)
      have := congrArg List.length heq
      rw [List.length_take, List.length_take] at this
      have ha := List.mem_range.mp ha
      have hb := List.mem_range.mp hb
      omega
    · rw [List.mem_filter, List.mem_map]
      constructor
      · rintro ⟨h1, h2⟩
        have h2 := pre_iff.mp h2
        exact ⟨q.length, List.mem_range.mpr (by have := h2.length_le; omega), (List.prefix_iff_eq_take.mp h2).symm⟩
      · rintro ⟨j, hj, rfl⟩
        have : e.take j <+: e := List.take_prefix _ _
        exact ⟨tree_pre T.t.cl T.e this, pre_iff.mpr this⟩
  rw [h.length_eq, List.length_map, List.length_range]
theorem InvS.start (T : TrE ps e) {n : Nat} (hn : n < ways (fun p => (lft ps e p).length) ps) : InvS ps e (initS ps e n) 0 := by
  have un : unseen ps e [[]] + (e.length + 1) = ps.length := by
    rw [← pre_count T, ← filter_two (fun q => q.isPrefixOf e) ps, Nat.add_comm]
    congr 1
    unfold unseen
    congr 1
    refine List.filter_congr fun q _ => ?_
    by_cases z : q = []
    · subst z; simp
    · rw [decide_eq_true (by simpa using z)]; simp
  refine ⟨RowM.nil_row, rfl, fun p hp => ?_, fun p _ => ?_, fun p hp hq => ?_, rfl, ?_, rfl, hn⟩
  · rw [List.mem_singleton.mp hp]; exact T.n
  · show lft ps e p = _
    refine (List.filter_eq_self.mpr fun c _ => ?_).symm
    show decide (p ++ [c] ∉ [[]]) = true
    simp
  · rw [List.mem_singleton.mp hp] at hq
    rcases hq with q | ⟨d, _, q⟩
    · exact absurd List.nil_prefix q
    · have := q.length_le
      change 1 ≤ 0 at this
      omega
  · show 0 + 2 * unseen ps e [[]] + ((0 : Nat) + e.length - 2 * lcp [] e) = 2 * (ps.length - 1) - e.length
    have : lcp [] e = 0 := by unfold lcp; rfl
    rw [this]
    omega
theorem InvS.run (T : TrE ps e) {n : Nat} (hn : n < ways (fun p => (lft ps e p).length) ps) : ∀ i, i ≤ lenS ps e → InvS ps e (runS e i (initS ps e n)) i
  | 0, _ => InvS.start T hn
  | i + 1, h => ((InvS.run T hn i (by omega)).next T (by omega)).2.2
theorem InvS.fin (I : InvS ps e s (lenS ps e)) (T : TrE ps e) : s.h = e ∧ ∀ p, p ∈ gone s.f ↔ p ∈ ps := by
  have h1 := I.phi
  have h2 := lcp_le s.h e
  have h3 : unseen ps e (gone s.f) = 0 := by omega
  have h4 : lcp s.h e = s.h.length := by omega
  have h5 : s.h.length = e.length := by omega
  have h6 : s.h = e := (pre_iff.mp ((lcp_pre _ _).mp h4)).eq_of_length h5
  refine ⟨h6, fun p => ⟨I.vs p, fun hp => Classical.byContradiction fun hn => ?_⟩⟩
  by_cases z : p <+: e
  · exact hn (tree_pre I.gcl (h6 ▸ I.here) z)
  · unfold unseen at h3
    rw [List.length_eq_zero_iff, List.filter_eq_nil_iff] at h3
    refine h3 p hp ?_
    rw [decide_eq_true hn]
    cases y : p.isPrefixOf e with
    | false => rfl
    | true => exact absurd (pre_iff.mp y) z
/-- what a shortest row is -/
theorem shortR_ok (T : TrE ps e) {n : Nat} (hn : n < ways (fun p => (lft ps e p).length) ps) : Row (shortR ps e n) ∧ (shortR ps e n).length = lenS ps e ∧ RowM.plain (shortR ps e n) = e ∧ ∀ p, p ∈ gone (shortR ps e n) ↔ p ∈ ps := by
  have I := InvS.run T hn _ (Nat.le_refl _)
  obtain ⟨h1, h2⟩ := I.fin T
  exact ⟨I.rf, I.ln, I.hp.trans h1, h2⟩
end
/-- no row that walks it has fewer signs -/
theorem len_lower {t : List Nat} (ht : Row t) : 2 * ((gone t).length - 1) ≤ t.length + (RowM.plain t).length := by
  revert ht
  refine WalkM.snoc_ind (P := fun t => Row t → 2 * ((gone t).length - 1) ≤ t.length + (RowM.plain t).length) (fun _ => by decide) (fun l c ih h => ?_) t
  have hl : Row l := fun d hd => h d (List.mem_append_left _ hd)
  have ih := ih hl
  have p1 := WalkM.gone_pos l
  rw [WalkM.gone_snoc, WalkM.plain_snoc, List.length_append, List.length_singleton]
  by_cases z : WalkM.on (RowM.plain l) c ∈ gone l
  · unfold addK
    rw [if_pos z]
    have : (RowM.plain l).length ≤ (WalkM.on (RowM.plain l) c).length + 1 := by
      unfold WalkM.on
      split
      · rw [List.length_dropLast]; omega
      · rw [List.length_append, List.length_singleton]; omega
    omega
  · have on1 : WalkM.on (RowM.plain l) c = RowM.plain l ++ [c] := Classical.byContradiction fun ne => z (WalkM.on_mem (WalkM.tree_gone hl) (WalkM.end_gone l) ne)
    unfold addK
    rw [if_neg z, on1, List.length_append, List.length_append, List.length_singleton, List.length_singleton]
    omega
theorem gone_deep (t : List Nat) : ∀ p ∈ gone t, p.length + 1 ≤ (gone t).length := by
  refine WalkM.snoc_ind (P := fun t => ∀ p ∈ gone t, p.length + 1 ≤ (gone t).length) (fun p hp => by rw [List.mem_singleton.mp hp]; decide) (fun l c ih p hp => ?_) t
  rw [WalkM.gone_snoc] at hp ⊢
  unfold addK at hp ⊢
  by_cases z : WalkM.on (RowM.plain l) c ∈ gone l
  · rw [if_pos z] at hp ⊢
    exact ih p hp
  · rw [if_neg z] at hp ⊢
    rw [List.length_append, List.length_singleton]
    rcases List.mem_append.mp hp with h | h
    · have := ih p h; omega
    · rw [List.mem_singleton.mp h]
      have h1 := WalkM.on_length (RowM.plain l) c
      have h2 := ih _ (WalkM.end_gone l)
      omega
/-! ### rounds in the heap -/
def rdh (e : List Nat) (d : Addr) (h : List Nat) : List (Str × V) := [(Str.ofString "own_end", sT e), (Str.ofString "own_left", .ref d), (Str.ofString "own_here", sT h)]
structure RdH (C : Addr) (H : Hp) (a d : Addr) (ps : List (List Nat)) (e h : List Nat) (g : List Nat → List Nat) : Prop where
  ob : ∃ dx, H a = some (.ins C dx (rdh e d h))
  dt : H d = some (.dK (kvL ps g))
  ne : a ≠ d
theorem RdH.same {C : Addr} {H H' : Hp} {a d : Addr} {ps : List (List Nat)} {e h : List Nat} {g : List Nat → List Nat} (r : RdH C H a d ps e h g) (s : Same H H') : RdH C H' a d ps e h g := ⟨let ⟨dx, q⟩ := r.ob; ⟨dx, s _ _ q⟩, s _ _ r.dt, r.ne⟩
theorem kvL_congr {ps : List (List Nat)} {g g' : List Nat → List Nat} (h : ∀ p ∈ ps, g p = g' p) : kvL ps g = kvL ps g' := List.map_congr_left fun p hp => by rw [h p hp]
theorem kvL_len (ps : List (List Nat)) (g : List Nat → List Nat) : (kvL ps g).length = ps.length := by simp [kvL]
theorem rawL_len (qs : List (List Nat)) (e p : List Nat) : (rawSh qs e p).length = cnt qs e p := by unfold rawSh cnt; rw [List.length_map]
theorem rawL_snoc (qs : List (List Nat)) (e p q : List Nat) : rawSh (qs ++ [q]) e p = rawSh qs e p ++ if offE e p q = true then [q.getLastD 0] else [] := by
  unfold rawSh
  rw [List.filter_append, List.map_append, List.filter_cons]
  split <;> simp
def LeftR (qs : List (List Nat)) (e : List Nat) (g : List Nat → List Nat) : Prop := Left qs e g ∧ ∀ q ∈ qs, g q = rawSh qs e q
theorem raw_none {ps : List (List Nat)} (o : Ord ps) {i : Nat} {p : List Nat} (e : List Nat) (hi : ps[i]? = some p) : rawSh (ps.take (i + 1)) e p = [] := by
  have h := rawL_len (ps.take (i + 1)) e p
  rw [ord_none o e hi] at h
  exact List.length_eq_zero_iff.mp h
theorem leftR_in {ps : List (List Nat)} (o : Ord ps) {e : List Nat} {g : List Nat → List Nat} {i : Nat} {p : List Nat} (hi : ps[i]? = some p) (L : LeftR (ps.take i) e g) (h : p = [] ∨ p.isPrefixOf e = true) : LeftR (ps.take (i + 1)) e (setF g p []) := by
  refine ⟨left_in o hi L.1 h, fun q hq => ?_⟩
  by_cases z : q = p
  · subst z
    rw [setF_same, raw_none o e hi]
  · rw [setF_ne z]
    rw [take_one hi] at hq ⊢
    have hq2 : q ∈ ps.take i := (List.mem_append.mp hq).resolve_right fun y => z (List.mem_singleton.mp y)
    have ho : offE e q p = false := by
      unfold offE
      rcases h with h | h
      · rw [h]; simp
      · rw [h]; simp
    rw [rawL_snoc, ho, if_neg (by decide), List.append_nil]
    exact L.2 q hq2
theorem leftR_on {ps : List (List Nat)} (o : Ord ps) {e : List Nat} {g : List Nat → List Nat} {i : Nat} {m : List Nat} {c : Nat} (hi : ps[i]? = some (m ++ [c])) (L : LeftR (ps.take i) e g) (h : (m ++ [c]).isPrefixOf e = false) :
    LeftR (ps.take (i + 1)) e (setF (setF g (m ++ [c]) []) m (setF g (m ++ [c]) [] m ++ [c])) := by
  refine ⟨left_on o hi L.1 h, fun q hq => ?_⟩
  have nm : m ≠ m ++ [c] := fun z => by
    have := congrArg List.length z
    rw [List.length_append, List.length_singleton] at this
    omega
  have pm : m ∈ ps.take i := by
    have := ord_parent o hi (by simp)
    rwa [List.dropLast_concat] at this
  have ho : offE e q (m ++ [c]) = decide (m = q) := by
    unfold offE
    rw [h, List.dropLast_concat]
    simp
  by_cases z : q = m
  · subst z
    rw [setF_same, setF_ne nm, take_one hi, rawL_snoc, ho, decide_eq_true rfl, if_pos rfl, L.2 q pm]
    simp
  · rw [setF_ne z]
    by_cases y : q = m ++ [c]
    · rw [y, setF_same, raw_none o e hi]
    · rw [setF_ne y]
      rw [take_one hi] at hq ⊢
      have hq2 : q ∈ ps.take i := (List.mem_append.mp hq).resolve_right fun x => y (List.mem_singleton.mp x)
      rw [rawL_snoc, ho, decide_eq_false (fun x => z x.symm), if_neg (by decide), List.append_nil]
      exact L.2 q hq2
def LeftS (ps : List (List Nat)) (e : List Nat) (i : Nat) (g : List Nat → List Nat) : Prop := Left ps e g ∧ ∀ q ∈ ps, g q = if q ∈ ps.take i then lft ps e q else rawSh ps e q
theorem LeftR.zero {ps : List (List Nat)} {e : List Nat} {g : List Nat → List Nat} (L : LeftR ps e g) : LeftS ps e 0 g := ⟨L.1, fun q hq => by rw [List.take_zero, if_neg (by simp)]; exact L.2 q hq⟩
theorem leftS_set {ps : List (List Nat)} (o : Ord ps) {e : List Nat} {g : List Nat → List Nat} {i : Nat} {r : List Nat} (hr : ps[i]? = some r) (L : LeftS ps e i g) : LeftS ps e (i + 1) (setF g r (sgS (g r))) := by
  have rm := List.mem_of_getElem? hr
  refine ⟨left_set L.1 rm (sgS_perm _), fun q hq => ?_⟩
  have h0 := L.2 q hq
  by_cases z : q = r
  · subst z
    rw [if_neg (ord_new o hr)] at h0
    rw [setF_same, h0, if_pos (by rw [take_one hr]; simp)]
    rfl
  · rw [setF_ne z, h0, take_one hr]
    have : q ∈ ps.take i ++ [r] ↔ q ∈ ps.take i := by simp [z]
    simp only [this]
theorem LeftS.fin {ps : List (List Nat)} {e : List Nat} {g : List Nat → List Nat} (L : LeftS ps e ps.length g) : kvL ps g = kvL ps (lft ps e) := kvL_congr fun p hp => by rw [L.2 p hp, List.take_length, if_pos hp]
theorem rep_one (l : List Nat) (c : Nat) : Txt.replace (S l) (S [c]) ("" : Str) = S (l.filter fun d => decide (d ≠ c)) := by
  have h : ∀ l : List Nat, PySem.StrLaws.replL [c] [] l = l.filter fun d => decide (d ≠ c) := by
    intro l
    induction l with
    | nil => exact PySem.StrLaws.replL_nil
    | cons d r ih =>
      by_cases q : d = c
      · subst q
        rw [PySem.StrLaws.replL_hit (by simp) (by simp)]
        simpa using ih
      · rw [PySem.StrLaws.replL_miss (by simpa using q), ih]
        simp [q]
  have e := PySem.StrLaws.replace_list (x := S l) (y := S [c]) (z := ("" : Str)) (by show 1 ≤ 1; decide)
  have e2 : (Txt.replace (S l) (S [c]) ("" : Str)).cps.toList = l.filter fun d => decide (d ≠ c) := e.trans (h l)
  generalize Txt.replace (S l) (S [c]) ("" : Str) = z at e2
  obtain ⟨⟨x⟩⟩ := z
  subst e2
  rfl
theorem TrE.of {ps : List (List Nat)} {e : List Nat} (o : Ord ps) (he : e ∈ ps) : TrE ps e := ⟨o.t.t, tree_pre o.t.t.cl he List.nil_prefix, he⟩
theorem run_many (e : List Nat) (s : Sh) : ∀ i, (runS e i s).many ≤ s.many
  | 0 => Nat.le_refl _
  | i + 1 => Nat.le_trans (Nat.div_le_self _ _) (run_many e s i)
theorem InvS.gle {ps : List (List Nat)} {e : List Nat} {s : Sh} {i : Nat} (I : InvS ps e s i) (o : Ord ps) : (s.g s.h).length ≤ 61 := by
  rw [I.gl _ (I.vs _ I.here)]
  refine Nat.le_trans (List.length_filter_le _ _) ?_
  rw [lft_len]
  exact Nat.le_trans (cnt_le _ _ _) o.t.n1
theorem ways_lft (ps : List (List Nat)) (e : List Nat) : ways (fun p => (lft ps e p).length) ps = ways (cnt ps e) ps := ways_congr fun p _ => lft_len ps e p
/-! ### all shortest rows -/
section
variable {ps : List (List Nat)} {e : List Nat}
def dsE (e h : List Nat) : Nat := h.length + e.length - 2 * lcp h e
def phiR (ps : List (List Nat)) (e u : List Nat) : Nat := u.length + 2 * unseen ps e (gone u) + dsE e (RowM.plain u)
/-- a step of a shortest row -/
def Good (e u : List Nat) (c : Nat) : Prop :=
  (WalkM.on (RowM.plain u) c = RowM.plain u ++ [c] ∧ RowM.plain u ++ [c] ∉ gone u ∧ ¬ (RowM.plain u ++ [c]) <+: e) ∨ (WalkM.on (RowM.plain u) c = RowM.plain u ++ [c] ∧ (RowM.plain u ++ [c]) <+: e) ∨
  ∃ m d, RowM.plain u = m ++ [d] ∧ WalkM.on (RowM.plain u) c = m ∧ c = con d ∧ ¬ RowM.plain u <+: e
theorem on_two (p : List Nat) (c : Nat) (hc : c ∈ sgns) : WalkM.on p c = p ++ [c] ∨ ∃ m d, p = m ++ [d] ∧ WalkM.on p c = m ∧ c = con d := by
  by_cases q : p.getLast? = some (con c)
  · obtain ⟨m, x, e⟩ := exists_snoc (m := p) (fun z => by rw [z] at q; cases q)
    have ex : x = con c := by rw [e] at q; simpa using q
    subst ex
    exact .inr ⟨m, con c, e, by rw [e]; exact on_snoc, (RowM.con_con hc).symm⟩
  · exact .inl (on_else q)
theorem nopre {p e : List Nat} (h : ¬ p <+: e) : p.isPrefixOf e = false := by
  cases z : p.isPrefixOf e with
  | false => rfl
  | true => exact absurd (pre_iff.mp z) h
theorem phi_step (nd : ps.Nodup) {u : List Nat} {c : Nat} (ru : Row u) (hc : c ∈ sgns) (hm : WalkM.on (RowM.plain u) c ∈ ps) : (Good e u c ∧ phiR ps e (u ++ [c]) = phiR ps e u) ∨ phiR ps e (u ++ [c]) = phiR ps e u + 2 := by
  obtain ⟨h, eh⟩ : ∃ h, h = RowM.plain u := ⟨_, rfl⟩
  have hg : h ∈ gone u := eh ▸ WalkM.end_gone u
  have cl := (WalkM.tree_gone ru).cl
  have ep : RowM.plain (u ++ [c]) = WalkM.on h c := by rw [WalkM.plain_snoc, eh]
  have eg : gone (u ++ [c]) = addK (gone u) (WalkM.on h c) := by rw [WalkM.gone_snoc, eh]
  have mem' : ∀ q, q ∈ gone (u ++ [c]) ↔ q ∈ gone u ∨ q = WalkM.on h c := fun q => by rw [eg]; exact WalkM.mem_addK
  have le := lcp_le h e
  unfold phiR Good
  rw [ep, List.length_append, List.length_singleton, ← eh]
  rw [← eh] at hm
  have same : WalkM.on h c ∈ gone u → unseen ps e (gone (u ++ [c])) = unseen ps e (gone u) := fun z => unseen_same fun q _ _ => by
    rw [mem']
    exact ⟨fun y => y.elim id fun y => y ▸ z, .inl⟩
  rcases on_two h c hc with on1 | ⟨m, d, em, on1, ec⟩
  · rw [on1] at mem' hm same ⊢
    by_cases hp : (h ++ [c]) <+: e
    · refine .inl ⟨.inr (.inl ⟨rfl, hp⟩), ?_⟩
      have hp0 : h <+: e := (List.prefix_append _ _).trans hp
      have us : unseen ps e (gone (u ++ [c])) = unseen ps e (gone u) := unseen_same fun q _ hn => by
        rw [mem']
        exact ⟨fun y => y.elim id fun y => absurd (y ▸ hp) hn, .inl⟩
      have h5 : lcp h e = h.length := (lcp_pre _ _).mpr (pre_iff.mpr hp0)
      have h6 := hp.length_le
      unfold dsE
      rw [us, lcp_snoc, if_pos (pre_iff.mpr hp), h5]
      simp only [List.length_append, List.length_singleton] at h6 ⊢
      omega
    · have h7 := nopre hp
      unfold dsE
      rw [lcp_snoc, h7, List.length_append, List.length_singleton]
      simp only [Bool.false_eq_true, if_false]
      by_cases z : h ++ [c] ∈ gone u
      · refine .inr ?_
        rw [same z]
        omega
      · refine .inl ⟨.inl ⟨by simp, z, hp⟩, ?_⟩
        have := unseen_one nd hm z hp mem'
        omega
  · have mg : m ∈ gone u := by
      have := cl _ hg (by rw [em]; simp)
      rwa [em, List.dropLast_concat] at this
    rw [on1] at mem' same ⊢
    rw [same mg]
    by_cases hp : h <+: e
    · refine .inr ?_
      have hm0 : m <+: e := (em ▸ List.prefix_append m [d] : m <+: h).trans hp
      have h5 : lcp h e = h.length := (lcp_pre _ _).mpr (pre_iff.mpr hp)
      have h6 : lcp m e = m.length := (lcp_pre _ _).mpr (pre_iff.mpr hm0)
      have h7 : h.length = m.length + 1 := by rw [em]; simp
      have h8 := hp.length_le
      unfold dsE
      omega
    · refine .inl ⟨.inr (.inr ⟨m, d, em, rfl, ec, hp⟩), ?_⟩
      have h7 := nopre hp
      have h8 := lcp_le m e
      unfold dsE
      rw [em] at h7 le ⊢
      rw [lcp_snoc, h7, List.length_append, List.length_singleton]
      simp only [Bool.false_eq_true, if_false]
      omega
theorem gone_snoc_on (u : List Nat) (c : Nat) : WalkM.on (RowM.plain u) c ∈ gone (u ++ [c]) := by rw [WalkM.gone_snoc]; exact WalkM.mem_addK.mpr (.inr rfl)
theorem gone_sub (u w : List Nat) : ∀ p ∈ gone u, p ∈ gone (u ++ w) := by
  refine WalkM.snoc_ind (P := fun w => ∀ p ∈ gone u, p ∈ gone (u ++ w)) (fun p hp => by simpa using hp) (fun l c ih p hp => ?_) w
  rw [← List.append_assoc, WalkM.gone_snoc]
  exact WalkM.mem_addK.mpr (.inl (ih p hp))
theorem phi_mono (nd : ps.Nodup) (u : List Nat) (w : List Nat) : Row (u ++ w) → (∀ p ∈ gone (u ++ w), p ∈ ps) → phiR ps e u ≤ phiR ps e (u ++ w) := by
  refine WalkM.snoc_ind (P := fun w => Row (u ++ w) → (∀ p ∈ gone (u ++ w), p ∈ ps) → phiR ps e u ≤ phiR ps e (u ++ w)) (fun _ _ => by rw [List.append_nil]; exact Nat.le_refl _) (fun l c ih hr hg => ?_) w
  rw [← List.append_assoc] at hr hg ⊢
  have ru : Row (u ++ l) := fun d hd => hr d (List.mem_append_left _ hd)
  have h1 := ih ru fun p hp => hg p (gone_sub _ _ p hp)
  rcases phi_step (e := e) nd ru (hr c (by simp)) (hg _ (gone_snoc_on _ _)) with ⟨_, h⟩ | h <;> omega
/-- where nothing is lost, each step is good -/
theorem all_good (nd : ps.Nodup) {t : List Nat} (rt : Row t) (hg : ∀ p ∈ gone t, p ∈ ps) {i : Nat} (h : phiR ps e (t.take i) = phiR ps e t) {j c : Nat} (hj : i ≤ j) (hc : t[j]? = some c) : Good e (t.take j) c ∧ phiR ps e (t.take (j + 1)) = phiR ps e t ∧ phiR ps e (t.take j) = phiR ps e t := by
  have split : ∀ a b, a ≤ b → t.take b = t.take a ++ (t.drop a).take (b - a) := fun a b hab => by rw [← List.take_add, Nat.add_sub_cancel' hab]
  have m1 : phiR ps e (t.take i) ≤ phiR ps e (t.take j) := by
    have rr : Row (t.take j) := fun d hd => rt d (List.mem_of_mem_take hd)
    have gg : ∀ p ∈ gone (t.take j), p ∈ ps := fun p hp => hg p (by have := gone_sub (t.take j) (t.drop j) p hp; rwa [List.take_append_drop] at this)
    rw [split i j hj] at rr gg ⊢
    exact phi_mono nd _ _ rr gg
  have m2 : phiR ps e (t.take (j + 1)) ≤ phiR ps e t := by
    have := phi_mono (e := e) nd (t.take (j + 1)) (t.drop (j + 1)) (by rw [List.take_append_drop]; exact rt) (by rw [List.take_append_drop]; exact hg)
    rwa [List.take_append_drop] at this
  have et : t.take (j + 1) = t.take j ++ [c] := by rw [List.take_add_one, hc]; rfl
  have ru : Row (t.take j) := fun d hd => rt d (List.mem_of_mem_take hd)
  have on1 : WalkM.on (RowM.plain (t.take j)) c ∈ ps := hg _ (by
    have := gone_sub (t.take (j + 1)) (t.drop (j + 1)) _ (et ▸ gone_snoc_on (t.take j) c)
    rwa [List.take_append_drop] at this)
  rw [et] at m2 ⊢
  rcases phi_step (e := e) nd ru (rt c (List.mem_of_getElem? hc)) on1 with ⟨g, h1⟩ | h1
  · exact ⟨g, by omega, by omega⟩
  · omega
/-- where one stays on one side, what lies on the other one isn't seen -/
theorem near_side (nd : ps.Nodup) {t : List Nat} (rt : Row t) (hg : ∀ p ∈ gone t, p ∈ ps) {i : Nat} (h : phiR ps e (t.take i) = phiR ps e t) (hi : i ≤ t.length) (Z : List Nat → Prop) (h0 : Z (RowM.plain (t.take i)))
    (st : ∀ j c, i ≤ j → t[j]? = some c → Good e (t.take j) c → Z (RowM.plain (t.take j)) → Z (WalkM.on (RowM.plain (t.take j)) c)) {q : List Nat} (hq : ¬ Z q) (hn : q ∉ gone (t.take i)) : q ∉ gone t := by
  have : ∀ k, i + k ≤ t.length → Z (RowM.plain (t.take (i + k))) ∧ q ∉ gone (t.take (i + k)) := by
    intro k
    induction k with
    | zero => exact fun _ => ⟨h0, hn⟩
    | succ k ih =>
      intro hk
      obtain ⟨z1, z2⟩ := ih (by omega)
      obtain ⟨c, hc⟩ : ∃ c, t[i + k]? = some c := ⟨t[i + k], List.getElem?_eq_getElem (by omega)⟩
      have et : t.take (i + (k + 1)) = t.take (i + k) ++ [c] := by rw [← Nat.add_assoc, List.take_add_one, hc]; rfl
      have z3 := st (i + k) c (by omega) hc (all_good nd rt hg h (by omega) hc).1 z1
      rw [et, WalkM.plain_snoc, WalkM.gone_snoc]
      exact ⟨z3, fun m => (WalkM.mem_addK.mp m).elim z2 fun y => hq (y ▸ z3)⟩
  have := (this (t.length - i) (by omega)).2
  rwa [Nat.add_sub_cancel' hi, List.take_length] at this
end
/-! ### the number of a row -/
section
variable {ps : List (List Nat)} {e : List Nat} {s : Sh} {i : Nat}
def layS (s : Sh) (n : Nat) : Sh := ⟨s.h, s.g, s.many, n, s.f⟩
theorem InvS.lay (I : InvS ps e s i) {n : Nat} (h : n < s.many) : InvS ps e (layS s n) i := ⟨I.rf, I.hp, I.vs, I.gl, I.pi, I.ln, I.phi, I.mn, h⟩
def stepC (e : List Nat) (s : Sh) (c : Nat) : Sh := ⟨WalkM.on s.h c, setF s.g s.h ((s.g s.h).filter fun d => decide (d ≠ c)), s.many / (chS e s).length, 0, s.f ++ [c]⟩
theorem sgS_sorted {x : List Nat} (rx : Row x) (nd : x.Nodup) : (sgS x).Pairwise fun a b => RowM.ix a < RowM.ix b := by
  have h1 := WalkM.srt_pairwise (x.map fun c => [c])
  rw [← sgS_map, List.pairwise_map] at h1
  have nd2 : (sgS x).Nodup := (sgS_perm x).nodup_iff.mpr nd
  have h2 := h1.and nd2
  refine h2.imp_of_mem fun {a b} ha hb hab => ?_
  have ra := rx a ((sgS_perm x).mem_iff.mp ha)
  have rb := rx b ((sgS_perm x).mem_iff.mp hb)
  have h3 : RowM.before [b] [a] = false := by
    have := hab.1
    unfold WalkM.leR at this
    simpa using this
  have h4 : ¬ RowM.ix b < RowM.ix a := fun z => by
    unfold RowM.before at h3
    have e2 : [b].length = [a].length := rfl
    rw [if_pos e2] at h3
    simp [RowM.lexI, z] at h3
    omega
  have h5 : RowM.ix a ≠ RowM.ix b := fun z => hab.2 ((RowM.ix_inj ra rb).mp z)
  omega
theorem lft_sorted (T : Tree ps) (p : List Nat) : (lft ps e p).Pairwise fun a b => RowM.ix a < RowM.ix b := by
  refine sgS_sorted (fun c hc => ?_) ?_
  · have : c ∈ lft ps e p := (sgS_perm _).mem_iff.mpr hc
    exact (T.pr _ (mem_lft.mp this).1).1 c (by simp)
  · exact (sgS_perm _).nodup_iff.mp (lft_nodup T.nd e p)
theorem InvS.sorted (I : InvS ps e s i) (T : TrE ps e) : (chS e s).Pairwise fun a b => RowM.ix a < RowM.ix b := by
  unfold chS
  split
  · unfold homeS
    split
    · exact List.Pairwise.nil
    · split
      · exact List.pairwise_singleton _ _
      · exact List.pairwise_singleton _ _
  · rw [I.gl _ (I.vs _ I.here)]
    exact (lft_sorted T.t _).filter _
theorem InvS.nodup (I : InvS ps e s i) (T : TrE ps e) : (chS e s).Nodup := (I.sorted T).imp fun h z => by rw [z] at h; omega
theorem InvS.exact (I : InvS ps e s i) (T : TrE ps e) (hi : i < lenS ps e) : s.many / (chS e s).length * (chS e s).length = s.many ∧ 0 < s.many / (chS e s).length := by
  by_cases ne : s.g s.h = []
  · obtain ⟨c, ec, _⟩ := I.home T hi ne
    rw [ec, show [c].length = 1 from rfl, Nat.div_one, Nat.mul_one]
    exact ⟨rfl, Nat.lt_of_le_of_lt (Nat.zero_le _) I.lt⟩
  · have hh := I.vs _ I.here
    have ec : chS e s = s.g s.h := by unfold chS; rw [if_neg ne]
    have L1 : 1 ≤ (s.g s.h).length := List.length_pos_iff.mpr ne
    have dec : ways (fun p => (s.g p).length) ps = ways (fun p => if p = s.h then (s.g s.h).length - 1 else (s.g p).length) ps * (s.g s.h).length :=
      ways_dec (f := fun p => (s.g p).length) T.t.nd hh (by show _ = (if s.h = s.h then _ else _) + 1; rw [if_pos rfl]; omega) fun q _ hn => by show _ = if q = s.h then _ else _; rw [if_neg hn]
    have em : s.many / (chS e s).length = ways (fun p => if p = s.h then (s.g s.h).length - 1 else (s.g p).length) ps := by
      rw [ec, I.mn, dec, Nat.mul_div_cancel _ L1]
    rw [em, ec, ← dec, ← I.mn]
    exact ⟨rfl, ways_pos _ _⟩
theorem getD_idx {x : List Nat} {c : Nat} (h : c ∈ x) : x.getD (x.idxOf c) 0 = c := by
  rw [List.getD_eq_getElem?_getD, List.getElem?_eq_getElem (List.idxOf_lt_length_of_mem h)]
  exact List.getElem_idxOf _
/-- a step by a number that stands for it -/
theorem InvS.byC (I : InvS ps e s i) (T : TrE ps e) (hi : i < lenS ps e) {c : Nat} (hc : c ∈ chS e s) {r : Nat} (hr : r < s.many / (chS e s).length) :
    s.many / (chS e s).length * (chS e s).idxOf c + r < s.many ∧ stepS e (layS s (s.many / (chS e s).length * (chS e s).idxOf c + r)) = layS (stepC e s c) r := by
  obtain ⟨h1, h2⟩ := I.exact T hi
  have hx : (chS e s).idxOf c < (chS e s).length := List.idxOf_lt_length_of_mem hc
  obtain ⟨m, em⟩ : ∃ m, m = s.many / (chS e s).length := ⟨_, rfl⟩
  rw [← em] at h1 h2 hr ⊢
  have h3 : m * (chS e s).idxOf c + m ≤ m * (chS e s).length := by rw [← Nat.mul_succ]; exact Nat.mul_le_mul_left m hx
  have h4 : (m * (chS e s).idxOf c + r) / m = (chS e s).idxOf c := by rw [Nat.mul_add_div h2, Nat.div_eq_of_lt hr, Nat.add_zero]
  have h5 : (m * (chS e s).idxOf c + r) % m = r := by rw [Nat.mul_add_mod, Nat.mod_eq_of_lt hr]
  refine ⟨by omega, ?_⟩
  have h6 : atS e (layS s (m * (chS e s).idxOf c + r)) = (chS e s).idxOf c := by
    show (m * (chS e s).idxOf c + r) / (s.many / (chS e s).length) = _
    rw [← em, h4]
  have h7 : cS e (layS s (m * (chS e s).idxOf c + r)) = c := by
    unfold cS
    rw [h6]
    exact getD_idx hc
  unfold stepS
  rw [h7]
  show Sh.mk (WalkM.on s.h c) _ (s.many / (chS e s).length) ((m * (chS e s).idxOf c + r) % (s.many / (chS e s).length)) _ = Sh.mk (WalkM.on s.h c) _ (s.many / (chS e s).length) r _
  rw [← em, h5]
  rfl
theorem InvS.follow (I : InvS ps e s i) (T : TrE ps e) (hi : i < lenS ps e) {c : Nat} (hc : c ∈ chS e s) : InvS ps e (stepC e s c) (i + 1) := by
  obtain ⟨h1, h2⟩ := I.byC T hi hc (I.exact T hi).2
  have h3 := ((I.lay h1).next T hi).2.2
  rw [h2] at h3
  exact h3
/-- the states that a row goes through -/
def stC (e : List Nat) (s : Sh) (t : List Nat) (i : Nat) : Sh := (t.take i).foldl (stepC e) s
theorem stC_succ (e : List Nat) (s : Sh) {t : List Nat} {i c : Nat} (h : t[i]? = some c) : stC e s t (i + 1) = stepC e (stC e s t i) c := by
  unfold stC
  rw [List.take_add_one, h]
  simp [List.foldl_append]
def fndC (e : List Nat) (s : Sh) (t : List Nat) : Nat → Nat
  | 0 => 0
  | i + 1 => fndC e s t i + (stC e s t i).many / (chS e (stC e s t i)).length * (chS e (stC e s t i)).idxOf (t.getD i 0)
theorem stC_f (e : List Nat) (s : Sh) (t : List Nat) : ∀ i, i ≤ t.length → (stC e s t i).f = s.f ++ t.take i
  | 0, _ => by unfold stC; simp
  | i + 1, h => by
    have hc : t[i]? = some t[i] := List.getElem?_eq_getElem (by omega)
    rw [stC_succ e s hc, List.take_add_one, hc]
    show (stC e s t i).f ++ [t[i]] = _
    rw [stC_f e s t i (by omega), List.append_assoc]
    rfl
/-- as far as each sign is one of the choices -/
theorem inv_st (T : TrE ps e) {t : List Nat} : ∀ i, i ≤ lenS ps e → i ≤ t.length → (∀ j c, j < i → t[j]? = some c → c ∈ chS e (stC e (initS ps e 0) t j)) → InvS ps e (stC e (initS ps e 0) t i) i
  | 0, _, _, _ => InvS.start T (ways_pos _ _)
  | i + 1, h1, h2, h3 => by
    have hc : t[i]? = some t[i] := List.getElem?_eq_getElem (by omega)
    rw [stC_succ e _ hc]
    exact (inv_st T i (by omega) (by omega) fun j c hj => h3 j c (by omega)).follow T (by omega) (h3 i _ (by omega) hc)
theorem num_run (T : TrE ps e) {t : List Nat} : ∀ i, i ≤ lenS ps e → i ≤ t.length → (∀ j c, j < i → t[j]? = some c → c ∈ chS e (stC e (initS ps e 0) t j)) → ∀ r, r < (stC e (initS ps e 0) t i).many →
    runS e i (initS ps e (fndC e (initS ps e 0) t i + r)) = layS (stC e (initS ps e 0) t i) r ∧ fndC e (initS ps e 0) t i + r < (initS ps e 0).many
  | 0, _, _, _, r, hr => by
    refine ⟨?_, ?_⟩
    · show initS ps e (0 + r) = layS (initS ps e 0) r
      rw [Nat.zero_add]
      rfl
    · show 0 + r < _
      rw [Nat.zero_add]
      exact hr
  | i + 1, h1, h2, h3, r, hr => by
    have hc : t[i]? = some t[i] := List.getElem?_eq_getElem (by omega)
    have hin := h3 i _ (by omega) hc
    have I := inv_st T i (by omega) (by omega) fun j c hj => h3 j c (by omega)
    rw [stC_succ e _ hc] at hr ⊢
    obtain ⟨q1, q2⟩ := I.byC T (by omega) hin (r := r) hr
    obtain ⟨q3, q4⟩ := num_run T i (by omega) (by omega) (fun j c hj => h3 j c (by omega)) _ q1
    have eg : t.getD i 0 = t[i] := by rw [List.getD_eq_getElem?_getD, hc]; rfl
    have ef : fndC e (initS ps e 0) t (i + 1) + r = fndC e (initS ps e 0) t i + ((stC e (initS ps e 0) t i).many / (chS e (stC e (initS ps e 0) t i)).length * (chS e (stC e (initS ps e 0) t i)).idxOf t[i] + r) := by
      show fndC e (initS ps e 0) t i + (stC e (initS ps e 0) t i).many / (chS e (stC e (initS ps e 0) t i)).length * (chS e (stC e (initS ps e 0) t i)).idxOf (t.getD i 0) + r = _
      rw [eg]
      omega
    rw [ef]
    refine ⟨?_, q4⟩
    show stepS e (runS e i _) = _
    rw [q3, q2]
/-- where all signs are choices the row is the one of its number -/
theorem num_row (T : TrE ps e) {t : List Nat} (z : t.length = lenS ps e) (h : ∀ j c, t[j]? = some c → c ∈ chS e (stC e (initS ps e 0) t j)) :
    fndC e (initS ps e 0) t t.length < ways (fun p => (lft ps e p).length) ps ∧ shortR ps e (fndC e (initS ps e 0) t t.length) = t := by
  have I := inv_st T (t := t) t.length (by omega) (Nat.le_refl _) fun j c _ => h j c
  obtain ⟨q1, q2⟩ := num_run T (t := t) t.length (by omega) (Nat.le_refl _) (fun j c _ => h j c) 0 (Nat.lt_of_le_of_lt (Nat.zero_le _) I.lt)
  refine ⟨q2, ?_⟩
  unfold shortR
  rw [← z]
  rw [Nat.add_zero] at q1
  rw [q1]
  show (stC e (initS ps e 0) t t.length).f = t
  rw [stC_f e _ t _ (Nat.le_refl _), List.take_length]
  rfl
/-! the row of a number goes by the choices -/
theorem run_lay (T : TrE ps e) {n : Nat} (hn : n < ways (fun p => (lft ps e p).length) ps) : ∀ i, i ≤ lenS ps e → ∃ l, runS e i (initS ps e n) = layS (stC e (initS ps e 0) (shortR ps e n) i) l ∧ (runS e i (initS ps e n)).f = (shortR ps e n).take i := by
  have fr : ∀ k i, (runS e (i + k) (initS ps e n)).f.take (runS e i (initS ps e n)).f.length = (runS e i (initS ps e n)).f := by
    intro k
    induction k with
    | zero => intro i; rw [Nat.add_zero, List.take_length]
    | succ k ih =>
      intro i
      show ((runS e (i + k) (initS ps e n)).f ++ [_]).take _ = _
      have le : (runS e i (initS ps e n)).f.length ≤ (runS e (i + k) (initS ps e n)).f.length := by
        have := congrArg List.length (ih i)
        rw [List.length_take] at this
        omega
      rw [List.take_append_of_le_length le, ih i]
  have tk : ∀ i, i ≤ lenS ps e → (runS e i (initS ps e n)).f = (shortR ps e n).take i := by
    intro i hi
    have := fr (lenS ps e - i) i
    rw [Nat.add_sub_cancel' hi, (InvS.run T hn i hi).ln] at this
    exact this.symm
  intro i
  induction i with
  | zero => exact fun h => ⟨n, rfl, tk 0 h⟩
  | succ i ih =>
    intro h
    obtain ⟨l, e1, _⟩ := ih (by omega)
    refine ⟨(stepS e (runS e i (initS ps e n))).left, ?_, tk _ h⟩
    have hc : (shortR ps e n)[i]? = some (cS e (runS e i (initS ps e n))) := by
      have h1 := tk (i + 1) h
      have h2 := tk i (by omega)
      have h3 : (runS e (i + 1) (initS ps e n)).f = (runS e i (initS ps e n)).f ++ [cS e (runS e i (initS ps e n))] := rfl
      rw [h1, h2, List.take_add_one] at h3
      have h4 := List.append_cancel_left h3
      cases z : (shortR ps e n)[i]? with
      | none => rw [z] at h4; cases h4
      | some c =>
        rw [z] at h4
        injection h4 with h4
        rw [h4]
    rw [stC_succ e _ hc]
    show stepS e (runS e i (initS ps e n)) = _
    generalize cS e (runS e i (initS ps e n)) = c at hc ⊢
    rw [e1]
    unfold stepS layS stepC
    have hc2 : cS e (layS (stC e (initS ps e 0) (shortR ps e n) i) l) = c := by
      have h1 := tk (i + 1) h
      have h2 := tk i (by omega)
      have h3 : (runS e (i + 1) (initS ps e n)).f = (runS e i (initS ps e n)).f ++ [cS e (runS e i (initS ps e n))] := rfl
      rw [h1, h2, List.take_add_one, hc, e1] at h3
      have h4 := List.append_cancel_left h3
      injection h4 with h4
      exact h4.symm
    unfold layS at hc2
    rw [hc2]
    rfl
theorem short_in (T : TrE ps e) {n : Nat} (hn : n < ways (fun p => (lft ps e p).length) ps) {i c : Nat} (hc : (shortR ps e n)[i]? = some c) : c ∈ chS e (stC e (initS ps e 0) (shortR ps e n) i) := by
  have zi : i < lenS ps e := by
    have := (List.getElem?_eq_some_iff.mp hc).1
    rw [(shortR_ok T hn).2.1] at this
    exact this
  obtain ⟨l, e1, e2⟩ := run_lay T hn i (by omega)
  obtain ⟨_, _, e3⟩ := run_lay T hn (i + 1) (by omega)
  have I := InvS.run T hn i (by omega)
  obtain ⟨n1, n2, _⟩ := I.next T zi
  have h3 : (runS e (i + 1) (initS ps e n)).f = (runS e i (initS ps e n)).f ++ [cS e (runS e i (initS ps e n))] := rfl
  rw [e3, e2, List.take_add_one, hc] at h3
  have h4 := List.append_cancel_left h3
  injection h4 with h4
  have h5 : cS e (runS e i (initS ps e n)) ∈ chS e (runS e i (initS ps e n)) := by
    unfold cS
    rw [List.getD_eq_getElem?_getD, List.getElem?_eq_getElem n2]
    exact List.getElem_mem _
  have h6 : chS e (runS e i (initS ps e n)) = chS e (stC e (initS ps e 0) (shortR ps e n) i) := by rw [e1]; rfl
  rw [h6] at h5
  first | (rw [h4]; exact h5) | (rw [← h4]; exact h5)
/-! ### in their order -/
def pathS (e : List Nat) : Nat → Sh → List Nat
  | 0, _ => []
  | k + 1, s => cS e s :: pathS e k (stepS e s)
theorem runS_front (e : List Nat) (s : Sh) : ∀ k, runS e (k + 1) s = runS e k (stepS e s)
  | 0 => rfl
  | k + 1 => by
    show stepS e (runS e (k + 1) s) = stepS e (runS e k (stepS e s))
    rw [runS_front e s k]
theorem path_f (e : List Nat) : ∀ (k : Nat) (s : Sh), (runS e k s).f = s.f ++ pathS e k s
  | 0, s => by simp [runS, pathS]
  | k + 1, s => by
    rw [runS_front, path_f e k]
    show (s.f ++ [cS e s]) ++ _ = s.f ++ (cS e s :: _)
    rw [List.append_assoc]
    rfl
theorem ways_one {f : List Nat → Nat} : ∀ {qs : List (List Nat)}, (∀ q ∈ qs, f q = 0) → ways f qs = 1
  | [], _ => rfl
  | q :: qs, h => by rw [ways_cons, h q List.mem_cons_self, ways_one fun r hr => h r (List.mem_cons_of_mem _ hr)]; rfl
theorem InvS.end_one (I : InvS ps e s (lenS ps e)) (T : TrE ps e) : s.many = 1 := by
  obtain ⟨_, h⟩ := I.fin T
  rw [I.mn]
  refine ways_one fun q hq => ?_
  rw [I.gl q hq, List.length_eq_zero_iff, List.filter_eq_nil_iff]
  intro c hc
  rw [decide_eq_false (not_not_intro ((h _).mpr (mem_lft.mp hc).1))]
  decide
theorem path_lex (T : TrE ps e) : ∀ (k : Nat) (s : Sh) (i n1 n2 : Nat), i + k = lenS ps e → InvS ps e s i → n1 < n2 → n2 < s.many → RowM.lexI ((pathS e k (layS s n1)).map RowM.ix) ((pathS e k (layS s n2)).map RowM.ix) = true
  | 0, s, i, n1, n2, hk, I, h1, h2 => by
    have : i = lenS ps e := by omega
    subst this
    rw [I.end_one T] at h2
    omega
  | k + 1, s, i, n1, n2, hk, I, h1, h2 => by
    obtain ⟨x1, x2⟩ := I.exact T (by omega)
    have a2 := (I.lay h2).next T (by omega)
    have a1 := (I.lay (n := n1) (by omega)).next T (by omega)
    obtain ⟨m, em⟩ : ∃ m, m = s.many / (chS e s).length := ⟨_, rfl⟩
    have t1 : atS e (layS s n1) = n1 / m := by rw [em]; rfl
    have t2 : atS e (layS s n2) = n2 / m := by rw [em]; rfl
    rw [← em] at x2
    have le : n1 / m ≤ n2 / m := Nat.div_le_div_right (Nat.le_of_lt h1)
    have z1 : n1 / m < (chS e s).length := t1 ▸ a1.2.1
    have z2 : n2 / m < (chS e s).length := t2 ▸ a2.2.1
    have c1 : cS e (layS s n1) = (chS e s)[n1 / m] := by
      unfold cS
      rw [t1]
      show (chS e s).getD _ 0 = _
      rw [List.getD_eq_getElem?_getD, List.getElem?_eq_getElem z1]
      rfl
    have c2 : cS e (layS s n2) = (chS e s)[n2 / m] := by
      unfold cS
      rw [t2]
      show (chS e s).getD _ 0 = _
      rw [List.getD_eq_getElem?_getD, List.getElem?_eq_getElem z2]
      rfl
    show RowM.lexI (RowM.ix (cS e (layS s n1)) :: _) (RowM.ix (cS e (layS s n2)) :: _) = true
    by_cases q : n1 / m = n2 / m
    · have cc : cS e (layS s n1) = cS e (layS s n2) := by rw [c1, c2]; congr 1
      have st : ∀ n, cS e (layS s n) = cS e (layS s n2) → stepS e (layS s n) = layS (stepC e s (cS e (layS s n2))) (n % m) := fun n hn => by
        unfold stepS
        rw [hn, em]
        rfl
      have J := a2.2.2
      rw [st n2 rfl] at J
      have d1 := Nat.div_add_mod n1 m
      have d2 := Nat.div_add_mod n2 m
      rw [q] at d1
      have ih := path_lex T k (stepC e s (cS e (layS s n2))) (i + 1) (n1 % m) (n2 % m) (by omega) (J.lay (n := 0) (by rw [show (layS (stepC e s (cS e (layS s n2))) (n2 % m)).many = m from em.symm]; exact x2)) (by omega) (by rw [show (stepC e s (cS e (layS s n2))).many = m from em.symm]; exact Nat.mod_lt _ x2)
      rw [← st n1 cc, ← st n2 rfl] at ih
      rw [cc]
      simp only [RowM.lexI, pathS, List.map_cons]
      simpa using ih
    · have lt : n1 / m < n2 / m := by omega
      have := List.pairwise_iff_getElem.mp (I.sorted T) _ _ z1 z2 lt
      rw [c1, c2]
      simp [RowM.lexI, this]
      exact .inl (by omega)
theorem short_before (T : TrE ps e) {n1 n2 : Nat} (h : n1 < n2) (hn : n2 < ways (fun p => (lft ps e p).length) ps) : RowM.before (shortR ps e n1) (shortR ps e n2) = true := by
  have z1 := (shortR_ok T (Nat.lt_trans h hn)).2.1
  have z2 := (shortR_ok T hn).2.1
  unfold RowM.before
  rw [if_pos (by rw [z1, z2])]
  unfold shortR
  rw [path_f, path_f]
  exact path_lex T (lenS ps e) (initS ps e 0) 0 n1 n2 (by omega) (InvS.start T (ways_pos _ _)) h hn
theorem short_inj (T : TrE ps e) {n1 n2 : Nat} (h1 : n1 < ways (fun p => (lft ps e p).length) ps) (h2 : n2 < ways (fun p => (lft ps e p).length) ps) (h : shortR ps e n1 = shortR ps e n2) : n1 = n2 := by
  have irr : ∀ l, RowM.before l l = true → False := fun l z => by
    have := WalkM.before_asymm z
    rw [z] at this
    cases this
  rcases Nat.lt_trichotomy n1 n2 with q | q | q
  · have := short_before T q h2
    rw [h] at this
    exact (irr _ this).elim
  · exact q
  · have := short_before T q h1
    rw [h] at this
    exact (irr _ this).elim
/-! ### each row that walks it with so many signs is one of them -/
theorem good_ch (T : TrE ps e) {t : List Nat} (rt : Row t) (zt : t.length = lenS ps e) (pt : RowM.plain t = e) (gt : ∀ p, p ∈ gone t ↔ p ∈ ps) {j : Nat} (I : InvS ps e s j) (ef : s.f = t.take j) {c : Nat} (hc : t[j]? = some c) : c ∈ chS e s := by
  have hj : j < t.length := (List.getElem?_eq_some_iff.mp hc).1
  have eh : RowM.plain (t.take j) = s.h := by rw [← ef]; exact I.hp
  have pT : phiR ps e t = lenS ps e := by
    unfold phiR dsE
    rw [unseen_zero fun p hp => (gt p).mpr hp, pt, zt, (lcp_pre e e).mpr (pre_iff.mpr (List.prefix_refl e))]
    omega
  have p0 : phiR ps e (t.take j) = phiR ps e t := by
    rw [pT, ← I.phi]
    unfold phiR dsE
    rw [eh, ← ef, I.ln]
  obtain ⟨good, p1, _⟩ := all_good T.t.nd rt (fun p hp => (gt p).mp hp) p0 (Nat.le_refl j) hc
  unfold Good at good
  rw [eh, ← ef] at good
  have hh := I.vs _ I.here
  have et : t.take (j + 1) = t.take j ++ [c] := by rw [List.take_add_one, hc]; rfl
  have on' : RowM.plain (t.take (j + 1)) = WalkM.on s.h c := by rw [et, WalkM.plain_snoc, eh]
  have mg : ∀ q, q ∈ gone (t.take (j + 1)) ↔ q ∈ gone s.f ∨ q = WalkM.on s.h c := fun q => by rw [et, WalkM.gone_snoc, eh, ef]; exact WalkM.mem_addK
  have inps : WalkM.on s.h c ∈ ps := (gt _).mp (by
    have := gone_sub (t.take (j + 1)) (t.drop (j + 1)) _ ((mg _).mpr (.inr rfl))
    rwa [List.take_append_drop] at this)
  rcases good with ⟨on1, nin, npre⟩ | ⟨on1, pre⟩ | ⟨m, d, em, on1, ec, npre⟩
  · have h1 : c ∈ s.g s.h := by
      rw [I.gl _ hh]
      exact List.mem_filter.mpr ⟨mem_lft.mpr ⟨on1 ▸ inps, npre⟩, decide_eq_true nin⟩
    unfold chS
    rw [if_neg (fun z => by rw [z] at h1; cases h1)]
    exact h1
  · have g0 : s.g s.h = [] := by
      refine List.eq_nil_iff_forall_not_mem.mpr fun x hx => ?_
      rw [I.gl _ hh] at hx
      obtain ⟨h1, h2⟩ := List.mem_filter.mp hx
      obtain ⟨h3, h4⟩ := mem_lft.mp h1
      have h2 := of_decide_eq_true h2
      have nx : ∀ y, s.h ++ [x] = s.h ++ [y] → x = y := fun y z => by simpa using z
      have ncx : ¬ (s.h ++ [c]) <+: (s.h ++ [x]) := fun z => by
        have := z.eq_of_length (by simp)
        exact h4 (this ▸ pre)
      refine near_side T.t.nd rt (fun p hp => (gt p).mp hp) p1 (by omega) (fun p => (s.h ++ [c]) <+: p) ?_ ?_ ncx ?_ ((gt _).mpr h3)
      · show (s.h ++ [c]) <+: RowM.plain (t.take (j + 1))
        rw [on', on1]
        exact List.prefix_refl _
      · rintro k c' _ _ (⟨o, _, _⟩ | ⟨o, _⟩ | ⟨m, d, e1, o, _, np⟩) z
        · show _ <+: WalkM.on _ _
          rw [o]
          exact z.trans (List.prefix_append _ _)
        · show _ <+: WalkM.on _ _
          rw [o]
          exact z.trans (List.prefix_append _ _)
        · show _ <+: WalkM.on _ _
          rw [o]
          have z : (s.h ++ [c]) <+: RowM.plain (t.take k) := z
          rw [e1] at z np
          rcases prefix_snoc.mp z with y | y
          · exact y
          · exact absurd (y ▸ pre) np
      · rw [mg, on1]
        rintro (z | z)
        · exact h2 z
        · exact ncx (z ▸ List.prefix_refl _)
    unfold chS homeS
    have hne : s.h ≠ e := fun z => by
      have := pre.length_le
      rw [z, List.length_append, List.length_singleton] at this
      omega
    have hp0 : s.h <+: e := (List.prefix_append _ _).trans pre
    obtain ⟨r, hr⟩ := pre
    rw [if_pos g0, if_neg hne, if_pos (pre_iff.mpr hp0), ← hr]
    simp
  · have g0 : s.g s.h = [] := by
      refine List.eq_nil_iff_forall_not_mem.mpr fun x hx => ?_
      rw [I.gl _ hh] at hx
      obtain ⟨h1, h2⟩ := List.mem_filter.mp hx
      obtain ⟨h3, h4⟩ := mem_lft.mp h1
      have h2 := of_decide_eq_true h2
      refine near_side T.t.nd rt (fun p hp => (gt p).mp hp) p1 (by omega) (fun p => ¬ s.h <+: p) ?_ ?_ (fun z => z (List.prefix_append _ _)) ?_ ((gt _).mpr h3)
      · show ¬ s.h <+: RowM.plain (t.take (j + 1))
        rw [on', on1, em]
        intro z
        have := z.length_le
        rw [List.length_append, List.length_singleton] at this
        omega
      · rintro k c' hk _ (⟨o, ni, _⟩ | ⟨o, p2⟩ | ⟨m', d', e1, o, _, _⟩) z
        · show ¬ _ <+: WalkM.on _ _
          rw [o]
          intro y
          rcases prefix_snoc.mp y with y | y
          · exact z y
          · refine ni (y ▸ ?_)
            have := gone_sub (t.take j) ((t.take k).drop j) s.h (by rw [← ef]; exact I.here)
            have e2 : t.take j ++ (t.take k).drop j = t.take k := by
              have := List.take_append_drop j (t.take k)
              rwa [List.take_take, Nat.min_eq_left (by omega)] at this
            rwa [e2] at this
        · show ¬ _ <+: WalkM.on _ _
          rw [o]
          exact fun y => npre (y.trans p2)
        · show ¬ _ <+: WalkM.on _ _
          rw [o]
          have z : ¬ s.h <+: RowM.plain (t.take k) := z
          rw [e1] at z
          exact fun y => z (y.trans (List.prefix_append _ _))
      · rw [mg, on1]
        rintro (z | z)
        · exact h2 z
        · have := congrArg List.length z
          rw [em, List.length_append, List.length_append, List.length_singleton, List.length_singleton] at this
          omega
    unfold chS homeS
    have hne : s.h ≠ e := fun z => npre (z ▸ List.prefix_refl _)
    rw [if_pos g0, if_neg hne, if_neg (fun z => npre (pre_iff.mp z)), ec, em]
    simp
theorem short_all (T : TrE ps e) {t : List Nat} (rt : Row t) (zt : t.length = lenS ps e) (pt : RowM.plain t = e) (gt : ∀ p, p ∈ gone t ↔ p ∈ ps) : ∃ n, n < ways (fun p => (lft ps e p).length) ps ∧ shortR ps e n = t := by
  have all : ∀ i, i ≤ t.length → ∀ j c, j < i → t[j]? = some c → c ∈ chS e (stC e (initS ps e 0) t j) := by
    intro i
    induction i with
    | zero => intro _ j c hj; omega
    | succ i ih =>
      intro hi j c hj hc
      by_cases q : j < i
      · exact ih (by omega) j c q hc
      · have : j = i := by omega
        subst this
        have I := inv_st T (t := t) j (by omega) (by omega) (ih (by omega))
        exact good_ch T rt zt pt gt I (by rw [stC_f e _ t j (by omega)]; rfl) hc
  exact ⟨_, num_row T zt fun j c hc => all t.length (Nat.le_refl _) j c (List.getElem?_eq_some_iff.mp hc).1 hc⟩
end
/-! ### all rows of a tree, gone through sign by sign -/
section
variable {ps : List (List Nat)} {e : List Nat}
def sg6 : List Nat := [97, 65, 98, 66, 99, 67]
theorem sg6_sgns {c : Nat} (h : c ∈ sg6) : c ∈ sgns := by
  revert c
  decide
theorem sg6_low {c : Nat} (h : c ∈ sgns) (hl : RowM.ix c < 6) : c ∈ sg6 := by
  revert c
  decide
theorem sg6_con {c : Nat} (h : c ∈ sg6) : con c ∈ sg6 := by
  revert c
  decide
def goesOn (ps : List (List Nat)) (L k : Nat) (u : List Nat) (c : Nat) : Bool := decide (WalkM.on (RowM.plain u) c ∈ ps) && decide ((ps.length : Int) - (gone (u ++ [c])).length ≤ (L : Int) - k - 1)
def kids (ps : List (List Nat)) (L k : Nat) (u : List Nat) : List (List Nat) := (sg6.filter (goesOn ps L k u)).map fun c => u ++ [c]
def genR (ps : List (List Nat)) (L : Nat) : Nat → List (List Nat)
  | 0 => [[]]
  | k + 1 => (genR ps L k).flatMap (kids ps L k)
theorem mem_kids {L k : Nat} {u t : List Nat} : t ∈ kids ps L k u ↔ ∃ c ∈ sg6, goesOn ps L k u c = true ∧ t = u ++ [c] := by
  unfold kids
  rw [List.mem_map]
  constructor
  · rintro ⟨c, hc, rfl⟩
    obtain ⟨h1, h2⟩ := List.mem_filter.mp hc
    exact ⟨c, h1, h2, rfl⟩
  · rintro ⟨c, h1, h2, rfl⟩
    exact ⟨c, List.mem_filter.mpr ⟨h1, h2⟩, rfl⟩
theorem kids_len (L k : Nat) (u : List Nat) : (kids ps L k u).length ≤ 6 := by
  unfold kids
  rw [List.length_map]
  exact Nat.le_trans (List.length_filter_le _ _) (by decide)
theorem flat_len (f : List Nat → List (List Nat)) (h : ∀ u, (f u).length ≤ 6) : ∀ us : List (List Nat), (us.flatMap f).length ≤ 6 * us.length
  | [] => by simp
  | u :: us => by
    rw [List.flatMap_cons, List.length_append, List.length_cons]
    have := flat_len f h us
    have := h u
    omega
theorem gen_size (L : Nat) : ∀ k, (genR ps L k).length ≤ 6 ^ k
  | 0 => Nat.le_refl _
  | k + 1 => by
    have h1 := flat_len (kids ps L k) (kids_len L k) (genR ps L k)
    have h2 := gen_size L k
    show ((genR ps L k).flatMap (kids ps L k)).length ≤ 6 ^ (k + 1)
    rw [Nat.pow_succ]
    omega
theorem gen_ok (L : Nat) : ∀ k t, t ∈ genR ps L k → t.length = k ∧ (∀ c ∈ t, c ∈ sg6) ∧ ([] ∈ ps → ∀ p ∈ gone t, p ∈ ps)
  | 0, t, h => by
    obtain rfl := List.mem_singleton.mp h
    refine ⟨rfl, (fun c hc => nomatch hc), fun n p hp => ?_⟩
    rw [WalkM.gone_nil] at hp
    rw [List.mem_singleton.mp hp]
    exact n
  | k + 1, t, h => by
    obtain ⟨u, hu, ht⟩ := List.mem_flatMap.mp h
    obtain ⟨c, hc, hg, rfl⟩ := mem_kids.mp ht
    obtain ⟨h1, h2, h3⟩ := gen_ok L k u hu
    unfold goesOn at hg
    rw [Bool.and_eq_true, decide_eq_true_eq] at hg
    refine ⟨by rw [List.length_append, h1]; rfl, fun d hd => ?_, fun n p hp => ?_⟩
    · rcases List.mem_append.mp hd with hd | hd
      · exact h2 d hd
      · rw [List.mem_singleton.mp hd]; exact hc
    · rw [WalkM.gone_snoc] at hp
      rcases WalkM.mem_addK.mp hp with hp | hp
      · exact h3 n p hp
      · rw [hp]; exact hg.1
theorem gone_grow (u : List Nat) : ∀ w : List Nat, (gone (u ++ w)).length ≤ (gone u).length + w.length := by
  refine WalkM.snoc_ind (P := fun w => (gone (u ++ w)).length ≤ (gone u).length + w.length) (by simp) (fun l c ih => ?_)
  rw [← List.append_assoc, WalkM.gone_snoc, List.length_append, List.length_singleton]
  have := WalkM.addK_length (gone (u ++ l)) (WalkM.on (RowM.plain (u ++ l)) c)
  omega
theorem gen_in {t : List Nat} (h6 : ∀ c ∈ t, c ∈ sg6) (hg : ∀ p ∈ gone t, p ∈ ps) (hl : ps.length ≤ (gone t).length) : ∀ i, i ≤ t.length → t.take i ∈ genR ps t.length i
  | 0, _ => by simp [genR]
  | i + 1, h => by
    have hc : t[i]? = some t[i] := List.getElem?_eq_getElem (by omega)
    have et : t.take (i + 1) = t.take i ++ [t[i]] := by rw [List.take_add_one, hc]; rfl
    refine List.mem_flatMap.mpr ⟨t.take i, gen_in h6 hg hl i (by omega), ?_⟩
    rw [et]
    refine mem_kids.mpr ⟨_, h6 _ (List.getElem_mem _), ?_, rfl⟩
    unfold goesOn
    rw [Bool.and_eq_true, decide_eq_true_eq, decide_eq_true_eq, ← et]
    have e2 : t.take (i + 1) ++ t.drop (i + 1) = t := List.take_append_drop _ _
    constructor
    · refine hg _ ?_
      have := gone_sub (t.take (i + 1)) (t.drop (i + 1)) (WalkM.on (RowM.plain (t.take i)) t[i]) (et ▸ gone_snoc_on (t.take i) t[i])
      rwa [e2] at this
    · have := gone_grow (t.take (i + 1)) (t.drop (i + 1))
      rw [e2, List.length_drop] at this
      omega
theorem lexI_app : ∀ {l m : List Nat} (x y : List Nat), l.length = m.length → RowM.lexI l m = true → RowM.lexI (l ++ x) (m ++ y) = true
  | [], [], _, _, _, h => by simp [RowM.lexI] at h
  | a :: l, b :: m, x, y, hl, h => by
    simp only [List.length_cons] at hl
    simp only [RowM.lexI] at h
    simp only [List.cons_append, RowM.lexI]
    by_cases q : a = b
    · rw [if_pos q] at h ⊢
      exact lexI_app x y (by omega) h
    · rw [if_neg q] at h ⊢
      exact h
  | [], _ :: _, _, _, hl, _ => by simp at hl
  | _ :: _, [], _, _, hl, _ => by simp at hl
theorem lexI_same : ∀ (l : List Nat) {x y : Nat}, x < y → RowM.lexI (l ++ [x]) (l ++ [y]) = true
  | [], x, y, h => by
    have : x ≠ y := by omega
    simp [RowM.lexI, this, h]
  | a :: l, x, y, h => by
    simp only [List.cons_append, RowM.lexI, if_true]
    exact lexI_same l h
theorem before_app {l m : List Nat} (x y : List Nat) (hl : l.length = m.length) (hx : x.length = y.length) (h : RowM.before l m = true) : RowM.before (l ++ x) (m ++ y) = true := by
  unfold RowM.before at h ⊢
  rw [if_pos hl] at h
  rw [if_pos (by rw [List.length_append, List.length_append]; omega), List.map_append, List.map_append]
  exact lexI_app _ _ (by rw [List.length_map, List.length_map]; exact hl) h
theorem before_same (l : List Nat) {c d : Nat} (h : RowM.ix c < RowM.ix d) : RowM.before (l ++ [c]) (l ++ [d]) = true := by
  unfold RowM.before
  rw [if_pos (by simp), List.map_append, List.map_append]
  exact lexI_same _ h
theorem sg6_sorted : sg6.Pairwise fun a b => RowM.ix a < RowM.ix b := by decide
theorem gen_sorted (L : Nat) : ∀ k, (genR ps L k).Pairwise fun a b => RowM.before a b = true
  | 0 => List.pairwise_singleton _ _
  | k + 1 => by
    show ((genR ps L k).flatMap (kids ps L k)).Pairwise _
    rw [List.pairwise_flatMap]
    constructor
    · intro u _
      unfold kids
      rw [List.pairwise_map]
      exact (sg6_sorted.filter _).imp fun h => before_same u h
    · refine (gen_sorted L k).imp_of_mem fun {u v} hu hv huv t ht r hr => ?_
      obtain ⟨c, _, _, rfl⟩ := mem_kids.mp ht
      obtain ⟨d, _, _, rfl⟩ := mem_kids.mp hr
      exact before_app _ _ (by rw [(gen_ok L k u hu).1, (gen_ok L k v hv).1]) rfl huv
/-- those that walk the tree to its end -/
def goneR (ps : List (List Nat)) (e : List Nat) (L : Nat) : List (List Nat) := (genR ps L L).filter fun u => decide ((gone u).length = ps.length) && decide (RowM.plain u = e)
theorem nodup_len {l m : List (List Nat)} (nd : l.Nodup) (h : ∀ p ∈ l, p ∈ m) (hl : m.length ≤ l.length) (nm : m.Nodup) : ∀ p, p ∈ l ↔ p ∈ m := by
  intro p
  refine ⟨h p, fun hp => Classical.byContradiction fun hn => ?_⟩
  have h1 : ∀ q ∈ p :: l, q ∈ m := fun q hq => by
    rcases List.mem_cons.mp hq with rfl | hq
    · exact hp
    · exact h q hq
  have h2 : (p :: l).Nodup := List.nodup_cons.mpr ⟨hn, nd⟩
  have h3 : ∀ (a b : List (List Nat)), a.Nodup → (∀ q ∈ a, q ∈ b) → a.length ≤ b.length := by
    intro a
    induction a with
    | nil => intro b _ _; exact Nat.zero_le _
    | cons x a ih =>
      intro b na ha
      obtain ⟨n1, n2⟩ := List.nodup_cons.mp na
      have hx := ha x List.mem_cons_self
      have := ih (b.erase x) n2 fun q hq => (List.mem_erase_of_ne (by intro z; subst z; exact n1 hq)).mpr (ha q (List.mem_cons_of_mem _ hq))
      rw [List.length_erase_of_mem hx] at this
      have := List.length_pos_of_mem hx
      rw [List.length_cons]
      omega
  have := h3 _ _ h2 h1
  rw [List.length_cons] at this
  omega
theorem mem_goneR (T : TrE ps e) {L : Nat} {t : List Nat} (h : t ∈ goneR ps e L) : t.length = L ∧ Row t ∧ RowM.plain t = e ∧ ∀ p, p ∈ gone t ↔ p ∈ ps := by
  obtain ⟨h1, h2⟩ := List.mem_filter.mp h
  rw [Bool.and_eq_true, decide_eq_true_eq, decide_eq_true_eq] at h2
  obtain ⟨g1, g2, g3⟩ := gen_ok L L t h1
  have rt : Row t := fun c hc => sg6_sgns (g2 c hc)
  exact ⟨g1, rt, h2.2, nodup_len (WalkM.tree_gone rt).nd (g3 T.n) (by omega) T.t.nd⟩
/-- none with fewer signs -/
theorem goneR_few (T : TrE ps e) {L : Nat} (h : L < lenS ps e) : goneR ps e L = [] := by
  refine List.eq_nil_iff_forall_not_mem.mpr fun t ht => ?_
  obtain ⟨h1, h2, h3, h4⟩ := mem_goneR T ht
  have h5 := len_lower h2
  have h6 : (gone t).length = ps.length := ((List.perm_ext_iff_of_nodup (WalkM.tree_gone h2).nd T.t.nd).mpr h4).length_eq
  rw [h3, h6, h1] at h5
  unfold lenS at h
  omega
theorem goneR_all (T : TrE ps e) (h6 : ∀ p ∈ ps, ∀ c ∈ p, c ∈ sg6) : goneR ps e (lenS ps e) = (List.range (ways (fun p => (lft ps e p).length) ps)).map (shortR ps e) := by
  have sl : (goneR ps e (lenS ps e)).Pairwise fun a b => RowM.before a b = true := (gen_sorted _ _).filter _
  have sr : ((List.range (ways (fun p => (lft ps e p).length) ps)).map (shortR ps e)).Pairwise fun a b => RowM.before a b = true := by
    rw [List.pairwise_map]
    refine List.pairwise_lt_range.imp_of_mem fun {a b} _ hb hab => short_before T hab (List.mem_range.mp hb)
  have irr : ∀ a b, RowM.before a b = true → a ≠ b := fun a b hab z => by
    subst z
    have := WalkM.before_asymm hab
    rw [hab] at this
    cases this
  refine List.Perm.eq_of_pairwise (le := fun a b => RowM.before a b = true) (fun a b _ _ h1 h2 => ?_) sl sr ((List.perm_ext_iff_of_nodup (sl.imp fun {a b} h => irr a b h) (sr.imp fun {a b} h => irr a b h)).mpr fun t => ?_)
  · have := WalkM.before_asymm h1
    rw [h2] at this
    cases this
  · rw [List.mem_map]
    constructor
    · intro ht
      obtain ⟨h1, h2, h3, h4⟩ := mem_goneR T ht
      obtain ⟨n, hn, rfl⟩ := short_all T h2 h1 h3 h4
      exact ⟨n, List.mem_range.mpr hn, rfl⟩
    · rintro ⟨n, hn, rfl⟩
      obtain ⟨r1, r2, r3, r4⟩ := shortR_ok T (List.mem_range.mp hn)
      have hl : (gone (shortR ps e n)).length = ps.length := ((List.perm_ext_iff_of_nodup (WalkM.tree_gone r1).nd T.t.nd).mpr r4).length_eq
      refine List.mem_filter.mpr ⟨?_, by rw [hl, r3]; simp⟩
      have s6 : ∀ c ∈ shortR ps e n, c ∈ sg6 := by
        have all : ∀ w : List Nat, Row w → (∀ p ∈ gone w, p ∈ ps) → ∀ c ∈ w, c ∈ sg6 := by
          refine WalkM.snoc_ind (P := fun w => Row w → (∀ p ∈ gone w, p ∈ ps) → ∀ c ∈ w, c ∈ sg6) (fun _ _ c hc => nomatch hc) (fun l d ih rw' hg c hc => ?_)
          have hl : ∀ p ∈ gone l, p ∈ ps := fun p hp => hg p (gone_sub _ _ p hp)
          have rl : Row l := fun d hd => rw' d (List.mem_append_left _ hd)
          rcases List.mem_append.mp hc with hc | hc
          · exact ih rl hl c hc
          · rw [List.mem_singleton.mp hc]
            have hd : d ∈ sgns := rw' d (by simp)
            rcases on_two (RowM.plain l) d hd with o | ⟨m, x, e1, _, e2⟩
            · have := hg _ (gone_snoc_on l d)
              rw [o] at this
              exact h6 _ this d (by simp)
            · rw [e2]
              have := hl _ (WalkM.end_gone l)
              rw [e1] at this
              exact sg6_con (h6 _ this x (by simp))
        exact all _ r1 fun p hp => (r4 p).mp hp
      have := gen_in s6 (fun p hp => (r4 p).mp hp) (by omega) (shortR ps e n).length (Nat.le_refl _)
      rwa [List.take_length, r2] at this
/-! how many there can be -/
theorem fct_le5 : ∀ n : Nat, n ≤ 5 → fct n ≤ 5 ^ n := by decide
theorem ways_le5 {f : List Nat → Nat} (h : ∀ q, f q ≤ 5) (qs : List (List Nat)) : ways f qs ≤ 5 ^ (qs.map f).sum := by
  induction qs with
  | nil => exact Nat.le_refl _
  | cons q qs ih =>
    rw [ways_cons, List.map_cons, List.sum_cons, Nat.pow_add]
    exact Nat.mul_le_mul (fct_le5 _ (h q)) ih
theorem ways_few {ps : List (List Nat)} (nd : ps.Nodup) (h : ps.length ≤ 5) (e : List Nat) : ways (fun p => (lft ps e p).length) ps ≤ 3125 := by
  rw [ways_lft]
  have h1 := ways_le5 (f := cnt ps e) (fun q => Nat.le_trans (cnt_le ps e q) h) ps
  have h2 := Nat.le_trans (cnt_sum nd e ps) h
  exact Nat.le_trans h1 (Nat.le_trans (Nat.pow_le_pow_right (by decide) h2) (by decide))
/-- the first places of a tree, in their order, are a tree -/
theorem take_tree {ps : List (List Nat)} (o : Ord ps) {n : Nat} (h : 0 < n) : TreeS (ps.take n) := by
  refine ⟨⟨o.t.t.nd.sublist (List.take_sublist _ _), fun p hp => o.t.t.pr p (List.mem_of_mem_take hp), fun p hp ne => ?_⟩, fun p hp => o.t.z p (List.mem_of_mem_take hp), ?_, ?_⟩
  · obtain ⟨i, hi⟩ := List.getElem?_of_mem hp
    have hin : i < n := by
      have := (List.getElem?_eq_some_iff.mp hi).1
      rw [List.length_take] at this
      omega
    rw [List.getElem?_take_of_lt hin] at hi
    have h1 := ord_parent o hi ne
    have h2 : ps.take i = (ps.take n).take i := by rw [List.take_take, Nat.min_eq_left (by omega)]
    rw [h2] at h1
    exact List.mem_of_mem_take h1
  · rw [List.length_take]
    have := o.t.n0
    omega
  · rw [List.length_take]
    have := o.t.n1
    omega
theorem take_ord {ps : List (List Nat)} (o : Ord ps) {n : Nat} (h : 0 < n) : Ord (ps.take n) := ⟨take_tree o h, o.le.sublist (List.take_sublist _ _)⟩
theorem gone_low {l : List Nat} {d : Nat} (h : ∀ c ∈ l, RowM.ix c < d) : ∀ p ∈ gone l, ∀ c ∈ p, RowM.ix c < d := by
  revert h
  refine WalkM.snoc_ind (P := fun l => (∀ c ∈ l, RowM.ix c < d) → ∀ p ∈ gone l, ∀ c ∈ p, RowM.ix c < d) (fun _ p hp c hc => ?_) (fun l x ih h p hp c hc => ?_) l
  · rw [WalkM.gone_nil] at hp
    rw [List.mem_singleton.mp hp] at hc
    cases hc
  · have ih := ih fun c hc => h c (List.mem_append_left _ hc)
    rw [WalkM.gone_snoc] at hp
    rcases WalkM.mem_addK.mp hp with hp | rfl
    · exact ih p hp c hc
    · unfold WalkM.on at hc
      split at hc
      · exact ih _ (WalkM.end_gone l) c ((List.dropLast_sublist _).subset hc)
      · rcases List.mem_append.mp hc with hc | hc
        · exact ih _ (WalkM.end_gone l) c hc
        · rw [List.mem_singleton.mp hc]
          exact h x (by simp)
end
/-! ### pairs of a row and what it has seen -/
def v2r (x : List Nat × Addr) : List V := [sT x.1, .ref x.2]
structure GP (H : Hp) (ts : List Addr) (xs : List (List Nat × Addr)) : Prop where
  len : ts.length = xs.length
  get : ∀ (i : Nat) (t : Addr), ts[i]? = some t → ∃ u q, xs[i]? = some (u, q) ∧ H t = some (.tup [sT u, .ref q]) ∧ H q = some (.lst ((gone u).map sT))
theorem GP.same {H H' : Hp} {ts : List Addr} {xs : List (List Nat × Addr)} (h : GP H ts xs) (s : Same H H') : GP H' ts xs := ⟨h.len, fun i t hi => let ⟨u, q, a, b, c⟩ := h.get i t hi; ⟨u, q, a, s _ _ b, s _ _ c⟩⟩
theorem GP.nil {H : Hp} : GP H [] [] := ⟨rfl, fun i t h => by simp at h⟩
theorem GP.snoc {H : Hp} {ts : List Addr} {xs : List (List Nat × Addr)} (h : GP H ts xs) {t q : Addr} {u : List Nat} (ht : H t = some (.tup [sT u, .ref q])) (hq : H q = some (.lst ((gone u).map sT))) : GP H (ts ++ [t]) (xs ++ [(u, q)]) := by
  have hl := h.len
  refine ⟨by simp [hl], fun i t' hi => ?_⟩
  by_cases z : i < ts.length
  · rw [List.getElem?_append_left z] at hi
    rw [List.getElem?_append_left (by omega)]
    exact h.get i t' hi
  · have il : i < ts.length + 1 := by
      have := (List.getElem?_eq_some_iff.mp hi).1
      simpa using this
    have ei : i = ts.length := by omega
    subst ei
    rw [List.getElem?_append_right (Nat.le_refl _), Nat.sub_self] at hi
    injection hi with hi
    subst hi
    exact ⟨u, q, by rw [List.getElem?_append_right (by omega), hl]; simp, ht, hq⟩
/-- the list at L changes, the rest stays -/
theorem GP.upd {H : Hp} {ts : List Addr} {xs : List (List Nat × Addr)} {L : Addr} {ys : List Addr} {o : HO} (h : GP H ts xs) (hL : H L = some (.lst (ys.map V.ref))) (ne : ∀ x ∈ xs, x.2 ≠ L) : GP (L2.upd H L o) ts xs := by
  refine ⟨h.len, fun i t hi => ?_⟩
  obtain ⟨u, q, a, b, c⟩ := h.get i t hi
  refine ⟨u, q, a, ?_, ?_⟩
  · rw [upd_ne (fun z => by rw [z, hL] at b; cases b)]
    exact b
  · rw [upd_ne (ne _ (List.mem_of_getElem? a))]
    exact c
theorem sg6_S : (Str.ofString "aAbBcC").cps.toList = sg6 := by decide +kernel
theorem sg6_at {m c : Nat} (h : (Str.ofString "aAbBcC").cps[m]? = some c) : sg6[m]? = some c := by
  rw [← sg6_S, Array.getElem?_toList]
  exact h
theorem take_oneG {α : Type} {xs : List α} {i : Nat} {x : α} (h : xs[i]? = some x) : xs.take (i + 1) = xs.take i ++ [x] := by rw [List.take_add_one, h]; rfl
theorem rep_one_or {α : Type} (b : Bool) (x : α) : (List.replicate (if b = true then (1 : Int) else 0).toNat [x]).flatten = if b then [x] else [] := by cases b <;> rfl
theorem bi_lo (b : Bool) : -(2 ^ 63) ≤ (if b = true then (1 : Int) else 0) := by cases b <;> decide
theorem bi_hi (b : Bool) : (if b = true then (1 : Int) else 0) < 2 ^ 63 := by cases b <;> decide
theorem bi_len {α : Type} (b : Bool) (x : α) : [x].length * (if b = true then (1 : Int) else 0).toNat ≤ sizeLine := by
  cases b
  · exact Nat.zero_le _
  · show 1 ≤ sizeLine
    decide
theorem cutV_to (xs : List V) (k : Nat) : cutV xs none (some (k : Int)) = xs.take k := by
  unfold cutV
  rw [HT.sIx_none, HT.sIx_nat, List.drop_zero, Nat.sub_zero]
  by_cases h : k ≤ xs.length
  · rw [Nat.min_eq_left h]
  · rw [Nat.min_eq_right (by omega), List.take_length, List.take_of_length_le (by omega)]
theorem tre_deep {ps : List (List Nat)} {e : List Nat} (T : TrE ps e) : e.length + 1 ≤ ps.length := by
  obtain ⟨r1, _, r3, r4⟩ := shortR_ok T (ways_pos (fun p => (lft ps e p).length) ps)
  have h := gone_deep (shortR ps e 0) e (by have := WalkM.end_gone (shortR ps e 0); rwa [r3] at this)
  have hl := ((List.perm_ext_iff_of_nodup (WalkM.tree_gone r1).nd T.t.nd).mpr r4).length_eq
  omega

/-- a def that the caller knows: where it stands, how its arguments bind, what it promises -/
def KN (P : Program) (w : World) (K : PySem.W.Frag) (mg : Str → Option Value) (base : Heap) (CX : CXT) (k : Nat) (ps : List Str) (sp : Sp) (x : Str) (dvs : List V) : Prop :=
  ∃ (f : Addr) (fd : FuncData) (ds : List Value), mg x = some (.ref f) ∧ PySem.W.keepIn K (.ref f) = true ∧ Vals dvs ds ∧ Binds K fd ps ds ∧ FnOk P w K mg base CX k f fd ps sp
/-- a method that the caller knows -/
def KM (P : Program) (w : World) (K : PySem.W.Frag) (mg : Str → Option Value) (base : Heap) (CX : CXT) (k : Nat) (ps : List Str) (sp : Sp) (C : Addr) (n : Str) (dvs : List V) : Prop :=
  ∃ (f : Addr) (fd : FuncData) (ds : List Value), PySem.W.findIn K (.ref C) n = some (some (.ref f)) ∧ PySem.W.typeIn K (.ref f) = some (.type "function") ∧ PySem.W.isFn K (.ref f) = true ∧ PySem.W.keepIn K (.ref f) = true ∧ Vals dvs ds ∧ Binds K fd ps ds ∧ FnOk P w K mg base CX k f fd ps sp
/-- such a method, its argument's token out -/
def KMR (P : Program) (w : World) (K : PySem.W.Frag) (mg : Str → Option Value) (base : Heap) (CX : CXT) (k : Nat) (ps : List Str) (sp : Sp) (C : Addr) (n : Str) (dvs : List V) : Prop :=
  ∃ (f : Addr) (fd : FuncData) (ds : List Value), PySem.W.findIn K (.ref C) n = some (some (.ref f)) ∧ PySem.W.typeIn K (.ref f) = some (.type "function") ∧ PySem.W.isFn K (.ref f) = true ∧ PySem.W.keepIn K (.ref f) = true ∧ Vals dvs ds ∧ Binds K fd ps ds ∧ FnRaw P w K mg base CX k f fd ps sp
structure Txt (K : PySem.W.Frag) (mg : Str → Option Value) (C_Rounds : Addr) (C_Walk : Addr) : Prop where
  b_all : mg "all" = none
  b_bool : mg "bool" = none
  b_divmod : mg "divmod" = none
  b_enumerate : mg "enumerate" = none
  b_int : mg "int" = none
  b_isinstance : mg "isinstance" = none
  b_len : mg "len" = none
  b_list : mg "list" = none
  b_max : mg "max" = none
  b_min : mg "min" = none
  b_range : mg "range" = none
  b_sorted : mg "sorted" = none
  b_str : mg "str" = none
  b_tuple : mg "tuple" = none
  g_MOST_PLACES : ∃ u, mg "MOST_PLACES" = some u ∧ RelV (.int 61) u
  g_MOST_SIGNS : ∃ u, mg "MOST_SIGNS" = some u ∧ RelV (.int 60) u
  g_SIGNS : ∃ u, mg "SIGNS" = some u ∧ RelV (.str "aAbBcCdDeEfF") u
  y_Rounds_own_end : PySem.W.findIn K (.ref C_Rounds) "own_end" = some none
  y_Rounds_own_here : PySem.W.findIn K (.ref C_Rounds) "own_here" = some none
  y_Rounds_own_left : PySem.W.findIn K (.ref C_Rounds) "own_left" = some none
  y_Walk_own_end : PySem.W.findIn K (.ref C_Walk) "own_end" = some none
  y_Walk_own_places : PySem.W.findIn K (.ref C_Walk) "own_places" = some none
  o_Rounds : OwnK K mg "Rounds" C_Rounds
  o_Walk : OwnK K mg "Walk" C_Walk
def sp_law_pool (K : PySem.W.Frag) : Sp := fun vs H Q E => ∃ (a : Addr) (ns : List Int) (i : Int), vs = [.ref a, .int i] ∧ (SqL K H a (ns.map V.int)) ∧ (0 ≤ i) ∧ (i < 1000) ∧ ∀ (p : Addr) (H' : Hp), H p = none → Same H H' → Pool H' p → Q (.ref p) H'
def sp_law_turned : Sp := fun vs H Q E => ∃ (l : List Nat), vs = [.str (S l)] ∧ (Row l) ∧ (l.length ≤ 40000) ∧ ∀ H' : Hp, Same H H' → Q (.str (S (RowM.turn l))) H'
def sp_law_plain : Sp := fun vs H Q E => ∃ (l : List Nat), vs = [.str (S l)] ∧ (Row l) ∧ (l.length ≤ 40000) ∧ ∀ H' : Hp, Same H H' → Q (.str (S (RowM.plain l))) H'
def sp_law_rank : Sp := fun vs H Q E => ∃ (l : List Nat), vs = [.str (S l)] ∧ (Row l) ∧ (l.length ≤ 40000) ∧ ∀ (t q : Addr) (H' : Hp), Same H H' → H t = none → H' t = some (.tup [.int l.length, .ref q]) → H' q = some (.lst (l.map fun c => V.int (ix c : Nat))) → Q (.ref t) H'
def sp_law_places (K : PySem.W.Frag) : Sp := fun vs H Q E => ∃ (l : List Nat), vs = [.str (S l)] ∧ (Row l) ∧ (l.length ≤ 60) ∧ ∀ (q : Addr) (H' : Hp), Same H H' → H q = none → H' q = some (.lst ((srt (gone l)).map sT)) → Q (.ref q) H'
def sp_law_take : Sp := fun vs H Q E => ∃ (p : Addr) (m : Int), vs = [.ref p, .int m] ∧ (Pool H p) ∧ (0 < m) ∧ (m < 18446744073709551616) ∧ ∀ (v : Int) (H' : Hp), 0 ≤ v → v < m → Off p H H' → Pool H' p → Q (.int v) H'
def sp_law_row : Sp := fun vs H Q E => ∃ (p : Addr) (most deeds : Int), vs = [.ref p, .int most, .int deeds] ∧ (Pool H p) ∧ (0 ≤ most) ∧ (most ≤ 1000) ∧ (1 ≤ deeds) ∧ (deeds ≤ 6) ∧ ∀ (l : List Nat) (H' : Hp), Row l → (l.length : Int) ≤ most → (∀ c ∈ l, (ix c : Int) < 2 * deeds) → Off p H H' → Pool H' p → Q (.str (S l)) H'
def sp_is_row_within : Sp := fun vs H Q E => ∃ (l : List Nat) (most : Int), vs = [.str (S l), .int most] ∧ (l.length ≤ 40000) ∧ ∀ H' : Hp, Same H H' → Q (.bl (decide ((l.length : Int) ≤ most) && l.all fun c => decide (c ∈ sgns))) H'
def sp_is_row : Sp := fun vs H Q E => ∃ (l : List Nat), vs = [.str (S l)] ∧ (l.length ≤ 40000) ∧ ∀ H' : Hp, Same H H' → Q (.bl (isRow l)) H'
def sp_contrary_sign : Sp := fun vs H Q E => ∃ (c : Nat), vs = [.str (S [c])] ∧ (c ∈ sgns) ∧ ∀ H' : Hp, Same H H' → Q (.str (S [con c])) H'
def sp_made_plain : Sp := fun vs H Q E => ∃ (l : List Nat), vs = [.str (S l)] ∧ (Row l) ∧ (l.length ≤ 40000) ∧ ∀ H' : Hp, Same H H' → Q (.str (S (RowM.plain l))) H'
def sp_is_plain_row : Sp := fun vs H Q E => ∃ (l : List Nat), vs = [.str (S l)] ∧ (isRow l = true) ∧ ∀ H' : Hp, Same H H' → Q (.bl (decide (RowM.plain l = l))) H'
def sp_first_wrong (K : PySem.W.Frag) : Sp := fun vs H Q E => ∃ (q : Addr) (ts : List (List Nat)), vs = [.ref q] ∧ (SqL K H q (ts.map sT)) ∧ (TreeS ts) ∧ ∀ H' : Hp, Same H H' → Q .non H'
def sp_rank : Sp := fun vs H Q E => ∃ (l : List Nat), vs = [.str (S l)] ∧ (Row l) ∧ (l.length ≤ 40000) ∧ ∀ (t q : Addr) (H' : Hp), Same H H' → H t = none → H' t = some (.tup [.int l.length, .ref q]) → H' q = some (.lst (l.map fun c => V.int (ix c : Nat))) → Q (.ref t) H'
def sp_Walk___init__ (K : PySem.W.Frag) (C_Walk : Addr) : Sp := fun vs H Q E => ∃ (a dx q : Addr) (ts : List (List Nat)) (e : List Nat), vs = [.ref a, .ref q, .str (S e)] ∧ (H a = some (.ins C_Walk dx [])) ∧ (H q = some (.lst (ts.map sT))) ∧ (TreeS ts) ∧ (e ∈ ts) ∧ ∀ (p : Addr) (H' : Hp), Off a H H' → H p = none → WkAt C_Walk H' a p (srt ts) e → Q .non H'
def sp_Walk___len__ (C_Walk : Addr) : Sp := fun vs H Q E => ∃ (a q : Addr) (ps : List (List Nat)) (e : List Nat), vs = [.ref a] ∧ (WkAt C_Walk H a q ps e) ∧ (ps.length ≤ 61) ∧ ∀ H' : Hp, Same H H' → Q (.int ps.length) H'
def sp_Walk_end (C_Walk : Addr) : Sp := fun vs H Q E => ∃ (a q : Addr) (ps : List (List Nat)) (e : List Nat), vs = [.ref a] ∧ (WkAt C_Walk H a q ps e) ∧ ∀ H' : Hp, Same H H' → Q (.str (S e)) H'
def sp_signs_many (C_Walk : Addr) : Sp := fun vs H Q E => ∃ (a q : Addr) (ps : List (List Nat)) (e : List Nat), vs = [.ref a] ∧ (WkAt C_Walk H a q ps e) ∧ (ps.length ≤ 61) ∧ (e.length ≤ 60) ∧ ∀ H' : Hp, Same H H' → Q (.int (2 * ((ps.length : Int) - 1) - e.length)) H'
def sp_law_gone (K : PySem.W.Frag) : Sp := fun vs H Q E => ∃ (q : Addr) (ps : List (List Nat)) (e : List Nat) (n : Nat), vs = [.ref q, .str (S e), .int (n : Int)] ∧ (H q = some (.lst (ps.map sT))) ∧ (n ≤ 8) ∧ (ps.length ≤ 5) ∧ (e.length ≤ 60) ∧ ([] ∈ ps) ∧ ∀ (r : Addr) (H' : Hp), Same H H' → H r = none → H' r = some (.lst ((goneR ps e n).map sT)) → Q (.ref r) H'
def sp_Walk_places (C_Walk : Addr) : Sp := fun vs H Q E => ∃ (a q : Addr) (ps : List (List Nat)) (e : List Nat), vs = [.ref a] ∧ (WkAt C_Walk H a q ps e) ∧ ∀ (p : Addr) (H' : Hp), Same H H' → H p = none → H' p = some (.lst (ps.map sT)) → Q (.ref p) H'
def sp_Rounds___init__ (K : PySem.W.Frag) (C_Rounds : Addr) (C_Walk : Addr) : Sp := fun vs H Q E => ∃ (a dx w q : Addr) (ps : List (List Nat)) (e : List Nat), vs = [.ref a, .ref w] ∧ (H a = some (.ins C_Rounds dx [])) ∧ (WkAt C_Walk H w q ps e) ∧ (Ord ps) ∧ (isRow e = true) ∧ (w ≠ a) ∧ (q ≠ a) ∧ ∀ (d : Addr) (H' : Hp), Off a H H' → H d = none → RdAt C_Rounds H' a d ps e (lft ps e) → Q .non H'
def sp_Rounds_rest_many (K : PySem.W.Frag) (C_Rounds : Addr) : Sp := fun vs H Q E => ∃ (a d : Addr) (ps : List (List Nat)) (e : List Nat) (g : List Nat → List Nat), vs = [.ref a] ∧ (RdAt C_Rounds H a d ps e g) ∧ (∀ p ∈ ps, (g p).length ≤ 61) ∧ ∀ H' : Hp, Same H H' → Q (.int (ways (fun p => (g p).length) ps : Nat)) H'
def sp_shortest_many (K : PySem.W.Frag) (C_Rounds : Addr) (C_Walk : Addr) : Sp := fun vs H Q E => ∃ (w q : Addr) (ps : List (List Nat)) (e : List Nat), vs = [.ref w] ∧ (WkAt C_Walk H w q ps e) ∧ (Ord ps) ∧ (isRow e = true) ∧ ∀ H' : Hp, Same H H' → Q (.int (ways (cnt ps e) ps : Nat)) H'
def sp_is_whole : Sp := fun vs H Q E => ∃ (i : Int), vs = [.int i] ∧ ∀ H' : Hp, Same H H' → Q (.bl true) H'
def sp_Rounds_home (C_Rounds : Addr) : Sp := fun vs H Q E => ∃ (a d : Addr) (ps : List (List Nat)) (e h : List Nat) (g : List Nat → List Nat), vs = [.ref a] ∧ (RdH C_Rounds H a d ps e h g) ∧ (Row h) ∧ (h.length ≤ 60) ∧ (e.length ≤ 60) ∧ ∀ H' : Hp, Same H H' → Q (.str (S (homeS e h))) H'
def sp_Rounds_choices (C_Rounds : Addr) : Sp := fun vs H Q E => ∃ (a d : Addr) (ps : List (List Nat)) (e h : List Nat) (g : List Nat → List Nat), vs = [.ref a] ∧ (RdH C_Rounds H a d ps e h g) ∧ (h ∈ ps) ∧ (Row h) ∧ (h.length ≤ 60) ∧ (e.length ≤ 60) ∧ ((g h).length ≤ 61) ∧ ∀ H' : Hp, Same H H' → Q (.str (S (if g h = [] then homeS e h else g h))) H'
def sp_Rounds_go_on (C_Rounds : Addr) : Sp := fun vs H Q E => ∃ (a d : Addr) (ps : List (List Nat)) (e h : List Nat) (g : List Nat → List Nat) (c : Nat), vs = [.ref a, .str (S [c])] ∧ (RdH C_Rounds H a d ps e h g) ∧ (h ∈ ps) ∧ (Row h) ∧ (c ∈ sgns) ∧ (h.length ≤ 60) ∧ (ps.length ≤ 61) ∧ ((g h).length ≤ 61) ∧ ∀ H' : Hp, (∀ b o, b ≠ a → b ≠ d → H b = some o → H' b = some o) → RdH C_Rounds H' a d ps e (RowM.plain (h ++ [c])) (setF g h ((g h).filter fun x => decide (x ≠ c))) → Q .non H'
def sp_shortest_at (K : PySem.W.Frag) (C_Rounds : Addr) (C_Walk : Addr) : Sp := fun vs H Q E => ∃ (w q : Addr) (ps : List (List Nat)) (e : List Nat) (n : Nat), vs = [.ref w, .int (n : Int)] ∧ (WkAt C_Walk H w q ps e) ∧ (Ord ps) ∧ (e ∈ ps) ∧ (n < ways (fun p => (lft ps e p).length) ps) ∧ ∀ H' : Hp, Same H H' → Q (.str (S (shortR ps e n))) H'
def sp_law (K : PySem.W.Frag) : Sp := fun vs H Q E => ∃ (a : Addr) (ns : List Int), vs = [.ref a] ∧ (SqL K H a (ns.map V.int)) ∧ (ns.length ≤ 63) ∧ ∀ H', Q (.bl true) H'
section
variable {P : Program} {w : World} {K : PySem.W.Frag} {mg : Str → Option Value} {base : Heap} {C_Rounds : Addr} {C_Walk : Addr}
theorem sc_law_pool : FnScope ["_law_script", "_law_k", "_law_cell", "_law_number"] ["_law_script", "_law_k"] (defScope s_law_pool) := ⟨rfl, rfl, rfl, by decide +kernel, rfl, by decide +kernel, by decide +kernel⟩
theorem ok_law_pool {f : Addr} {fd : FuncData} (F : Fun K "_law_pool" "_law_pool" s_law_pool f fd) (T : Txt K mg C_Rounds C_Walk) : FnOk P w K mg base CX0 1 f fd ["_law_script", "_law_k"] (sp_law_pool K) := by
  refine F.ok sc_law_pool (fun vs H Q E h => ?_) (fun cdv A outer s H vs Q E hr h => ?_)
  · obtain ⟨a, ns, i, rfl, _⟩ := h
    all_goals rfl
  · obtain ⟨a, ns, i, rfl, ha, h0, h1, k⟩ := h
    refine ⟨_, (pss_cons (ps_set (i := 2) sc_law_pool.nd rfl (Or.inl rfl) pe_int)
    (pss_cons (ps_if (pt_cmpR op_lt (pv 1) (pe_callB (call_lenK (K := K)) (by rfl) T.b_len (by decide +kernel) (pa_cons (pv 0) pa_nil)) (nomark _)) (pss_one (ps_set (i := 2) sc_law_pool.nd rfl (Or.inl rfl) (pe_ix (ix_listK (K := K)) (pv 0) (pv 1) (fun _ _ => rfl)))) pss_nil)
    (pss_cons (ps_set (i := 3) sc_law_pool.nd rfl (Or.inl rfl) (pe_op op_mod (pe_op op_pow (pe_op op_add (pe_op op_add (pe_op op_mod (pv 2) pe_int) (pe_op op_mul (pe_op op_mul pe_int (pv 1)) (pv 1))) pe_int) pe_int) pe_int))
    (pss_cons (ps_if (pt_cmpR op_lt (pv 2) (pe_op op_pow pe_int pe_int) (nomark _)) (pss_one (ps_set (i := 2) sc_law_pool.nd rfl (Or.inl rfl) pe_int)) pss_nil)
    (pss_one (ps_ret (pe_lst (pa_cons (pv 2) (pa_cons (pv 3) pa_nil))))))))), ?_⟩
    have go : ∀ c : Int, tSeq (tAsg (tOp (rI (fun x j => 0 < j) fun i j => V.int (i % j))
                (tOp (rI CPow fun i j => V.int (i ^ j.toNat))
                  (tOp (rI0 fun i j => V.int (i + j))
                    (tOp (rI0 fun i j => V.int (i + j))
                      (tOp (rI (fun x j => 0 < j) fun i j => V.int (i % j)) (tVar 2) (tC (V.int 2147483629)))
                      (tOp (rI CMul fun i j => V.int (i * j))
                        (tOp (rI CMul fun i j => V.int (i * j)) (tC (V.int 104729)) (tVar 1)) (tVar 1)))
                    (tC (V.int 11)))
                  (tC (V.int 3)))
                (tC (V.int 2147483647)))
              (gName 3))
            (tSeq
              (tIfS
                (tTest
                  (tOp (rI0 fun i j => V.bl (decide (i < j))) (tVar 2)
                    (tOp (rI CPow fun i j => V.int (i ^ j.toNat)) (tC (V.int 10)) (tC (V.int 18)))))
                (tAsg (tC (V.int 0)) (gName 2)) tNext)
              (tRet (tLst (tCons (tVar 2) (tCons (tVar 3) tNil))))) { nx := fun x H' => Q V.non H', rt := Q } [some (.ref a), some (.int i), some (.int c), none] H := fun c => by
        have z0 : 0 ≤ c % 2147483629 := Int.emod_nonneg _ (by decide)
        have z1 : c % 2147483629 < 2147483629 := Int.emod_lt_of_pos _ (by decide)
        have m0 : 0 ≤ i * i := Int.mul_nonneg h0 h0
        have m1 : i * i < 1000000 := by
          have : i * i ≤ 999 * 999 := Int.mul_le_mul (by omega) (by omega) h0 (by decide)
          omega
        have ea : 104729 * i * i = 104729 * (i * i) := Int.mul_assoc _ _ _
        refine ⟨_, rfl, _, _, rfl, rfl, (by show (0 : Int) < 2147483629; decide), _, rfl, _, _, rfl, rfl, .inl ⟨by decide, by decide⟩, _, rfl, _, _, rfl, rfl, .inr ⟨by omega, by omega⟩, _, _, rfl, rfl, _, _, rfl, rfl, _, _, rfl, rfl, ⟨by decide, by decide, by omega⟩, _, _, rfl, rfl, (by show (0 : Int) < 2147483647; decide), ?_⟩
        have y0 : 0 ≤ ((c % 2147483629 + 104729 * i * i + 11) ^ (3 : Int).toNat) % 2147483647 := Int.emod_nonneg _ (by decide)
        have y1 : ((c % 2147483629 + 104729 * i * i + 11) ^ (3 : Int).toNat) % 2147483647 < 2147483647 := Int.emod_lt_of_pos _ (by decide)
        refine ⟨_, rfl, _, _, rfl, rfl, ⟨by decide, by decide, by decide⟩, _, _, rfl, rfl, _, rfl, ?_⟩
        refine ite2 (fun _ => ?_) (fun _ => ?_)
        · exact ⟨_, rfl, _, rfl, (by show 2 ≤ sizeLine; decide), fun p hp => k p _ hp (Same.new hp) ⟨_, _, upd_same, y0, y1⟩⟩
        · exact ⟨_, rfl, _, rfl, (by show 2 ≤ sizeLine; decide), fun p hp => k p _ hp (Same.new hp) ⟨_, _, upd_same, y0, y1⟩⟩
    refine ⟨_, rfl, _, rfl, _, _, rfl, .inl ha, _, _, rfl, rfl, _, rfl, ?_⟩
    refine ite2 (fun q => ?_) (fun _ => go 0)
    have hl : i < (ns.length : Int) := by
      have q := of_decide_eq_true q
      rw [List.length_map] at q
      exact q
    obtain ⟨j, rfl⟩ : ∃ j : Nat, i = (j : Int) := ⟨i.toNat, by omega⟩
    have hj : j < ns.length := by omega
    refine ⟨_, rfl, _, rfl, _, _, _, _, rfl, rfl, ha, atI_nat (by rw [List.getElem?_map, List.getElem?_eq_getElem hj]; rfl), go _⟩
theorem sc_law_turned : FnScope ["_law_text", "_law_sign"] ["_law_text"] (defScope s_law_turned) := ⟨rfl, rfl, rfl, by decide +kernel, rfl, by decide +kernel, by decide +kernel⟩
theorem ok_law_turned {f : Addr} {fd : FuncData} (F : Fun K "_law_turned" "_law_turned" s_law_turned f fd) (T : Txt K mg C_Rounds C_Walk) : FnOk P w K mg base CX0 1 f fd ["_law_text"] (sp_law_turned) := by
  refine F.ok sc_law_turned (fun vs H Q E h => ?_) (fun cdv A outer s H vs Q E hr h => ?_)
  · obtain ⟨l, rfl, _⟩ := h
    all_goals rfl
  · obtain ⟨l, rfl, hl, hz, k⟩ := h
    refine ⟨_, (pss_one (ps_ret (pe_m1 PySem.F.slot_str_join PySem.F.type_str_join (mt_joinK (K := K)) pe_str (pe_lc (own := [("_law_sign", 1)]) (g := gName 1) (tt := tYes) rfl sc_law_turned.nd (pi_str (pe_revS (pv 0))) (blkOk_by (own := [("_law_sign", 1)]) (N := ["_law_text", "_law_sign"]) (sc := defScope s_law_turned) (by decide +kernel)) (fun _ _ _ _ _ => (pg_name (i := 1) sc_law_turned.nd rfl (Or.inl rfl))) (fun _ _ _ _ _ => pts_nil) (fun _ _ _ _ _ => (pe_ix (ix_listK (K := K)) (pe_lst (pa_cons (pe_upper (pv 1)) (pa_cons (pe_lower (pv 1)) pa_nil))) (pe_callTy call_int1 (by rfl) T.b_int (by decide +kernel) (pa_cons (pe_m0 PySem.F.slot_str_isupper PySem.F.type_str_isupper mt_isupper (pv 1)) pa_nil)) (fun _ _ => rfl))))))), ?_⟩
    refine Evl.s_ret (Evl.ev_is (ev_joinMap con Evl.ev_c (by decide) (Evl.ev_revS (Evl.ev_var rfl) (by rw [len_S]; omega)) (by show (S l.reverse).length ≤ _; rw [len_S, List.length_reverse]; omega) (fun _ => rfl) (fun c H1 e hc => ?_)) rfl) fun H1 e => k H1 e
    have hc : c ∈ sgns := hl c (List.mem_reverse.mp hc)
    exact Evl.ev_ixNew (Evl.el_lst (Evl.ea_cons (Evl.ev_m0 (Evl.ev_var rfl) one_le) (Evl.ea_cons (Evl.ev_m0 (Evl.ev_var rfl) one_le) Evl.ea_nil)) (by show 2 ≤ _; decide)) (fun H1 e => Evl.ev_intB (Evl.ev_m0 (Evl.ev_var rfl) trivial)) (at_turn hc)
theorem sc_law_plain : FnScope ["_law_text", "_law_found", "_law_sign"] ["_law_text"] (defScope s_law_plain) := ⟨rfl, rfl, rfl, by decide +kernel, rfl, by decide +kernel, by decide +kernel⟩
theorem ok_law_plain {f : Addr} {fd : FuncData} (F : Fun K "_law_plain" "_law_plain" s_law_plain f fd) (T : Txt K mg C_Rounds C_Walk) (kn_law_turned : KN P w K mg base CX0 1 ["_law_text"] (sp_law_turned) "_law_turned" []) : FnOk P w K mg base CX0 2 f fd ["_law_text"] (sp_law_plain) := by
  obtain ⟨f_law_turned, fd_law_turned, ds_law_turned, m_law_turned, k_law_turned, v_law_turned, b_law_turned, G_law_turned⟩ := kn_law_turned
  refine F.ok sc_law_plain (fun vs H Q E h => ?_) (fun cdv A outer s H vs Q E hr h => ?_)
  · obtain ⟨l, rfl, _⟩ := h
    all_goals rfl
  · obtain ⟨l, rfl, hl, hz, k⟩ := h
    refine ⟨_, (pss_cons (ps_set (i := 1) sc_law_plain.nd rfl (Or.inl rfl) pe_str)
    (pss_cons (ps_for PassesOwn.never rfl (pi_str (pv 0)) (pg_name (i := 2) sc_law_plain.nd rfl (Or.inl rfl)) (pss_one (ps_if (PW.pt (pw_and (pt_cmpR op_ne (pv 1) pe_str (nomark _)) (pw_and1 (pt_cmpR op_eq (pe_ix ix_str (pv 1) (pe_un un_neg pe_int) (fun _ _ => rfl)) (pe_call G_law_turned (hr.mono (by decide)) rfl m_law_turned k_law_turned b_law_turned v_law_turned pass0 (pa_cons (pv 2) pa_nil)) (nomark _))))) (pss_one (ps_set (i := 1) sc_law_plain.nd rfl (Or.inl rfl) (pe_slice sl_str (pv 1) po_none (po_some (pe_un un_neg pe_int))))) (pss_one (ps_set (i := 1) sc_law_plain.nd rfl (Or.inl rfl) (pe_op op_add_str (pv 1) (pv 2)))))))
    (pss_one (ps_ret (pv 1))))), ?_⟩
    refine ⟨_, rfl, _, rfl, for_it walk_str (fun i σ H' => ∃ x, σ = [some (.str (S l)), some (.str (S (RowM.plain (l.take i)))), x] ∧ Same H H') ⟨_, rfl, Same.refl H⟩ (fun _ _ _ _ _ => trivial) ?_ ?_⟩
    · rintro i v σ H3 H4 hi ⟨x, rfl, s3⟩ ⟨rfl, c, hc, rfl⟩
      have hc' : l[i]? = some c := by simpa using hc
      have sc : c ∈ sgns := hl c (List.mem_of_getElem? hc')
      have em := made_on hc'
      have pz : (RowM.plain (l.take i)).length ≤ 40000 := Nat.le_trans (RowM.plain_length _) (by rw [List.length_take]; omega)
      obtain ⟨p, ep⟩ : ∃ p, p = RowM.plain (l.take i) := ⟨_, rfl⟩
      rw [← ep] at em pz ⊢
      refine ⟨_, rfl, rfl, _, rfl, ?_⟩
      by_cases e : p = []
      · subst e
        refine iteF (iteF ⟨_, rfl, _, rfl, _, _, rfl, rfl, by show 0 + 1 ≤ sizeLine; decide, ?_⟩)
        exact ⟨_, by rw [em]; rfl, s3⟩
      · rw [ne_nil e]
        obtain ⟨m, d, rfl⟩ := exists_snoc e
        refine iteT ⟨_, rfl, _, rfl, _, _, d, rfl, rfl, sz_of' (by rw [len_S]; omega), at_last, ?_⟩
        refine ⟨_, rfl, [c], rfl, (fun x hx => by rw [List.mem_singleton.mp hx]; exact sc), by show 1 ≤ 40000; decide, fun H1 s1 => ⟨rfl, _, rfl, ?_⟩⟩
        rw [turn_one, dec_str]
        by_cases q : d = con c
        · subst q
          rw [decide_eq_true rfl]
          refine iteT ⟨_, rfl, _, rfl, _, rfl, _, rfl, sz_of' (by rw [len_S]; omega), ?_⟩
          rw [cut_last]
          rw [on_snoc] at em
          exact ⟨_, by rw [em]; rfl, Same.trans s3 s1⟩
        · rw [decide_eq_false (fun h => q (by injection h))]
          rw [on_else (fun h => q (by simpa using h))] at em
          refine iteF ⟨_, rfl, _, rfl, _, _, rfl, rfl, sz_of' (by rw [len_S]; show _ + 1 ≤ _; omega), ?_⟩
          have ea : S (m ++ [d]) ++ (⟨#[c]⟩ : Str) = S (m ++ [d] ++ [c]) := add_S (m ++ [d]) [c]
          rw [ea]
          exact ⟨_, by rw [em]; rfl, Same.trans s3 s1⟩
    rintro σ H3 ⟨x, rfl, s3⟩
    have et : l.take (S l).cps.size = l := by
      have : (S l).cps.size = l.length := len_S l
      rw [this, List.take_length]
    rw [et]
    exact ⟨_, rfl, k H3 s3⟩
theorem sc_law_rank : FnScope ["_law_text", "_law_sign"] ["_law_text"] (defScope s_law_rank) := ⟨rfl, rfl, rfl, by decide +kernel, rfl, by decide +kernel, by decide +kernel⟩
theorem ok_law_rank {f : Addr} {fd : FuncData} (F : Fun K "_law_rank" "_law_rank" s_law_rank f fd) (T : Txt K mg C_Rounds C_Walk) : FnOk P w K mg base CX0 1 f fd ["_law_text"] (sp_law_rank) := by
  refine F.ok sc_law_rank (fun vs H Q E h => ?_) (fun cdv A outer s H vs Q E hr h => ?_)
  · obtain ⟨l, rfl, _⟩ := h
    all_goals rfl
  · obtain ⟨l, rfl, hl, hz, k⟩ := h
    refine ⟨_, (pss_one (ps_ret (pe_tup (pa_cons (pe_callB call_len_str (by rfl) T.b_len (by decide +kernel) (pa_cons (pv 0) pa_nil)) (pa_cons (pe_lc (own := [("_law_sign", 1)]) (g := gName 1) (tt := tYes) rfl sc_law_rank.nd (pi_str (pv 0)) (blkOk_by (own := [("_law_sign", 1)]) (N := ["_law_text", "_law_sign"]) (sc := defScope s_law_rank) (by decide +kernel)) (fun _ _ _ _ _ => (pg_name (i := 1) sc_law_rank.nd rfl (Or.inl rfl))) (fun _ _ _ _ _ => pts_nil) (fun _ _ _ _ _ => (pe_m1 PySem.F.slot_str_index PySem.F.type_str_index mt_sindex pe_str (pv 1)))) pa_nil))))), ?_⟩
    refine ⟨_, rfl, _, rfl, by rw [len_S]; exact sz_of' (by omega), ?_⟩
    refine Evl.el_mapS (fun c => .int (ix c : Nat)) (Evl.ev_var rfl) (by rw [len_S]; omega) (fun _ => rfl) (fun c H1 e hc => ?_) H (Evl.Ex.refl H) _ fun q H1 nq e1 hq => ?_
    · obtain ⟨r, hr⟩ := six1 c (hl c hc)
      exact fun H2 e2 Q q => ⟨⟨_, rfl⟩, _, rfl, _, S [c], ix c, r, rfl, rfl, hr, q H2 (Evl.Ex.refl H2)⟩
    · refine ⟨by show 2 ≤ sizeLine; decide, fun t ht => ?_⟩
      rw [len_S]
      exact k t q _ (Same.trans e1 (Same.new ht)) (Same.free e1 ht) upd_same (by rw [upd_ne (ne_of_none hq ht)]; exact hq)
theorem sc_law_places : FnScope ["_law_text", "_law_here", "_law_found", "_law_sign"] ["_law_text"] (defScope s_law_places) := ⟨rfl, rfl, rfl, by decide +kernel, rfl, by decide +kernel, by decide +kernel⟩
theorem ok_law_places {f : Addr} {fd : FuncData} (F : Fun K "_law_places" "_law_places" s_law_places f fd) (T : Txt K mg C_Rounds C_Walk) (kn_law_plain : KN P w K mg base CX0 2 ["_law_text"] (sp_law_plain) "_law_plain" []) (kn_law_rank : KN P w K mg base CX0 1 ["_law_text"] (sp_law_rank) "_law_rank" []) : FnOk P w K mg base CX0 4 f fd ["_law_text"] (sp_law_places K) := by
  obtain ⟨f_law_plain, fd_law_plain, ds_law_plain, m_law_plain, k_law_plain, v_law_plain, b_law_plain, G_law_plain⟩ := kn_law_plain
  obtain ⟨f_law_rank, fd_law_rank, ds_law_rank, m_law_rank, k_law_rank, v_law_rank, b_law_rank, G_law_rank⟩ := kn_law_rank
  refine F.ok sc_law_places (fun vs H Q E h => ?_) (fun cdv A outer s H vs Q E hr h => ?_)
  · obtain ⟨l, rfl, _⟩ := h
    all_goals rfl
  · obtain ⟨l, rfl, hl, hz, k⟩ := h
    refine ⟨_, (pss_cons (ps_set (i := 1) sc_law_places.nd rfl (Or.inl rfl) pe_str)
    (pss_cons (ps_set (i := 2) sc_law_places.nd rfl (Or.inl rfl) (pe_lst (pa_cons pe_str pa_nil)))
    (pss_cons (ps_for PassesOwn.never rfl (pi_str (pv 0)) (pg_name (i := 3) sc_law_places.nd rfl (Or.inl rfl)) (pss_cons (ps_set (i := 1) sc_law_places.nd rfl (Or.inl rfl) (pe_call G_law_plain (hr.mono (by decide)) rfl m_law_plain k_law_plain b_law_plain v_law_plain pass0 (pa_cons (pe_op op_add_str (pv 1) (pv 3)) pa_nil)))
    (pss_one (ps_if (pt_cmpR (op_notInK (K := K)) (pv 1) (pv 2) (by rfl)) (pss_one (ps_expr (pe_bm PySem.F.plainAttrs_list PySem.F.slot_list_append PySem.F.type_list_append mt_append (pv 2) (pa_cons (pv 1) pa_nil)))) pss_nil))))
    (pss_one (ps_ret (pe_callBK (call_sortF (K := K) G_law_rank (hr.mono (by decide)) b_law_rank v_law_rank) (by rfl) T.b_sorted (by decide +kernel) (pa_cons (pv 2) pa_nil) (pk_cons (pe_glob (v := .ref f_law_rank) rfl m_law_rank rfl) pk_nil))))))), ?_⟩
    refine ⟨by show 1 ≤ sizeLine; decide, fun q hq => ?_⟩
    refine ⟨_, rfl, _, rfl, for_it walk_str (fun i σ H' => ∃ x, σ = [some (.str (S l)), some (.str (S (RowM.plain (l.take i)))), some (.ref q), x] ∧ Same H H' ∧ H' q = some (.lst ((gone (l.take i)).map sT))) ⟨_, rfl, Same.new hq, upd_same⟩ (fun _ _ _ _ _ => trivial) ?_ ?_⟩
    · rintro i v σ H3 H4 hi ⟨x, rfl, s3, g3⟩ ⟨rfl, c, hc, rfl⟩
      have hc' : l[i]? = some c := by simpa using hc
      have sc : c ∈ sgns := hl c (List.mem_of_getElem? hc')
      have em := made_on hc'
      have rt : Row (l.take i) := fun c h => hl c (List.mem_of_mem_take h)
      have rp := RowM.plain_row rt
      have pz : (RowM.plain (l.take i)).length ≤ 60 := Nat.le_trans (RowM.plain_length _) (by rw [List.length_take]; omega)
      have eg : gone (l.take (i + 1)) = addK (gone (l.take i)) (RowM.plain (l.take (i + 1))) := by
        rw [em, List.take_add_one, hc']
        exact WalkM.gone_snoc _ _
      have zg : (gone (l.take i)).length ≤ 61 := Nat.le_trans (WalkM.gone_length _) (by rw [List.length_take]; omega)
      refine ⟨_, rfl, _, rfl, _, _, rfl, rfl, sz_str (m := [c]) (by omega) (by simp), RowM.plain (l.take i) ++ [c], by rw [show S (RowM.plain (l.take i)) ++ (⟨#[c]⟩ : Str) = S (RowM.plain (l.take i) ++ [c]) from add_S _ _]; rfl, row_snoc rp sc, by rw [List.length_append]; show _ + 1 ≤ _; omega, fun H5 s5 => ?_⟩
      rw [WalkM.on_plain c (WalkM.prow_plain rt), ← em]
      have g5 := s5 _ _ g3
      refine ⟨_, rfl, _, rfl, q, _, rfl, .inl (SqL.of g5), rfl, flat_T _, _, rfl, ?_⟩
      have ein : inV (.str (S (RowM.plain (l.take (i + 1))))) ((gone (l.take i)).map sT) = decide (RowM.plain (l.take (i + 1)) ∈ gone (l.take i)) := in_texts _ _
      rw [ein]
      by_cases z : RowM.plain (l.take (i + 1)) ∈ gone (l.take i)
      · rw [decide_eq_true z]
        refine iteF ⟨_, rfl, Same.trans s3 s5, ?_⟩
        rw [eg, addK, if_pos z]
        exact g5
      · rw [decide_eq_false z]
        refine iteT ⟨_, rfl, .inl ⟨rfl, _, SqL.of g5⟩, _, rfl, q, _, _, rfl, rfl, g5, by rw [List.length_map]; exact Nat.lt_of_le_of_lt zg (by decide), ?_⟩
        refine ⟨_, rfl, fun b o hb => ?_, ?_⟩
        · rw [upd_ne (ne_of_none hb hq)]
          exact s5 _ _ (s3 _ _ hb)
        · rw [upd_same, eg, addK, if_neg z, List.map_append]
          rfl
    rintro σ H3 ⟨x, rfl, s3, g3⟩
    have et : l.take (S l).cps.size = l := by
      have : (S l).cps.size = l.length := len_S l
      rw [this, List.take_length]
    rw [et] at g3
    have ht := treeS_gone hl hz
    refine ⟨_, rfl, q, bsT (gone l), rfl, rfl, SqL.of (by rw [bsT_fst]; exact g3), alike_bsT _, sortable_bsT _, by unfold bsT; rw [List.length_map]; have := ht.n1; omega, fun b hb => ?_, fun b hb H1 s1 Q1 h => ?_, fun p H5 s5 np gp => ?_⟩
    · obtain ⟨x, _, rfl⟩ := List.mem_map.mp hb
      exact depth_rank2 x
    · obtain ⟨x, hx, rfl⟩ := List.mem_map.mp hb
      exact ⟨x, rfl, (ht.t.pr x hx).1, by have := ht.z x hx; omega, fun t q H' s nt gt gq => h _ H' s fun H3 s3 => dp_rank (s3 _ _ gt) (s3 _ _ gq)⟩
    rw [sort_bsT] at gp
    exact k p H5 (Same.trans s3 s5) (Same.free s3 np) gp
theorem sc_law_take : FnScope ["_law_pool_here", "_law_many", "_law_found"] ["_law_pool_here", "_law_many"] (defScope s_law_take) := ⟨rfl, rfl, rfl, by decide +kernel, rfl, by decide +kernel, by decide +kernel⟩
theorem ok_law_take {f : Addr} {fd : FuncData} (F : Fun K "_law_take" "_law_take" s_law_take f fd) (T : Txt K mg C_Rounds C_Walk) : FnOk P w K mg base CX0 1 f fd ["_law_pool_here", "_law_many"] (sp_law_take) := by
  refine F.ok sc_law_take (fun vs H Q E h => ?_) (fun cdv A outer s H vs Q E hr h => ?_)
  · obtain ⟨p, m, rfl, _⟩ := h
    all_goals rfl
  · obtain ⟨p, m, rfl, hp, h0, h1, k⟩ := h
    refine ⟨_, (pss_cons (ps_if (pt_cmpR op_gt (pe_ix (ix_listK (K := K)) (pv 0) pe_int (fun _ _ => rfl)) pe_int (nomark _)) (pss_cons (ps_set (i := 2) sc_law_take.nd rfl (Or.inl rfl) (pe_op op_mod (pe_ix (ix_listK (K := K)) (pv 0) pe_int (fun _ _ => rfl)) (pv 1)))
    (pss_cons (ps_asg (pe_op op_fdivW (pe_ix (ix_listK (K := K)) (pv 0) pe_int (fun _ _ => rfl)) (pv 1)) (pg_sub (pv 0) pe_int set_list))
    (pss_one (ps_ret (pv 2))))) pss_nil)
    (pss_cons (ps_asg (pe_op op_mod (pe_op op_add (pe_op op_mul (pe_ix (ix_listK (K := K)) (pv 0) pe_int (fun _ _ => rfl)) pe_int) pe_int) pe_int) (pg_sub (pv 0) pe_int set_list))
    (pss_one (ps_ret (pe_op op_mod (pe_op op_fdiv (pe_op op_mod (pe_op op_mul (pe_ix (ix_listK (K := K)) (pv 0) pe_int (fun _ _ => rfl)) (pe_ix (ix_listK (K := K)) (pv 0) pe_int (fun _ _ => rfl))) pe_int) pe_int) (pv 1)))))), ?_⟩
    obtain ⟨c, n, hp, n0, n1⟩ := hp
    refine ⟨_, rfl, _, _, _, _, rfl, rfl, SqL.of hp, atI0, _, _, rfl, rfl, _, rfl, ?_⟩
    refine ite2 (fun _ => ?_) (fun _ => ?_)
    · refine ⟨_, rfl, _, _, _, _, rfl, rfl, SqL.of hp, atI0, _, rfl, _, _, rfl, rfl, h0, ?_⟩
      refine ⟨_, rfl, _, _, _, _, rfl, rfl, SqL.of hp, atI0, _, rfl, _, _, rfl, rfl, wide_div h0 (b := 64) (by omega) (by decide) (by decide), _, rfl, _, _, _, 0, rfl, rfl, hp, rfl, ?_⟩
      exact ⟨_, rfl, k _ _ (Int.emod_nonneg _ (by omega)) (Int.emod_lt_of_pos _ h0) (Off.upd (Off.refl _ _)) ⟨_, n, upd_same, n0, n1⟩⟩
    · refine ⟨_, rfl, _, _, _, _, rfl, rfl, SqL.of hp, atI1, _, _, rfl, rfl, .inr ⟨by decide, by decide⟩, _, _, rfl, rfl, _, _, rfl, rfl, (by show (0 : Int) < 2147483647; decide), _, rfl, _, _, _, 1, rfl, rfl, hp, rfl, ?_⟩
      have z0 : 0 ≤ (n * 48271 + 11) % 2147483647 := Int.emod_nonneg _ (by decide)
      have z1 : (n * 48271 + 11) % 2147483647 < 2147483647 := Int.emod_lt_of_pos _ (by decide)
      refine ⟨_, rfl, _, _, _, _, rfl, rfl, SqL.of upd_same, atI1, _, rfl, _, _, _, _, rfl, rfl, SqL.of upd_same, atI1, _, _, rfl, rfl, .inl ⟨by omega, by omega⟩, _, _, rfl, rfl, (by show (0 : Int) < 2147483629; decide), _, _, rfl, rfl, ⟨by decide, by decide⟩, _, rfl, _, _, rfl, rfl, h0, ?_⟩
      exact k _ _ (Int.emod_nonneg _ (by omega)) (Int.emod_lt_of_pos _ h0) (Off.upd (Off.refl _ _)) ⟨_, _, upd_same, z0, z1⟩
theorem sc_law_row : FnScope ["_law_pool_here", "_law_most", "_law_deeds", "_law_way", "_law_found", "_law_left", "_law_k", "_law_sign"] ["_law_pool_here", "_law_most", "_law_deeds"] (defScope s_law_row) := ⟨rfl, rfl, rfl, by decide +kernel, rfl, by decide +kernel, by decide +kernel⟩
theorem ok_law_row {f : Addr} {fd : FuncData} (F : Fun K "_law_row" "_law_row" s_law_row f fd) (T : Txt K mg C_Rounds C_Walk) (kn_law_take : KN P w K mg base CX0 1 ["_law_pool_here", "_law_many"] (sp_law_take) "_law_take" []) (kn_law_turned : KN P w K mg base CX0 1 ["_law_text"] (sp_law_turned) "_law_turned" []) : FnOk P w K mg base CX0 2 f fd ["_law_pool_here", "_law_most", "_law_deeds"] (sp_law_row) := by
  obtain ⟨f_law_take, fd_law_take, ds_law_take, m_law_take, k_law_take, v_law_take, b_law_take, G_law_take⟩ := kn_law_take
  obtain ⟨f_law_turned, fd_law_turned, ds_law_turned, m_law_turned, k_law_turned, v_law_turned, b_law_turned, G_law_turned⟩ := kn_law_turned
  refine F.ok sc_law_row (fun vs H Q E h => ?_) (fun cdv A outer s H vs Q E hr h => ?_)
  · obtain ⟨p, most, deeds, rfl, _⟩ := h
    all_goals rfl
  · obtain ⟨p, most, deeds, rfl, hp, m0, m1, d0, d1, k⟩ := h
    refine ⟨_, (pss_cons (ps_set (i := 3) sc_law_row.nd rfl (Or.inl rfl) (pe_call G_law_take (hr.mono (by decide)) rfl m_law_take k_law_take b_law_take v_law_take pass0 (pa_cons (pv 0) (pa_cons pe_int pa_nil))))
    (pss_cons (ps_set (i := 4) sc_law_row.nd rfl (Or.inl rfl) pe_str)
    (pss_cons (ps_set (i := 5) sc_law_row.nd rfl (Or.inl rfl) pe_str)
    (pss_cons (ps_for PassesOwn.never rfl (pi_range1 (by rfl) T.b_range (pa_cons (pe_call G_law_take (hr.mono (by decide)) rfl m_law_take k_law_take b_law_take v_law_take pass0 (pa_cons (pv 0) (pa_cons (pe_op op_add (pv 1) pe_int) pa_nil))) pa_nil)) (pg_name (i := 6) sc_law_row.nd rfl (Or.inl rfl)) (pss_cons (ps_set (i := 7) sc_law_row.nd rfl (Or.inl rfl) (pe_ix ix_str pe_str (pe_call G_law_take (hr.mono (by decide)) rfl m_law_take k_law_take b_law_take v_law_take pass0 (pa_cons (pv 0) (pa_cons (pe_op op_mul pe_int (pv 2)) pa_nil))) (fun _ _ => rfl)))
    (Evl.pss_cut (ps_if (PW.pt (pw_and (pt_cmpR op_gt (pv 3) pe_int (nomark _)) (pw_and (pt_cmpR op_ne (pv 5) pe_str (nomark _)) (pw_and1 (pt_cmpR op_gt (pe_call G_law_take (hr.mono (by decide)) rfl m_law_take k_law_take b_law_take v_law_take pass0 (pa_cons (pv 0) (pa_cons (pe_op op_add pe_int (pv 3)) pa_nil))) pe_int (nomark _)))))) (pss_cons (ps_set (i := 7) sc_law_row.nd rfl (Or.inl rfl) (pe_call G_law_turned (hr.mono (by decide)) rfl m_law_turned k_law_turned b_law_turned v_law_turned pass0 (pa_cons (pe_ix ix_str (pv 5) (pe_un un_neg pe_int) (fun _ _ => rfl)) pa_nil)))
    (pss_one (ps_set (i := 5) sc_law_row.nd rfl (Or.inl rfl) (pe_slice sl_str (pv 5) po_none (po_some (pe_un un_neg pe_int)))))) (pss_one (ps_set (i := 5) sc_law_row.nd rfl (Or.inl rfl) (pe_op op_add_str (pv 5) (pv 7)))))
    (pss_one (ps_set (i := 4) sc_law_row.nd rfl (Or.inl rfl) (pe_op op_add_str (pv 4) (pv 7)))))))
    (pss_one (ps_ret (pv 4))))))), ?_⟩
    refine ⟨_, rfl, p, 3, rfl, hp, by decide, by decide, fun way H1 w0 w1 o1 p1 => ?_⟩
    refine ⟨_, rfl, _, rfl, _, _, rfl, rfl, p, most + 1, rfl, p1, by omega, by omega, fun n H2 n0 n1 o2 p2 => ?_⟩
    refine ⟨n, rfl, by omega, by omega, for_range (lo := 0) (n := n.toNat) (fun i σ H' => ∃ (l m : List Nat) (x y : Option V), σ = [some (.ref p), some (.int most), some (.int deeds), some (.int way), some (.str (S l)), some (.str (S m)), x, y] ∧
        Row l ∧ Row m ∧ (∀ c ∈ l, (ix c : Int) < 2 * deeds) ∧ (∀ c ∈ m, (ix c : Int) < 2 * deeds) ∧ l.length = i ∧ m.length ≤ i ∧ Off p H H' ∧ Pool H' p)
      ⟨[], [], none, none, rfl, RowM.nil_row, RowM.nil_row, (by intro c q; cases q), (by intro c q; cases q), rfl, Nat.le_refl _, o1.trans o2, p2⟩ ?_ ?_⟩
    · rintro i σ H' hi ⟨l, m, x, y, rfl, hl, hm, il, im, zl, zm, o, hp⟩
      have hin : (i : Int) < n := by omega
      refine ⟨_, rfl, _, rfl, _, _, rfl, rfl, .inl ⟨by decide, by decide⟩, p, 2 * deeds, rfl, hp, by omega, by omega, fun v H3 v0 v1 o3 p3 => ?_⟩
      obtain ⟨c, hc, sc, ic⟩ := sign_of_at (i := v) v0 (by omega) rfl
      refine ⟨_, _, c, rfl, rfl, (by decide), hc, ?_⟩
      have icd : (ix c : Int) < 2 * deeds := by omega
      have z1 : l.length < 2000 := by omega
      have z2 : m.length < 2000 := by omega
      refine ⟨fun σ H' => ∃ (m : List Nat) (c : Nat), σ = [some (.ref p), some (.int most), some (.int deeds), some (.int way), some (.str (S l)), some (.str (S m)), some (.int (0 + i)), some (.str (S [c]))] ∧
        Row m ∧ c ∈ sgns ∧ (∀ c ∈ m, (ix c : Int) < 2 * deeds) ∧ (ix c : Int) < 2 * deeds ∧ m.length ≤ i + 1 ∧ Off p H H' ∧ Pool H' p, ?_, ?_⟩
      · have add : ∀ H4, Off p H H4 → Pool H4 p → ∀ (D : Ends), D.nx = (fun σ H' => ∃ (m : List Nat) (c : Nat), σ = [some (.ref p), some (.int most), some (.int deeds), some (.int way), some (.str (S l)), some (.str (S m)), some (.int (0 + i)), some (.str (S [c]))] ∧
            Row m ∧ c ∈ sgns ∧ (∀ c ∈ m, (ix c : Int) < 2 * deeds) ∧ (ix c : Int) < 2 * deeds ∧ m.length ≤ i + 1 ∧ Off p H H' ∧ Pool H' p) →
            tAsg (tOp (fun x y H Q => ∃ i j, x = V.str i ∧ y = V.str j ∧ i.length + j.length ≤ sizeLine ∧ Q (V.str (i ++ j)) H) (tVar 5) (tVar 7)) (gName 5) D
              [some (.ref p), some (.int most), some (.int deeds), some (.int way), some (.str (S l)), some (.str (S m)), some (.int (0 + i)), some (.str (S [c]))] H4 := fun H4 o4 p4 D hD => by
          refine ⟨_, rfl, _, rfl, _, _, rfl, rfl, sz_str (m := [c]) (by omega) (by simp), ?_⟩
          show D.nx _ _
          rw [hD, add_S]
          exact ⟨m ++ [c], c, rfl, row_snoc hm sc, sc, all_snoc im icd, icd, by simp; omega, o4, p4⟩
        walk_at "rd"
        refine ite2 (fun _ => ?_) (fun _ => iteF (add _ (o.trans o3) p3 _ rfl))
        walk_at "rd"
        refine ite2 (fun q => ?_) (fun _ => iteF (add _ (o.trans o3) p3 _ rfl))
        have mne : m ≠ [] := fun e => by
          subst e
          exact absurd q (by decide)
        refine ⟨_, rfl, _, rfl, _, _, rfl, rfl, p, 1 + way, rfl, p3, by omega, by omega, fun u H4 u0 u1 o4 p4 => ?_⟩
        walk_at "rd"
        refine ite2 (fun _ => ?_) (fun _ => add _ ((o.trans o3).trans o4) p4 _ rfl)
        obtain ⟨m, d, rfl⟩ := exists_snoc mne
        have hd : d ∈ sgns := hm d (by simp)
        refine ⟨_, rfl, _, rfl, _, _, d, rfl, rfl, sz_of' (by rw [len_S]; omega), at_last, [d], rfl, (by intro e he; rw [List.mem_singleton.mp he]; exact hd), (by simp), fun H5 s5 => ?_⟩
        refine ⟨_, rfl, _, rfl, _, rfl, _, rfl, sz_of' (by rw [len_S]; omega), ?_⟩
        rw [cut_last]
        refine ⟨m, con d, rfl, (fun e he => hm e (List.mem_append_left _ he)), RowM.con_mem hd, (fun e he => im e (List.mem_append_left _ he)), ?_, by simp at zm; omega, ((o.trans o3).trans o4).trans (off_of s5), p4.same s5⟩
        have := im d (by simp)
        have q := ix_con hd
        omega
      · rintro σ H4 ⟨m, c, rfl, hm, sc, im, icd, zm, o4, p4⟩
        refine ⟨_, rfl, _, rfl, _, _, rfl, rfl, sz_str (m := [c]) (by omega) (by simp), ?_⟩
        rw [add_S]
        exact ⟨l ++ [c], m, _, _, rfl, row_snoc hl sc, hm, all_snoc il icd, im, by simp [zl], zm, o4, p4⟩
    · rintro σ H' ⟨l, m, x, y, rfl, hl, hm, il, im, zl, zm, o, hp⟩
      exact ⟨_, rfl, k l H' hl (by omega) il o hp⟩
theorem sc_is_row_within : FnScope ["thing", "most", "sign"] ["thing", "most"] (defScope s_is_row_within) := ⟨rfl, rfl, rfl, by decide +kernel, rfl, by decide +kernel, by decide +kernel⟩
theorem ok_is_row_within {f : Addr} {fd : FuncData} (F : Fun K "is_row_within" "is_row_within" s_is_row_within f fd) (T : Txt K mg C_Rounds C_Walk) : FnOk P w K mg base CX0 1 f fd ["thing", "most"] (sp_is_row_within) := by
  refine F.ok sc_is_row_within (fun vs H Q E h => ?_) (fun cdv A outer s H vs Q E hr h => ?_)
  · obtain ⟨l, most, rfl, _⟩ := h
    all_goals rfl
  · obtain ⟨l, most, rfl, hz, k⟩ := h
    refine ⟨_, (pss_one (ps_ret (pe_and (pe_callB (call_isiK1 (K := K)) (by rfl) T.b_isinstance (by decide +kernel) (pa_cons (pv 0) (pa_cons (pe_bltn (v := .ty "str") (by rfl) T.b_str (by decide +kernel) rfl) pa_nil))) (pe_and (pe_cmpR op_le (pe_callB call_len_str (by rfl) T.b_len (by decide +kernel) (pa_cons (pv 0) pa_nil)) (pv 1) (nomark _)) (pe_one (pe_callB (cr_allK (K := K) rfl) (by rfl) T.b_all (by decide +kernel) (pa_cons (pe_lc (own := [("sign", 2)]) (g := gName 2) (tt := tYes) rfl sc_is_row_within.nd (pi_str (pv 0)) (blkOk_by (own := [("sign", 2)]) (N := ["thing", "most", "sign"]) (sc := defScope s_is_row_within) (by decide +kernel)) (fun _ _ _ _ _ => (pg_name (i := 2) sc_is_row_within.nd rfl (Or.inl rfl))) (fun _ _ _ _ _ => pts_nil) (fun _ _ _ _ _ => (pe_cmpR op_in_sign (pv 2) (pe_globC T.g_SIGNS) rfl))) pa_nil))))))), ?_⟩
    obtain ⟨u, hu, ru⟩ := T.g_SIGNS
    refine Evl.s_ret (Evl.ev_is (Evl.ev_andV (Evl.ev_isi (Evl.ev_var rfl) Evl.ev_c (.ty "str") (fun _ _ => .base (.str _)) (kit_ty (r := true) (by decide +kernel)))
      (fun _ => Evl.ev_andV (Evl.ev_op (Evl.ev_lenS (Evl.ev_var rfl) (by rw [len_S]; omega)) (Evl.ev_var rfl) Evl.rv_I0)
        (fun _ => Evl.ev_allN (bs := l.map fun c => decide (c ∈ sgns)) (el_is (Evl.el_mapS (fun c => .bl (decide (c ∈ sgns))) (Evl.ev_var rfl) (by rw [len_S]; omega) (fun _ => rfl)
          (fun c H1 e hc => Evl.ev_is (Evl.ev_op (Evl.ev_var rfl) Evl.ev_c Evl.rv_inS) (by rw [decide_eq_decide.mpr (iff_of_eq (sgns_mem c))]))) (by rw [List.map_map]; rfl))))) ?_) fun H1 e => k H1 e
    rw [len_S]
    simp [List.all_map, Function.comp]
theorem sc_is_row : FnScope ["thing"] ["thing"] (defScope s_is_row) := ⟨rfl, rfl, rfl, by decide +kernel, rfl, by decide +kernel, by decide +kernel⟩
theorem ok_is_row {f : Addr} {fd : FuncData} (F : Fun K "is_row" "is_row" s_is_row f fd) (T : Txt K mg C_Rounds C_Walk) (kn_is_row_within : KN P w K mg base CX0 1 ["thing", "most"] (sp_is_row_within) "is_row_within" []) : FnOk P w K mg base CX0 2 f fd ["thing"] (sp_is_row) := by
  obtain ⟨f_is_row_within, fd_is_row_within, ds_is_row_within, m_is_row_within, k_is_row_within, v_is_row_within, b_is_row_within, G_is_row_within⟩ := kn_is_row_within
  refine F.ok sc_is_row (fun vs H Q E h => ?_) (fun cdv A outer s H vs Q E hr h => ?_)
  · obtain ⟨l, rfl, _⟩ := h
    all_goals rfl
  · obtain ⟨l, rfl, hz, k⟩ := h
    refine ⟨_, (pss_one (ps_ret (pe_call G_is_row_within (hr.mono (by decide)) rfl m_is_row_within k_is_row_within b_is_row_within v_is_row_within pass0 (pa_cons (pv 0) (pa_cons (pe_globC T.g_MOST_SIGNS) pa_nil))))), ?_⟩
    refine ⟨_, rfl, l, 60, rfl, hz, fun H1 e => ?_⟩
    have q := k H1 e
    unfold isRow at q
    have z : decide ((l.length : Int) ≤ 60) = decide (l.length ≤ 60) := decide_eq_decide.mpr (by omega)
    rw [z]
    exact q
theorem sc_contrary_sign : FnScope ["sign"] ["sign"] (defScope s_contrary_sign) := ⟨rfl, rfl, rfl, by decide +kernel, rfl, by decide +kernel, by decide +kernel⟩
theorem ok_contrary_sign {f : Addr} {fd : FuncData} (F : Fun K "contrary_sign" "contrary_sign" s_contrary_sign f fd) (T : Txt K mg C_Rounds C_Walk) : FnOk P w K mg base CX0 1 f fd ["sign"] (sp_contrary_sign) := by
  refine F.ok sc_contrary_sign (fun vs H Q E h => ?_) (fun cdv A outer s H vs Q E hr h => ?_)
  · obtain ⟨c, rfl, _⟩ := h
    all_goals rfl
  · obtain ⟨c, rfl, hc, k⟩ := h
    refine ⟨_, (pss_one (ps_ret (pe_ifExp (pt_val (pe_m0 PySem.F.slot_str_isupper PySem.F.type_str_isupper mt_isupper (pv 0))) (pe_lower (pv 0)) (pe_upper (pv 0))))), ?_⟩
    refine Evl.s_ret (Evl.ev_is (Evl.ev_ifv (Evl.et_B (Evl.ev_m0 (Evl.ev_var rfl) trivial)) (fun _ => Evl.ev_m0 (Evl.ev_var rfl) one_le) (fun _ => Evl.ev_m0 (Evl.ev_var rfl) one_le)) ?_) fun H1 e => k H1 e
    rw [up1 c hc, low1 c hc, isup1 c hc]
    unfold con lo up
    by_cases h : c < 97
    · have h2 : ¬ 97 ≤ c := by omega
      rw [decide_eq_true h, if_pos rfl, if_neg h2, if_neg h2]
    · have h2 : 97 ≤ c := by omega
      rw [decide_eq_false h, if_neg (by decide), if_pos h2, if_pos h2]
theorem sc_made_plain : FnScope ["text", "found", "sign"] ["text"] (defScope s_made_plain) := ⟨rfl, rfl, rfl, by decide +kernel, rfl, by decide +kernel, by decide +kernel⟩
theorem ok_made_plain {f : Addr} {fd : FuncData} (F : Fun K "made_plain" "made_plain" s_made_plain f fd) (T : Txt K mg C_Rounds C_Walk) (kn_contrary_sign : KN P w K mg base CX0 1 ["sign"] (sp_contrary_sign) "contrary_sign" []) : FnOk P w K mg base CX0 2 f fd ["text"] (sp_made_plain) := by
  obtain ⟨f_contrary_sign, fd_contrary_sign, ds_contrary_sign, m_contrary_sign, k_contrary_sign, v_contrary_sign, b_contrary_sign, G_contrary_sign⟩ := kn_contrary_sign
  refine F.ok sc_made_plain (fun vs H Q E h => ?_) (fun cdv A outer s H vs Q E hr h => ?_)
  · obtain ⟨l, rfl, _⟩ := h
    all_goals rfl
  · obtain ⟨l, rfl, hl, hz, k⟩ := h
    refine ⟨_, (pss_cons (ps_set (i := 1) sc_made_plain.nd rfl (Or.inl rfl) pe_str)
    (pss_cons (ps_for PassesOwn.never rfl (pi_str (pv 0)) (pg_name (i := 2) sc_made_plain.nd rfl (Or.inl rfl)) (pss_one (ps_if (pt_val (pe_m1 PySem.F.slot_str_endswith PySem.F.type_str_endswith mt_endswith (pv 1) (pe_call G_contrary_sign (hr.mono (by decide)) rfl m_contrary_sign k_contrary_sign b_contrary_sign v_contrary_sign pass0 (pa_cons (pv 2) pa_nil)))) (pss_one (ps_set (i := 1) sc_made_plain.nd rfl (Or.inl rfl) (pe_slice sl_str (pv 1) po_none (po_some (pe_un un_neg pe_int))))) (pss_one (ps_aug (i := 1) sc_made_plain.nd rfl (Or.inl rfl) (pv 2) iop_add_str)))))
    (pss_one (ps_ret (pv 1))))), ?_⟩
    refine ⟨_, rfl, _, rfl, for_it walk_str (fun i σ H' => ∃ x, σ = [some (.str (S l)), some (.str (S (RowM.plain (l.take i)))), x] ∧ Same H H') ⟨_, rfl, Same.refl H⟩ (fun _ _ _ _ _ => trivial) ?_ ?_⟩
    · rintro i v σ H3 H4 hi ⟨x, rfl, s3⟩ ⟨rfl, c, hc, rfl⟩
      have hc' : l[i]? = some c := by simpa using hc
      have sc : c ∈ sgns := hl c (List.mem_of_getElem? hc')
      have em := made_on hc'
      have pz : (RowM.plain (l.take i)).length ≤ 40000 := Nat.le_trans (RowM.plain_length _) (by rw [List.length_take]; omega)
      obtain ⟨p, ep⟩ : ∃ p, p = RowM.plain (l.take i) := ⟨_, rfl⟩
      rw [← ep] at em pz ⊢
      refine ⟨_, rfl, ⟨_, rfl⟩, _, rfl, c, rfl, sc, fun H5 s5 => ⟨_, _, rfl, rfl, _, rfl, ?_⟩⟩
      rw [ends_last]
      by_cases q : p.getLast? = some (con c)
      · rw [decide_eq_true q]
        obtain ⟨m, d, e⟩ := exists_snoc (m := p) (fun z => by rw [z] at q; cases q)
        subst e
        have ed : d = con c := by simpa using q
        subst ed
        refine iteT ⟨_, rfl, _, rfl, _, rfl, _, rfl, sz_of' (by rw [len_S]; omega), ?_⟩
        rw [cut_last]
        rw [on_snoc] at em
        exact ⟨_, by rw [em]; rfl, Same.trans s3 s5⟩
      · rw [decide_eq_false q]
        rw [on_else q] at em
        refine iteF ⟨_, rfl, _, rfl, _, _, rfl, rfl, sz_of' (by rw [len_S]; show p.length + 1 ≤ _; omega), ?_⟩
        have ea : S p ++ (⟨#[c]⟩ : Str) = S (p ++ [c]) := add_S p [c]
        rw [ea]
        exact ⟨_, by rw [em]; rfl, Same.trans s3 s5⟩
    rintro σ H3 ⟨x, rfl, s3⟩
    have et : l.take (S l).cps.size = l := by
      have : (S l).cps.size = l.length := len_S l
      rw [this, List.take_length]
    rw [et]
    exact ⟨_, rfl, k H3 s3⟩
theorem sc_is_plain_row : FnScope ["thing"] ["thing"] (defScope s_is_plain_row) := ⟨rfl, rfl, rfl, by decide +kernel, rfl, by decide +kernel, by decide +kernel⟩
theorem ok_is_plain_row {f : Addr} {fd : FuncData} (F : Fun K "is_plain_row" "is_plain_row" s_is_plain_row f fd) (T : Txt K mg C_Rounds C_Walk) (kn_is_row : KN P w K mg base CX0 2 ["thing"] (sp_is_row) "is_row" []) (kn_made_plain : KN P w K mg base CX0 2 ["text"] (sp_made_plain) "made_plain" []) : FnOk P w K mg base CX0 3 f fd ["thing"] (sp_is_plain_row) := by
  obtain ⟨f_is_row, fd_is_row, ds_is_row, m_is_row, k_is_row, v_is_row, b_is_row, G_is_row⟩ := kn_is_row
  obtain ⟨f_made_plain, fd_made_plain, ds_made_plain, m_made_plain, k_made_plain, v_made_plain, b_made_plain, G_made_plain⟩ := kn_made_plain
  refine F.ok sc_is_plain_row (fun vs H Q E h => ?_) (fun cdv A outer s H vs Q E hr h => ?_)
  · obtain ⟨l, rfl, _⟩ := h
    all_goals rfl
  · obtain ⟨l, rfl, hl, k⟩ := h
    refine ⟨_, (pss_one (ps_ret (pe_and (pe_call G_is_row (hr.mono (by decide)) rfl m_is_row k_is_row b_is_row v_is_row pass0 (pa_cons (pv 0) pa_nil)) (pe_one (pe_cmpR op_eq (pe_call G_made_plain (hr.mono (by decide)) rfl m_made_plain k_made_plain b_made_plain v_made_plain pass0 (pa_cons (pv 0) pa_nil)) (pv 0) (nomark _)))))), ?_⟩
    obtain ⟨zl, rl⟩ := isRow_iff.mp hl
    refine ⟨_, rfl, l, rfl, by omega, fun H1 s1 => ⟨_, rfl, ?_⟩⟩
    rw [hl]
    refine iteT ⟨_, rfl, l, rfl, rl, by omega, fun H2 s2 => ⟨_, rfl, rfl, ?_⟩⟩
    have e : decide (V.str (S (RowM.plain l)) = V.str (S l)) = decide (RowM.plain l = l) := decide_eq_decide.mpr ⟨sT_inj, fun h => by rw [h]⟩
    rw [e]
    exact k H2 (Same.trans s1 s2)
theorem sc_first_wrong : FnScope ["places", "known", "number", "thing", "place"] ["places"] (defScope s_first_wrong) := ⟨rfl, rfl, rfl, by decide +kernel, rfl, by decide +kernel, by decide +kernel⟩
theorem ok_first_wrong {f : Addr} {fd : FuncData} (F : Fun K "first_wrong" "first_wrong" s_first_wrong f fd) (T : Txt K mg C_Rounds C_Walk) (kn_is_plain_row : KN P w K mg base CX0 3 ["thing"] (sp_is_plain_row) "is_plain_row" []) : FnOk P w K mg base CX0 4 f fd ["places"] (sp_first_wrong K) := by
  obtain ⟨f_is_plain_row, fd_is_plain_row, ds_is_plain_row, m_is_plain_row, k_is_plain_row, v_is_plain_row, b_is_plain_row, G_is_plain_row⟩ := kn_is_plain_row
  refine F.ok sc_first_wrong (fun vs H Q E h => ?_) (fun cdv A outer s H vs Q E hr h => ?_)
  · obtain ⟨q, ts, rfl, _⟩ := h
    all_goals rfl
  · obtain ⟨q, ts, rfl, hq, ht, k⟩ := h
    refine ⟨_, (pss_cons (ps_set (i := 1) sc_first_wrong.nd rfl (Or.inl rfl) pe_dnewK)
    (pss_cons (ps_for PassesOwn.never rfl (pi_enum (by rfl) T.b_enumerate (pa_cons (pv 0) pa_nil)) (pg_tup rfl (pgs_cons (pg_name (i := 2) sc_first_wrong.nd rfl (Or.inl rfl)) (pgs_cons (pg_name (i := 3) sc_first_wrong.nd rfl (Or.inl rfl)) pgs_nil))) (pss_cons (ps_if (PW.pt (pw_or (pt_not (pt_val (pe_call G_is_plain_row (hr.mono (by decide)) rfl m_is_plain_row k_is_plain_row b_is_plain_row v_is_plain_row pass0 (pa_cons (pv 3) pa_nil)))) (pw_or1 (pt_cmp (pc_din (hu_of hr) (pv 3) (pv 1)))))) (pss_one (ps_ret (pv 2))) pss_nil)
    (pss_one (ps_dput (hu_of hr) (pv 1) (pv 3) pe_bl rfl))))
    (pss_cons (ps_for PassesOwn.never rfl (pi_enum (by rfl) T.b_enumerate (pa_cons (pv 0) pa_nil)) (pg_tup rfl (pgs_cons (pg_name (i := 2) sc_first_wrong.nd rfl (Or.inl rfl)) (pgs_cons (pg_name (i := 4) sc_first_wrong.nd rfl (Or.inl rfl)) pgs_nil))) (pss_one (ps_if (PW.pt (pw_and (pt_cmpR op_ne (pv 4) pe_str (nomark _)) (pw_and1 (pt_cmp (pc_dnotin (hu_of hr) (pe_slice sl_str (pv 4) po_none (po_some (pe_un un_neg pe_int))) (pv 1)))))) (pss_one (ps_ret (pv 2))) pss_nil)))
    (pss_one (ps_ret pe_non))))), ?_⟩
    refine fun d hd => ?_
    have s0 := Same.new (o := .dK []) hd
    have lt : (ts.map sT).length = ts.length := List.length_map ..
    refine ⟨_, rfl, q, _, rfl, s0.seq hq, for_it walk_enum (fun i σ H' => ∃ x y z, σ = [some (.ref q), some (.ref d), x, y, z] ∧ Same H H' ∧ H' d = some (.dK (kvT (ts.take i)))) ⟨_, _, _, rfl, s0, upd_same⟩ (fun _ _ _ _ ⟨_, _, _, _, s, _⟩ => s.seq hq) ?_ ?_⟩
    · rintro i v σ H3 H4 hi ⟨x, y, z, rfl, s3, g3⟩ ⟨t, u, w, rfl, nt, rfl, hu, hw⟩
      have hw : (ts.map sT)[i]? = some w := hw
      rw [List.getElem?_map] at hw
      obtain ⟨p, hp, rfl⟩ := Option.map_eq_some_iff.mp hw
      injection hu with hu
      subst hu
      have pm := List.mem_of_getElem? hp
      have rp := ht.row pm
      have s4 := Same.new (o := .tup [.int (i : Nat), sT p]) nt
      have nd : t ≠ d := fun e => by rw [e, g3] at nt; cases nt
      refine ⟨t, [_, _], rfl, SqT.of upd_same, rfl, _, _, rfl, _, _, rfl, rfl, ?_⟩
      refine ⟨_, rfl, p, rfl, rp, fun H5 s5 => ⟨_, rfl, ?_⟩⟩
      rw [decide_eq_true (WalkM.plain_prow (ht.t.pr p pm))]
      have g5 := s5 _ _ (s4 _ _ g3)
      refine iteF ⟨_, rfl, _, rfl, d, _, rfl, DGet.k (k := kT p) g5, _, rfl, ?_⟩
      have np : p ∉ ts.take i := fun h => by
        have hl := (List.getElem?_eq_some_iff.mp hp).1
        obtain ⟨j, hj, e⟩ := List.getElem_of_mem h
        rw [List.length_take] at hj
        rw [List.getElem_take] at e
        have e2 := (List.getElem?_eq_some_iff.mp hp).2
        have := (List.getElem_inj ht.t.nd).mp (e.trans e2.symm)
        omega
      rw [val_T, if_neg np]
      refine iteF ⟨_, rfl, _, rfl, d, _, rfl, DPut.k (k := kT p) g5 (by rw [len_kvT]; exact Nat.lt_of_le_of_lt (List.length_take_le ..) (Nat.lt_of_le_of_lt (Nat.le_trans (by omega : i ≤ ts.length) ht.n1) (by decide))), ?_⟩
      refine ⟨_, _, _, rfl, fun b o hb => ?_, ?_⟩
      · rw [upd_ne (fun e => by rw [e, hd] at hb; cases hb)]
        exact s5 _ _ (s4 _ _ (s3 _ _ hb))
      · rw [upd_same, put_T]
        unfold addK
        rw [if_neg np, List.take_add_one, hp]
        rfl
    rintro σ H3 ⟨x, y, z, rfl, s3, g3⟩
    rw [lt, List.take_length] at g3
    refine ⟨_, rfl, q, _, rfl, s3.seq hq, for_it walk_enum (fun i σ H' => ∃ x y z, σ = [some (.ref q), some (.ref d), x, y, z] ∧ Same H3 H') ⟨_, _, _, rfl, Same.refl _⟩ (fun _ _ _ _ ⟨_, _, _, _, s⟩ => s.seq (s3.seq hq)) ?_ ?_⟩
    · rintro i v σ H4 H5 hi ⟨x, y, z, rfl, s4⟩ ⟨t, u, w, rfl, nt, rfl, hu, hw⟩
      have hw : (ts.map sT)[i]? = some w := hw
      rw [List.getElem?_map] at hw
      obtain ⟨p, hp, rfl⟩ := Option.map_eq_some_iff.mp hw
      injection hu with hu
      subst hu
      have pm := List.mem_of_getElem? hp
      have s5 := Same.new (o := .tup [.int (i : Nat), sT p]) nt
      refine ⟨t, [_, _], rfl, SqT.of upd_same, rfl, _, _, rfl, _, _, rfl, rfl, ?_⟩
      refine ⟨_, rfl, rfl, _, rfl, ?_⟩
      by_cases e : p = []
      · subst e
        exact iteF (iteF ⟨_, _, _, rfl, Same.trans s4 s5⟩)
      · have ne : decide (sT p = V.str (Str.ofString "")) = false := decide_eq_false fun h => e (sT_inj (l := p) (m := []) h)
        rw [ne]
        obtain ⟨m, c, rfl⟩ := exists_snoc e
        refine iteT ⟨_, rfl, _, rfl, _, rfl, _, rfl, sz_of' (by rw [len_S]; have := ht.z _ pm; omega), ?_⟩
        rw [cut_last]
        have g := s5 _ _ (s4 _ _ g3)
        refine ⟨_, rfl, d, _, rfl, DGet.k (k := kT m) g, _, rfl, ?_⟩
        have hm : m ∈ ts := by
          have := ht.t.cl _ pm e
          simpa using this
        rw [val_T, if_pos hm]
        exact iteF ⟨_, _, _, rfl, Same.trans s4 s5⟩
    rintro σ H4 ⟨x, y, z, rfl, s4⟩
    exact k H4 (Same.trans s3 s4)
theorem sc_rank : FnScope ["text", "sign"] ["text"] (defScope s_rank) := ⟨rfl, rfl, rfl, by decide +kernel, rfl, by decide +kernel, by decide +kernel⟩
theorem ok_rank {f : Addr} {fd : FuncData} (F : Fun K "rank" "rank" s_rank f fd) (T : Txt K mg C_Rounds C_Walk) : FnOk P w K mg base CX0 1 f fd ["text"] (sp_rank) := by
  refine F.ok sc_rank (fun vs H Q E h => ?_) (fun cdv A outer s H vs Q E hr h => ?_)
  · obtain ⟨l, rfl, _⟩ := h
    all_goals rfl
  · obtain ⟨l, rfl, hl, hz, k⟩ := h
    refine ⟨_, (pss_one (ps_ret (pe_tup (pa_cons (pe_callB call_len_str (by rfl) T.b_len (by decide +kernel) (pa_cons (pv 0) pa_nil)) (pa_cons (pe_lc (own := [("sign", 1)]) (g := gName 1) (tt := tYes) rfl sc_rank.nd (pi_str (pv 0)) (blkOk_by (own := [("sign", 1)]) (N := ["text", "sign"]) (sc := defScope s_rank) (by decide +kernel)) (fun _ _ _ _ _ => (pg_name (i := 1) sc_rank.nd rfl (Or.inl rfl))) (fun _ _ _ _ _ => pts_nil) (fun _ _ _ _ _ => (pe_m1 PySem.F.slot_str_index PySem.F.type_str_index mt_sindex (pe_globC T.g_SIGNS) (pv 1)))) pa_nil))))), ?_⟩
    refine ⟨_, rfl, _, rfl, by rw [len_S]; exact sz_of' (by omega), ?_⟩
    refine Evl.el_mapS (fun c => .int (ix c : Nat)) (Evl.ev_var rfl) (by rw [len_S]; omega) (fun _ => rfl) (fun c H1 e hc => ?_) H (Evl.Ex.refl H) _ fun q H1 nq e1 hq => ?_
    · obtain ⟨r, hr⟩ := six1 c (hl c hc)
      exact fun H2 e2 Q q => ⟨⟨_, rfl⟩, _, rfl, _, S [c], ix c, r, rfl, rfl, hr, q H2 (Evl.Ex.refl H2)⟩
    · refine ⟨by show 2 ≤ sizeLine; decide, fun t ht => ?_⟩
      rw [len_S]
      exact k t q _ (Same.trans e1 (Same.new ht)) (Same.free e1 ht) upd_same (by rw [upd_ne (ne_of_none hq ht)]; exact hq)
theorem sc_Walk___init__ : FnScope ["self", "places", "end", "some", "wrong"] ["self", "places", "end"] (defScope s_Walk___init__) := ⟨rfl, rfl, rfl, by decide +kernel, rfl, by decide +kernel, by decide +kernel⟩
theorem ok_Walk___init__ {f : Addr} {fd : FuncData} (F : FunD K "__init__" "Walk.__init__" (defArgs s_Walk___init__) (defBody s_Walk___init__) (defScope s_Walk___init__) [.non, .str ""] [] f fd) (T : Txt K mg C_Rounds C_Walk) (kn_first_wrong : KN P w K mg base CX0 4 ["places"] (sp_first_wrong K) "first_wrong" []) (kn_rank : KN P w K mg base CX0 1 ["text"] (sp_rank) "rank" []) : FnOk P w K mg base CX0 5 f fd ["self", "places", "end"] (sp_Walk___init__ K C_Walk) := by
  obtain ⟨f_first_wrong, fd_first_wrong, ds_first_wrong, m_first_wrong, k_first_wrong, v_first_wrong, b_first_wrong, G_first_wrong⟩ := kn_first_wrong
  obtain ⟨f_rank, fd_rank, ds_rank, m_rank, k_rank, v_rank, b_rank, G_rank⟩ := kn_rank
  refine F.ok0 sc_Walk___init__ (fun vs H Q E h => ?_) (fun cdv A outer s H vs Q E hr h => ?_)
  · obtain ⟨a, dx, q, ts, e, rfl, _⟩ := h
    all_goals rfl
  · obtain ⟨a, dx, q, ts, e, rfl, ha, hq, ht, he, k⟩ := h
    refine ⟨_, (pss_cons (ps_set (i := 3) sc_Walk___init__.nd rfl (Or.inl rfl) (pe_lst (pa_cons pe_str pa_nil)))
    (pss_cons (ps_if (pt_cmpR op_notN (pv 1) pe_non (nomark _)) (pss_cons (ps_if (PW.pt (pw_or (pt_not (pt_val (pe_callB (call_isiTK (K := K)) (by rfl) T.b_isinstance (by decide +kernel) (pa_cons (pv 1) (pa_cons (pe_tup (pa_cons (pe_bltn (v := .ty "list") (by rfl) T.b_list (by decide +kernel) rfl) (pa_cons (pe_bltn (v := .ty "tuple") (by rfl) T.b_tuple (by decide +kernel) rfl) pa_nil))) pa_nil))))) (pw_or1 (pt_not (pt_chain op_le op_le pe_int (pe_callB (call_lenK (K := K)) (by rfl) T.b_len (by decide +kernel) (pa_cons (pv 1) pa_nil)) (pe_globC T.g_MOST_PLACES)))))) (pss_one ps_never) pss_nil)
    (pss_one (ps_set (i := 3) sc_Walk___init__.nd rfl (Or.inl rfl) (pe_callTy (call_listK (K := K)) (by rfl) T.b_list (by decide +kernel) (pa_cons (pv 1) pa_nil))))) pss_nil)
    (pss_cons (ps_set (i := 4) sc_Walk___init__.nd rfl (Or.inl rfl) (pe_call G_first_wrong (hr.mono (by decide)) rfl m_first_wrong k_first_wrong b_first_wrong v_first_wrong pass0 (pa_cons (pv 3) pa_nil)))
    (pss_cons (ps_if (pt_cmpR op_notN (pv 4) pe_non (nomark _)) (pss_one ps_never) pss_nil)
    (pss_cons (ps_if (PW.pt (pw_or (pt_not (pt_val (pe_callB (call_isiK1 (K := K)) (by rfl) T.b_isinstance (by decide +kernel) (pa_cons (pv 2) (pa_cons (pe_bltn (v := .ty "str") (by rfl) T.b_str (by decide +kernel) rfl) pa_nil))))) (pw_or1 (pt_cmpR (op_notInK (K := K)) (pv 2) (pv 3) (by rfl))))) (pss_one ps_never) pss_nil)
    (pss_cons (ps_fld (pv 0) (pe_callBK (call_sortF (K := K) G_rank (hr.mono (by decide)) b_rank v_rank) (by rfl) T.b_sorted (by decide +kernel) (pa_cons (pv 3) pa_nil) (pk_cons (pe_glob (v := .ref f_rank) rfl m_rank rfl) pk_nil)) rfl)
    (pss_one (ps_fld (pv 0) (pv 2) rfl)))))))), ?_⟩
    refine ⟨by show 1 ≤ sizeLine; decide, fun b hb => ?_⟩
    have q1 := Same.new (o := .lst [sT []]) hb
    refine ⟨_, rfl, rfl, _, rfl, iteT ?_⟩
    have gq := q1 _ _ hq
    refine ⟨_, rfl, by show 2 ≤ sizeLine; decide, fun t htt => ⟨_, t, _, _, _, true, rfl, upd_same, .cons (.ty "list") (.cons (.ty "tuple") .nil), .base (.lst (Same.new htt _ _ gq)), kitAny_cons (b := true) (kit_ty (by decide +kernel)) (fun h => nomatch h) (fun _ => rfl), _, rfl, iteF ?_⟩⟩
    have q2 := Same.trans q1 (Same.new (o := .tup [.ty "list", .ty "tuple"]) htt)
    have gq := q2 _ _ hq
    refine ⟨_, rfl, q, _, rfl, .inl (SqL.of gq), _, _, rfl, rfl, _, rfl, ?_⟩
    have n0 := ht.n0
    have n1 := ht.n1
    rw [List.length_map, decide_eq_true (by omega : (1 : Int) ≤ (ts.length : Int))]
    refine iteT ⟨_, _, rfl, rfl, _, rfl, ?_⟩
    rw [decide_eq_true (by omega : (ts.length : Int) ≤ 61)]
    refine iteF ⟨_, rfl, q, _, rfl, .inl (SqL.of gq), fun l hl => ?_⟩
    have q3 := Same.trans q2 (Same.new (o := .lst (ts.map sT)) hl)
    refine ⟨_, rfl, l, ts, rfl, SqL.of upd_same, ht, fun H4 s4 => ?_⟩
    have q4 := Same.trans q3 s4
    have gl := s4 _ _ (upd_same (o := .lst (ts.map sT)))
    refine ⟨_, rfl, rfl, _, rfl, iteF ?_⟩
    refine ⟨_, rfl, .str (S e), _, _, _, true, rfl, .ty "str", .base (.str _), kit_ty (by decide +kernel), _, rfl, iteF ?_⟩
    refine ⟨_, rfl, _, rfl, l, _, rfl, .inl (SqL.of gl), rfl, flat_T ts, _, rfl, ?_⟩
    have ein : inV (.str (S e)) (ts.map sT) = true := by
      show inV (sT e) (ts.map sT) = true
      rw [in_texts, decide_eq_true he]
    rw [if_pos rfl, ein]
    refine iteF ?_
    refine ⟨_, rfl, l, bsT ts, rfl, rfl, SqL.of (by rw [bsT_fst]; exact gl), alike_bsT ts, sortable_bsT ts, by unfold bsT; rw [List.length_map]; omega, fun b hb => ?_, fun b hb H1 s1 Q1 h => ?_, fun p H5 s5 np gp => ?_⟩
    · obtain ⟨x, _, rfl⟩ := List.mem_map.mp hb
      exact depth_rank2 x
    · obtain ⟨x, hx, rfl⟩ := List.mem_map.mp hb
      exact ⟨x, rfl, (ht.t.pr x hx).1, by have := ht.z x hx; omega, fun t q H' s nt gt gq => h _ H' s fun H3 s3 => dp_rank (s3 _ _ gt) (s3 _ _ gq)⟩
    rw [sort_bsT] at gp
    have q5 := Same.trans q4 s5
    have ne : p ≠ a := fun z => by rw [z, q4 _ _ ha] at np; cases np
    refine ⟨_, rfl, a, C_Walk, dx, [], rfl, q5 _ _ ha, T.o_Walk.cls, T.y_Walk_own_places, by decide, ?_⟩
    refine ⟨_, rfl, _, rfl, a, C_Walk, dx, _, rfl, upd_same, T.o_Walk.cls, T.y_Walk_own_end, by show 1 < 1000; decide, ?_⟩
    refine k p _ (fun b o hb h => ?_) (Same.free q4 np) ⟨⟨dx, upd_same⟩, ?_⟩
    · rw [upd_ne hb, upd_ne hb]
      exact q5 _ _ h
    · rw [upd_ne ne, upd_ne ne]
      exact gp
theorem sc_Walk___len__ : FnScope ["self"] ["self"] (defScope s_Walk___len__) := ⟨rfl, rfl, rfl, by decide +kernel, rfl, by decide +kernel, by decide +kernel⟩
theorem ok_Walk___len__ {f : Addr} {fd : FuncData} (F : Fun K "__len__" "Walk.__len__" s_Walk___len__ f fd) (T : Txt K mg C_Rounds C_Walk) : FnOk P w K mg base CX0 1 f fd ["self"] (sp_Walk___len__ C_Walk) := by
  refine F.ok sc_Walk___len__ (fun vs H Q E h => ?_) (fun cdv A outer s H vs Q E hr h => ?_)
  · obtain ⟨a, q, ps, e, rfl, _⟩ := h
    all_goals rfl
  · obtain ⟨a, q, ps, e, rfl, hw, hz, k⟩ := h
    refine ⟨_, (pss_one (ps_ret (pe_callB (call_lenK (K := K)) (by rfl) T.b_len (by decide +kernel) (pa_cons (pe_fld (pv 0) rfl) pa_nil)))), ?_⟩
    obtain ⟨⟨dx, ga⟩, gq⟩ := hw
    refine ⟨_, rfl, a, C_Walk, dx, _, _, rfl, ga, T.o_Walk.cls, T.y_Walk_own_places, rfl, q, _, rfl, .inl (SqL.of gq), ?_⟩
    rw [List.length_map]
    exact k H (Same.refl H)
theorem sc_Walk_end : FnScope ["self"] ["self"] (defScope s_Walk_end) := ⟨rfl, rfl, rfl, by decide +kernel, rfl, by decide +kernel, by decide +kernel⟩
theorem ok_Walk_end {f : Addr} {fd : FuncData} (F : Fun K "end" "Walk.end" s_Walk_end f fd) (T : Txt K mg C_Rounds C_Walk) : FnOk P w K mg base CX0 1 f fd ["self"] (sp_Walk_end C_Walk) := by
  refine F.ok sc_Walk_end (fun vs H Q E h => ?_) (fun cdv A outer s H vs Q E hr h => ?_)
  · obtain ⟨a, q, ps, e, rfl, _⟩ := h
    all_goals rfl
  · obtain ⟨a, q, ps, e, rfl, hw, k⟩ := h
    refine ⟨_, (pss_one (ps_ret (pe_fld (pv 0) rfl))), ?_⟩
    obtain ⟨⟨dx, ga⟩, gq⟩ := hw
    exact ⟨_, rfl, a, C_Walk, dx, _, _, rfl, ga, T.o_Walk.cls, T.y_Walk_own_end, rfl, k H (Same.refl H)⟩
theorem sc_signs_many : FnScope ["walk"] ["walk"] (defScope s_signs_many) := ⟨rfl, rfl, rfl, by decide +kernel, rfl, by decide +kernel, by decide +kernel⟩
theorem ok_signs_many {f : Addr} {fd : FuncData} (F : Fun K "signs_many" "signs_many" s_signs_many f fd) (T : Txt K mg C_Rounds C_Walk) (kn_Walk___len__ : KM P w K mg base CX0 1 ["self"] (sp_Walk___len__ C_Walk) C_Walk "__len__" []) (kn_Walk_end : KM P w K mg base CX0 1 ["self"] (sp_Walk_end C_Walk) C_Walk "end" []) : FnOk P w K mg base CX0 4 f fd ["walk"] (sp_signs_many C_Walk) := by
  obtain ⟨f_Walk___len__, fd_Walk___len__, ds_Walk___len__, i_Walk___len__, t_Walk___len__, fn_Walk___len__, k_Walk___len__, v_Walk___len__, b_Walk___len__, G_Walk___len__⟩ := kn_Walk___len__
  obtain ⟨f_Walk_end, fd_Walk_end, ds_Walk_end, i_Walk_end, t_Walk_end, fn_Walk_end, k_Walk_end, v_Walk_end, b_Walk_end, G_Walk_end⟩ := kn_Walk_end
  refine F.ok sc_signs_many (fun vs H Q E h => ?_) (fun cdv A outer s H vs Q E hr h => ?_)
  · obtain ⟨a, q, ps, e, rfl, _⟩ := h
    all_goals rfl
  · obtain ⟨a, q, ps, e, rfl, hw, hz, hy, k⟩ := h
    refine ⟨_, (pss_one (ps_ret (pe_op op_sub (pe_op op_mul pe_int (pe_op op_sub (pe_callB (call_lenO i_Walk___len__ fn_Walk___len__ G_Walk___len__ (hr.mono (by decide)) b_Walk___len__ v_Walk___len__ pass0) (by rfl) T.b_len (by decide +kernel) (pa_cons (pv 0) pa_nil)) pe_int)) (pe_callB call_len_str (by rfl) T.b_len (by decide +kernel) (pa_cons (pe_meth0 (pv 0) T.o_Walk.cls ⟨i_Walk_end, fn_Walk_end, k_Walk_end⟩ G_Walk_end (hr.mono (by decide)) b_Walk_end v_Walk_end pass0) pa_nil))))), ?_⟩
    obtain ⟨⟨dx, ga⟩, gq⟩ := id hw
    refine ⟨_, rfl, a, dx, _, rfl, ga, a, q, ps, e, rfl, hw, hz, fun H1 s1 => ⟨ps.length, rfl, by omega, _, _, rfl, rfl, _, _, rfl, rfl, .inl ⟨by decide, by decide⟩, ?_⟩⟩
    refine ⟨_, rfl, a, dx, _, rfl, s1 _ _ ga, rfl, a, q, ps, e, rfl, hw.same s1, fun H2 s2 => ⟨_, rfl, sz_of' (by rw [len_S]; omega), _, _, rfl, rfl, ?_⟩⟩
    rw [len_S]
    exact k H2 (Same.trans s1 s2)
theorem sc_law_gone : FnScope ["_law_places_here", "_law_end", "_law_signs", "_law_some", "_law_turn", "_law_later", "_law_row_here", "_law_seen", "_law_sign", "_law_here", "_law_left"] ["_law_places_here", "_law_end", "_law_signs"] (defScope s_law_gone) := ⟨rfl, rfl, rfl, by decide +kernel, rfl, by decide +kernel, by decide +kernel⟩
theorem ok_law_gone {f : Addr} {fd : FuncData} (F : Fun K "_law_gone" "_law_gone" s_law_gone f fd) (T : Txt K mg C_Rounds C_Walk) (kn_law_plain : KN P w K mg base CX0 2 ["_law_text"] (sp_law_plain) "_law_plain" []) : FnOk P w K mg base CX0 3 f fd ["_law_places_here", "_law_end", "_law_signs"] (sp_law_gone K) := by
  obtain ⟨f_law_plain, fd_law_plain, ds_law_plain, m_law_plain, k_law_plain, v_law_plain, b_law_plain, G_law_plain⟩ := kn_law_plain
  refine F.ok sc_law_gone (fun vs H Q E h => ?_) (fun cdv A outer s H vs Q E hr h => ?_)
  · obtain ⟨q, ps, e, n, rfl, _⟩ := h
    all_goals rfl
  · obtain ⟨q, ps, e, n, rfl, hq, hn, hz, he, hN, k⟩ := h
    refine ⟨_, (pss_cons (ps_set (i := 3) sc_law_gone.nd rfl (Or.inl rfl) (pe_lst (pa_cons (pe_tup (pa_cons pe_str (pa_cons (pe_lst (pa_cons pe_str pa_nil)) pa_nil))) pa_nil)))
    (pss_cons (ps_for PassesOwn.never rfl (pi_range1 (by rfl) T.b_range (pa_cons (pv 2) pa_nil)) (pg_name (i := 4) sc_law_gone.nd rfl (Or.inl rfl)) (pss_cons (ps_set (i := 5) sc_law_gone.nd rfl (Or.inl rfl) (pe_lst pa_nil))
    (pss_cons (ps_for PassesOwn.never rfl (pi_list (pv 3)) (pg_tup rfl (pgs_cons (pg_name (i := 6) sc_law_gone.nd rfl (Or.inl rfl)) (pgs_cons (pg_name (i := 7) sc_law_gone.nd rfl (Or.inl rfl)) pgs_nil))) (pss_one (ps_for PassesOwn.never rfl (pi_str pe_str) (pg_name (i := 8) sc_law_gone.nd rfl (Or.inl rfl)) (pss_cons (ps_set (i := 9) sc_law_gone.nd rfl (Or.inl rfl) (pe_call G_law_plain (hr.mono (by decide)) rfl m_law_plain k_law_plain b_law_plain v_law_plain pass0 (pa_cons (pe_op op_add_str (pv 6) (pv 8)) pa_nil)))
    (pss_one (ps_if (pt_cmpR (op_inK (K := K)) (pv 9) (pv 0) (by rfl)) (pss_cons (ps_set (i := 10) sc_law_gone.nd rfl (Or.inl rfl) (pe_op op_sub (pe_op op_sub (pe_callB (call_lenK (K := K)) (by rfl) T.b_len (by decide +kernel) (pa_cons (pv 0) pa_nil)) (pe_callB (call_lenK (K := K)) (by rfl) T.b_len (by decide +kernel) (pa_cons (pv 7) pa_nil))) (pe_callTy call_int1 (by rfl) T.b_int (by decide +kernel) (pa_cons (pe_cmpR (op_notInK (K := K)) (pv 9) (pv 7) (by rfl)) pa_nil))))
    (pss_one (ps_if (pt_cmpR op_le (pv 10) (pe_op op_sub (pe_op op_sub (pv 2) (pv 4)) pe_int) (nomark _)) (pss_one (ps_expr (pe_bm PySem.F.plainAttrs_list PySem.F.slot_list_append PySem.F.type_list_append mt_append (pv 5) (pa_cons (pe_tup (pa_cons (pe_op op_add_str (pv 6) (pv 8)) (pa_cons (pe_op op_cat (pv 7) (pe_op op_rep (pe_lst (pa_cons (pv 9) pa_nil)) (pe_callTy call_int1 (by rfl) T.b_int (by decide +kernel) (pa_cons (pe_cmpR (op_notInK (K := K)) (pv 9) (pv 7) (by rfl)) pa_nil)))) pa_nil))) pa_nil)))) pss_nil))) pss_nil))))))
    (pss_one (ps_set (i := 3) sc_law_gone.nd rfl (Or.inl rfl) (pv 5))))))
    (pss_one (ps_ret (pe_lc (own := [("_law_row_here", 6), ("_law_seen", 7)]) (g := (gTup K 2 (gCons (gName 6) (gCons (gName 7) gNil)))) rfl sc_law_gone.nd (pi_list (pv 3)) (blkOk_by (own := [("_law_row_here", 6), ("_law_seen", 7)]) (N := ["_law_places_here", "_law_end", "_law_signs", "_law_some", "_law_turn", "_law_later", "_law_row_here", "_law_seen", "_law_sign", "_law_here", "_law_left"]) (sc := defScope s_law_gone) (by decide +kernel)) (fun _ _ _ _ _ => (pg_tup rfl (pgs_cons (pg_name (i := 6) sc_law_gone.nd rfl (Or.inl rfl)) (pgs_cons (pg_name (i := 7) sc_law_gone.nd rfl (Or.inl rfl)) pgs_nil)))) (fun _ _ _ _ _ => pts_one (PW.pt (pw_and (pt_cmpR op_eq (pe_callB (call_lenK (K := K)) (by rfl) T.b_len (by decide +kernel) (pa_cons (pv 7) pa_nil)) (pe_callB (call_lenK (K := K)) (by rfl) T.b_len (by decide +kernel) (pa_cons (pv 0) pa_nil)) (nomark _)) (pw_and1 (pt_cmpR op_eq (pe_call G_law_plain (hr.mono (by decide)) rfl m_law_plain k_law_plain b_law_plain v_law_plain pass0 (pa_cons (pv 6) pa_nil)) (pv 1) (nomark _)))))) (fun _ _ _ _ _ => (pv 6))))))), ?_⟩
    have zps : ps.length < sizeLine := Nat.lt_of_le_of_lt hz (by decide)
    refine ⟨by show 1 ≤ sizeLine; decide, fun q0 hq0 => ⟨by show 2 ≤ sizeLine; decide, fun t0 ht0 => ⟨by show 1 ≤ sizeLine; decide, fun D0 hD0 => ?_⟩⟩⟩
    have nt0 : q0 ≠ t0 := ne_of_none upd_same ht0
    have s0 : Same H (upd (upd (upd H q0 (.lst [V.str (Str.ofString "")])) t0 (.tup [V.str (Str.ofString ""), .ref q0])) D0 (.lst [.ref t0])) := Same.trans (Same.new hq0) (Same.trans (Same.new ht0) (Same.new hD0))
    have gp0 : GP (upd (upd (upd H q0 (.lst [V.str (Str.ofString "")])) t0 (.tup [V.str (Str.ofString ""), .ref q0])) D0 (.lst [.ref t0])) [t0] [([], q0)] := by
      refine GP.snoc (ts := []) (xs := []) GP.nil ?_ ?_
      · rw [upd_ne (ne_of_none upd_same hD0), upd_same]
        rfl
      · rw [upd_ne (ne_of_none ((upd_ne nt0).trans upd_same) hD0), upd_ne nt0, upd_same]
        rfl
    have g0 := upd_same (H := upd (upd H q0 (.lst [V.str (Str.ofString "")])) t0 (.tup [V.str (Str.ofString ""), .ref q0])) (a := D0) (o := HO.lst [.ref t0])
    generalize upd (upd (upd H q0 (.lst [V.str (Str.ofString "")])) t0 (.tup [V.str (Str.ofString ""), .ref q0])) D0 (.lst [.ref t0]) = H1 at s0 gp0 g0 ⊢
    refine ⟨_, rfl, _, rfl, by omega, by omega, for_range (lo := 0) (n := n) (fun i σ H' => ∃ (D : Addr) (ts : List Addr) (xs : List (List Nat × Addr)) (x4 x5 x6 x7 x8 x9 x10 : Option V), σ = [some (.ref q), some (.str (S e)), some (.int (n : Int)), some (.ref D), x4, x5, x6, x7, x8, x9, x10] ∧ Same H H' ∧ H' D = some (.lst (ts.map V.ref)) ∧ GP H' ts xs ∧ xs.map (·.1) = genR ps n i)
      ⟨D0, [t0], [([], q0)], none, none, none, none, none, none, none, rfl, s0, g0, gp0, rfl⟩ ?_ ?_⟩
    · rintro i σ H2 hi ⟨D, ts, xs, x4, x5, x6, x7, x8, x9, x10, rfl, s2, gD, gp, ex⟩
      have zx : xs.length ≤ 6 ^ 8 := by
        have h1 := gen_size (ps := ps) n i
        rw [← ex, List.length_map] at h1
        exact Nat.le_trans h1 (Nat.pow_le_pow_right (by decide) (by omega))
      refine ⟨by show 0 ≤ sizeLine; decide, fun L hL => ?_⟩
      have s3 := Same.new (o := .lst []) hL
      have gL := upd_same (H := H2) (a := L) (o := HO.lst [])
      have hLn := hL
      generalize upd H2 L (.lst []) = H3 at s3 gL ⊢
      refine ⟨_, rfl, D, rfl, ⟨_, SqL.of (s3 _ _ gD)⟩, for_list (K := K) (a := D) (xs := ts.map V.ref) (fun j σ H' => ∃ (us : List Addr) (ys : List (List Nat × Addr)) (x6 x7 x8 x9 x10 : Option V), σ = [some (.ref q), some (.str (S e)), some (.int (n : Int)), some (.ref D), some (.int (0 + (i : Int))), some (.ref L), x6, x7, x8, x9, x10] ∧ Same H2 H' ∧
          H' L = some (.lst (us.map V.ref)) ∧ GP H' us ys ∧ (∀ y ∈ ys, y.2 ≠ L) ∧ ys.map (·.1) = ((xs.take j).map (·.1)).flatMap (kids ps n i))
        ⟨[], [], _, _, _, _, _, rfl, s3, gL, GP.nil, (fun y hy => nomatch hy), rfl⟩ (fun _ _ H' _ ⟨_, _, _, _, _, _, _, _, s, _⟩ => SqL.of (s _ _ gD)) ?_ ?_⟩
      rotate_left
      · rintro σ H4 ⟨us, ys, y6, y7, y8, y9, y10, rfl, s4, gL4, gp4, _, ey⟩
        refine ⟨_, rfl, L, us, ys, _, _, _, _, _, _, _, rfl, Same.trans s2 s4, gL4, gp4, ?_⟩
        rw [ey, List.length_map, gp.len, List.take_length, ex]
        rfl
      rintro j v σ H4 hj ⟨us, ys, y6, y7, y8, y9, y10, rfl, s4, gL4, gp4, ne4, ey⟩
      rw [List.getElem?_map] at hj
      obtain ⟨t, ht, rfl⟩ := Option.map_eq_some_iff.mp hj
      obtain ⟨u, sq, hx, gt, gs⟩ := gp.get j t ht
      obtain ⟨zu, ru, gu⟩ := gen_ok (ps := ps) n i u (ex ▸ List.mem_map_of_mem (List.mem_of_getElem? hx))
      have gu := gu hN
      have ruR : Row u := fun c hc => sg6_sgns (ru c hc)
      have zg : (gone u).length ≤ 5 := by
        have h3 : ∀ (a b : List (List Nat)), a.Nodup → (∀ q ∈ a, q ∈ b) → a.length ≤ b.length := by
          intro a
          induction a with
          | nil => intro b _ _; exact Nat.zero_le _
          | cons x a ih =>
            intro b na ha
            obtain ⟨n1, n2⟩ := List.nodup_cons.mp na
            have hx := ha x List.mem_cons_self
            have := ih (b.erase x) n2 fun q hq => (List.mem_erase_of_ne (by intro z; subst z; exact n1 hq)).mpr (ha q (List.mem_cons_of_mem _ hq))
            rw [List.length_erase_of_mem hx] at this
            have := List.length_pos_of_mem hx
            rw [List.length_cons]
            omega
        exact Nat.le_trans (h3 _ _ (WalkM.tree_gone ruR).nd gu) hz
      have nqL : sq ≠ L := ne_of_none gs hLn
      have ntL : t ≠ L := ne_of_none gt hLn
      refine ⟨t, [_, _], rfl, SqT.of (s4 _ _ gt), rfl, _, _, rfl, _, _, rfl, rfl, ?_⟩
      refine ⟨_, rfl, for_it walk_str (fun m σ H' => ∃ (us : List Addr) (ys : List (List Nat × Addr)) (x8 x9 x10 : Option V), σ = [some (.ref q), some (.str (S e)), some (.int (n : Int)), some (.ref D), some (.int (0 + (i : Int))), some (.ref L), some (sT u), some (.ref sq), x8, x9, x10] ∧ Same H2 H' ∧
          H' L = some (.lst (us.map V.ref)) ∧ GP H' us ys ∧ (∀ y ∈ ys, y.2 ≠ L) ∧ ys.map (·.1) = ((xs.take j).map (·.1)).flatMap (kids ps n i) ++ ((sg6.take m).filter (goesOn ps n i u)).map fun c => u ++ [c])
        ⟨us, ys, _, _, _, rfl, s4, gL4, gp4, ne4, by rw [ey]; simp⟩ (fun _ _ _ _ _ => trivial) ?_ ?_⟩
      rotate_left
      · rintro σ H5 ⟨us, ys, y8, y9, y10, rfl, s5, gL5, gp5, ne5, ey5⟩
        refine ⟨us, ys, _, _, _, _, _, rfl, s5, gL5, gp5, ne5, ?_⟩
        rw [ey5, take_oneG hx, List.map_append, List.flatMap_append]
        have e6 : sg6.take (Str.ofString "aAbBcC").cps.size = sg6 := by decide +kernel
        rw [e6]
        simp [kids]
      rintro m v σ H5 H6 hm ⟨us, ys, y8, y9, y10, rfl, s5, gL5, gp5, ne5, ey5⟩ ⟨rfl, c, hc0, rfl⟩
      have hc := sg6_at hc0
      have c6 : c ∈ sg6 := List.mem_of_getElem? hc
      have sc := sg6_sgns c6
      have zy : ys.length ≤ 6 ^ 9 := by
        have h1 := congrArg List.length ey5
        rw [List.length_map, List.length_append, List.length_map] at h1
        have h2 := flat_len (kids ps n i) (kids_len n i) ((xs.take j).map (·.1))
        have h3 : ((sg6.take m).filter (goesOn ps n i u)).length ≤ 6 := Nat.le_trans (List.length_filter_le _ _) (Nat.le_trans (List.length_take_le' _ _) (by decide))
        have h4 : (xs.take j).length ≤ xs.length := by rw [List.length_take]; omega
        have h5 : j < xs.length := (List.getElem?_eq_some_iff.mp hx).1
        rw [List.length_map, List.length_take] at h2
        omega
      have et : ∀ b : Bool, goesOn ps n i u c = b → (sg6.take (m + 1)).filter (goesOn ps n i u) = (sg6.take m).filter (goesOn ps n i u) ++ if b then [c] else [] := fun b hb => by
        rw [List.take_add_one, hc, List.filter_append]
        cases b <;> simp [hb]
      have gs5 := s5 _ _ gs
      refine ⟨_, rfl, _, rfl, _, _, rfl, rfl, sz_str (m := [c]) (by omega) (by simp), u ++ [c], by rw [show S u ++ (⟨#[c]⟩ : Str) = S (u ++ [c]) from add_S _ _]; rfl, row_snoc ruR sc, by rw [List.length_append]; show _ + 1 ≤ _; omega, fun H7 s7 => ?_⟩
      rw [WalkM.plain_snoc]
      obtain ⟨p, ep⟩ : ∃ p, p = WalkM.on (RowM.plain u) c := ⟨_, rfl⟩
      have eg : gone (u ++ [c]) = addK (gone u) p := by rw [WalkM.gone_snoc, ep]
      rw [← ep]
      have s8 := Same.trans s5 s7
      have gs7 := s7 _ _ gs5
      have gL7 := s7 _ _ gL5
      have gp7 := gp5.same s7
      refine ⟨_, rfl, _, rfl, q, _, rfl, .inl (SqL.of (s8 _ _ (s2 _ _ hq))), rfl, flat_T _, _, rfl, ?_⟩
      rw [show inV (V.str (S p)) (ps.map sT) = decide (p ∈ ps) from in_texts _ _]
      have no : goesOn ps n i u c = false → ∀ (a8 a9 a10 : Option V), ∃ (us : List Addr) (ys : List (List Nat × Addr)) (x8 x9 x10 : Option V), [some (V.ref q), some (.str (S e)), some (.int (n : Int)), some (.ref D), some (.int (0 + (i : Int))), some (.ref L), some (sT u), some (.ref sq), a8, a9, a10] = [some (.ref q), some (.str (S e)), some (.int (n : Int)), some (.ref D), some (.int (0 + (i : Int))), some (.ref L), some (sT u), some (.ref sq), x8, x9, x10] ∧ Same H2 H7 ∧
          H7 L = some (.lst (us.map V.ref)) ∧ GP H7 us ys ∧ (∀ y ∈ ys, y.2 ≠ L) ∧ ys.map (·.1) = ((xs.take j).map (·.1)).flatMap (kids ps n i) ++ ((sg6.take (m + 1)).filter (goesOn ps n i u)).map fun c => u ++ [c] := fun h a8 a9 a10 => ⟨us, ys, _, _, _, rfl, s8, gL7, gp7, ne5, by rw [ey5, et _ h]; simp⟩
      by_cases hp : p ∈ ps
      rotate_left
      · rw [decide_eq_false hp]
        exact iteF (no (by unfold goesOn; rw [← ep, decide_eq_false hp, Bool.false_and]) _ _ _)
      rw [decide_eq_true hp]
      refine iteT ?_
      have eN : inV (V.str (S p)) ((gone u).map sT) = decide (p ∈ gone u) := in_texts _ _
      refine ⟨_, rfl, q, _, rfl, .inl (SqL.of (s8 _ _ (s2 _ _ hq))), _, rfl, sq, _, rfl, .inl (SqL.of gs7), _, _, rfl, rfl, _, rfl, _, rfl, sq, _, rfl, .inl (SqL.of gs7), rfl, flat_T _, .inr ⟨_, rfl, _, _, rfl, rfl, ?_⟩⟩
      rw [show (if true = true then !inV (V.str (S p)) ((gone u).map sT) else inV (V.str (S p)) ((gone u).map sT)) = !decide (p ∈ gone u) by rw [if_pos rfl, eN], List.length_map, List.length_map]
      have zn : ((gone (u ++ [c])).length : Int) = ((gone u).length : Int) + (if (!decide (p ∈ gone u)) = true then 1 else 0) := by
        rw [eg]
        unfold addK
        by_cases z : p ∈ gone u
        · rw [if_pos z, decide_eq_true z]
          simp
        · rw [if_neg z, decide_eq_false z, List.length_append]
          simp
      refine ⟨_, rfl, _, rfl, _, rfl, _, _, rfl, rfl, _, _, rfl, rfl, _, _, rfl, rfl, _, rfl, ?_⟩
      have ed : decide ((ps.length : Int) - ((gone u).length : Int) - (if (!decide (p ∈ gone u)) = true then 1 else 0) ≤ (n : Int) - (0 + (i : Int)) - 1) = decide ((ps.length : Int) - ((gone (u ++ [c])).length : Int) ≤ (n : Int) - i - 1) := decide_eq_decide.mpr (by rw [zn]; omega)
      rw [ed]
      by_cases hq2 : (ps.length : Int) - ((gone (u ++ [c])).length : Int) ≤ (n : Int) - i - 1
      rotate_left
      · rw [decide_eq_false hq2]
        exact iteF (no (by unfold goesOn; rw [decide_eq_false hq2, Bool.and_false]) _ _ _)
      rw [decide_eq_true hq2]
      have yes : goesOn ps n i u c = true := by unfold goesOn; rw [← ep, decide_eq_true hp, decide_eq_true hq2]; rfl
      refine iteT ⟨_, rfl, .inl ⟨rfl, _, SqL.of gL7⟩, _, rfl, _, rfl, _, _, rfl, rfl, sz_str (m := [c]) (by omega) (by simp), ?_⟩
      refine ⟨_, rfl, _, rfl, by show 1 ≤ sizeLine; decide, fun A hA => ?_⟩
      have sA := Same.new (o := .lst [V.str (S p)]) hA
      have gA := upd_same (H := H7) (a := A) (o := HO.lst [V.str (S p)])
      generalize upd H7 A (.lst [V.str (S p)]) = H8 at sA gA ⊢
      refine ⟨_, rfl, _, rfl, sq, _, rfl, .inl (SqL.of (sA _ _ gs7)), rfl, flat_T _, .inr ⟨_, rfl, A, _, _, rfl, rfl, gA, ?_, ?_, ?_, fun B hB => ?_⟩⟩
      · exact bi_lo _
      · exact bi_hi _
      · exact bi_len _ _
      rw [show (if true = true then !inV (V.str (S p)) ((gone u).map sT) else inV (V.str (S p)) ((gone u).map sT)) = !decide (p ∈ gone u) by rw [if_pos rfl, eN], rep_one_or]
      obtain ⟨nw, enw⟩ : ∃ nw, nw = (if (!decide (p ∈ gone u)) = true then [V.str (S p)] else []) := ⟨_, rfl⟩
      rw [← enw]
      have znw : nw.length ≤ 1 := by
        rw [enw]
        split
        · exact Nat.le_refl 1
        · exact Nat.zero_le 1
      have eg2 : (gone u).map sT ++ nw = (gone (u ++ [c])).map sT := by
        rw [eg, enw]
        unfold addK
        by_cases z : p ∈ gone u
        · rw [if_pos z, decide_eq_true z]
          simp
        · rw [if_neg z, decide_eq_false z, List.map_append]
          rfl
      have sB := Same.trans sA (Same.new (o := .lst nw) hB)
      have gB := upd_same (H := H8) (a := B) (o := HO.lst nw)
      generalize upd H8 B (.lst nw) = H9 at sB gB ⊢
      refine ⟨sq, B, _, _, rfl, rfl, sB _ _ gs7, gB, ?_, fun G hG => ⟨by show 2 ≤ sizeLine; decide, fun T2 hT2 => ?_⟩⟩
      · rw [List.length_map]
        exact Nat.le_trans (by omega : _ ≤ 6) (by decide)
      have nGL : G ≠ L := (ne_of_none (sB _ _ gL7) hG).symm
      rw [eg2] at hT2 ⊢
      rw [add_S u [c]]
      have sG := Same.trans sB (Same.new (o := .lst ((gone (u ++ [c])).map sT)) hG)
      have gG := upd_same (H := H9) (a := G) (o := HO.lst ((gone (u ++ [c])).map sT))
      generalize upd H9 G (.lst ((gone (u ++ [c])).map sT)) = H10 at sG gG hT2 ⊢
      have sT2 := Same.trans sG (Same.new (o := .tup [.str (S (u ++ [c])), .ref G]) hT2)
      have gT2 := upd_same (H := H10) (a := T2) (o := HO.tup [V.str (S (u ++ [c])), .ref G])
      have gG2 := Same.new (o := .tup [.str (S (u ++ [c])), .ref G]) hT2 _ _ gG
      generalize upd H10 T2 (.tup [.str (S (u ++ [c])), .ref G]) = H11 at sT2 gT2 gG2 ⊢
      have gL11 := sT2 _ _ gL7
      refine ⟨L, _, _, rfl, rfl, gL11, ?_, ?_⟩
      · rw [List.length_map, gp7.len]
        exact Nat.lt_of_le_of_lt zy (by decide)
      have gpX := ((gp7.same sT2).snoc gT2 gG2).upd (L := L) (ys := us) (o := .lst (us.map V.ref ++ [.ref T2])) gL11 (fun y hy => by
        rcases List.mem_append.mp hy with hy | hy
        · exact ne5 y hy
        · rw [List.mem_singleton.mp hy]
          exact nGL)
      refine ⟨us ++ [T2], ys ++ [(u ++ [c], G)], _, _, _, rfl, ?_, ?_, gpX, ?_, ?_⟩
      · intro b o hb
        rw [upd_ne (ne_of_none hb hLn)]
        exact sT2 _ _ (s8 _ _ hb)
      · rw [upd_same, List.map_append]
        rfl
      · intro y hy
        rcases List.mem_append.mp hy with hy | hy
        · exact ne5 y hy
        · rw [List.mem_singleton.mp hy]
          exact nGL
      · rw [List.map_append, ey5, et _ yes, List.map_append, List.append_assoc]
        rfl
    rintro σ H2 ⟨D, ts, xs, x4, x5, x6, x7, x8, x9, x10, rfl, s2, gD, gp, ex⟩
    have zx : xs.length ≤ 6 ^ 8 := by
      have h1 := gen_size (ps := ps) n n
      rw [← ex, List.length_map] at h1
      exact Nat.le_trans h1 (Nat.pow_le_pow_right (by decide) (by omega))
    refine ⟨_, rfl, D, rfl, ⟨_, SqL.of gD⟩, fun R hR => ?_⟩
    refine lc_list (K := K) (a := D) (xs := ts.map V.ref) (fun j H' => H' R = some (.lst ((((xs.take j).map (·.1)).filter fun u => decide ((gone u).length = ps.length) && decide (RowM.plain u = e)).map sT)) ∧ Same H2 H') ⟨upd_same, Same.new hR⟩ (fun j H' _ ⟨_, s⟩ => s.seq (SqL.of gD)) ?_ ?_
    · rintro j v H3 hj ⟨gR, s3⟩
      rw [List.getElem?_map] at hj
      obtain ⟨t, ht, rfl⟩ := Option.map_eq_some_iff.mp hj
      obtain ⟨u, sq, hx, gt, gs⟩ := gp.get j t ht
      obtain ⟨zu, ru, gu⟩ := gen_ok (ps := ps) n n u (ex ▸ List.mem_map_of_mem (List.mem_of_getElem? hx))
      have ruR : Row u := fun c hc => sg6_sgns (ru c hc)
      have gs3 := s3 _ _ gs
      refine ⟨t, [_, _], rfl, SqT.of (s3 _ _ gt), rfl, _, _, rfl, _, _, rfl, rfl, rfl, ?_⟩
      have et : ∀ b : Bool, (decide ((gone u).length = ps.length) && decide (RowM.plain u = e)) = b → ((xs.take (j + 1)).map (·.1)).filter (fun u => decide ((gone u).length = ps.length) && decide (RowM.plain u = e)) = ((xs.take j).map (·.1)).filter (fun u => decide ((gone u).length = ps.length) && decide (RowM.plain u = e)) ++ (if b then [u] else []) := fun b hb => by
        rw [take_oneG hx, List.map_append, List.filter_append]
        simp only [List.map_cons, List.map_nil, List.filter_cons, List.filter_nil, hb]
      have zR : (((xs.take j).map (·.1)).filter fun u => decide ((gone u).length = ps.length) && decide (RowM.plain u = e)).length < sizeLine := by
        refine Nat.lt_of_le_of_lt (List.length_filter_le _ _) ?_
        rw [List.length_map, List.length_take]
        exact Nat.lt_of_le_of_lt (by omega : _ ≤ 6 ^ 8) (by decide)
      have qR : ∀ H4, Same H3 H4 → (decide ((gone u).length = ps.length) && decide (RowM.plain u = e)) = true → ∃ acc, H4 R = some (.lst acc) ∧ acc.length < sizeLine ∧ (upd H4 R (.lst (acc ++ [sT u]))) R = some (.lst ((((xs.take (j + 1)).map (·.1)).filter fun u => decide ((gone u).length = ps.length) && decide (RowM.plain u = e)).map sT)) ∧ Same H2 (upd H4 R (.lst (acc ++ [sT u]))) := fun H4 s4 hb => by
        refine ⟨_, s4 _ _ gR, by rw [List.length_map]; exact zR, ?_, fun b o hb2 => ?_⟩
        · rw [upd_same, et _ hb, List.map_append]
          rfl
        · rw [upd_ne (ne_of_none hb2 hR)]
          exact s4 _ _ (s3 _ _ hb2)
      have nR : ∀ H4, Same H3 H4 → (decide ((gone u).length = ps.length) && decide (RowM.plain u = e)) = false → H4 R = some (.lst ((((xs.take (j + 1)).map (·.1)).filter fun u => decide ((gone u).length = ps.length) && decide (RowM.plain u = e)).map sT)) ∧ Same H2 H4 := fun H4 s4 hb => by
        refine ⟨?_, Same.trans s3 s4⟩
        rw [et _ hb]
        simpa using s4 _ _ gR
      refine ⟨_, rfl, sq, _, rfl, .inl (SqL.of gs3), _, rfl, q, _, rfl, .inl (SqL.of (s3 _ _ (s2 _ _ hq))), rfl, _, rfl, ?_⟩
      rw [List.length_map, List.length_map, show decide (V.int ((gone u).length : Int) = V.int (ps.length : Int)) = decide ((gone u).length = ps.length) from decide_eq_decide.mpr ⟨fun h => by injection h with h; omega, fun h => by rw [h]⟩]
      by_cases z1 : (gone u).length = ps.length
      rotate_left
      · rw [decide_eq_false z1]
        exact iteF (iteF (nR H3 (Same.refl H3) (by rw [decide_eq_false z1]; rfl)))
      rw [decide_eq_true z1]
      refine iteT ⟨_, rfl, u, rfl, ruR, by omega, fun H4 s4 => ⟨_, rfl, rfl, _, rfl, ?_⟩⟩
      rw [show decide (V.str (S (RowM.plain u)) = V.str (S e)) = decide (RowM.plain u = e) from dec_str _ _]
      by_cases z2 : RowM.plain u = e
      · rw [decide_eq_true z2]
        refine iteT ⟨_, rfl, ?_⟩
        exact qR H4 s4 (by rw [decide_eq_true z1, decide_eq_true z2]; rfl)
      · rw [decide_eq_false z2]
        exact iteF (nR H4 s4 (by rw [decide_eq_false z2, Bool.and_false]))
    rintro H3 ⟨gR, s3⟩
    rw [List.length_map, gp.len, List.take_length, ex] at gR
    exact k R H3 (Same.trans s2 s3) (Same.free s2 hR) gR
theorem sc_Walk_places : FnScope ["self"] ["self"] (defScope s_Walk_places) := ⟨rfl, rfl, rfl, by decide +kernel, rfl, by decide +kernel, by decide +kernel⟩
theorem ok_Walk_places {f : Addr} {fd : FuncData} (F : Fun K "places" "Walk.places" s_Walk_places f fd) (T : Txt K mg C_Rounds C_Walk) : FnOk P w K mg base CX0 1 f fd ["self"] (sp_Walk_places C_Walk) := by
  refine F.ok sc_Walk_places (fun vs H Q E h => ?_) (fun cdv A outer s H vs Q E hr h => ?_)
  · obtain ⟨a, q, ps, e, rfl, _⟩ := h
    all_goals rfl
  · obtain ⟨a, q, ps, e, rfl, hw, k⟩ := h
    refine ⟨_, (pss_one (ps_ret (pe_callTy (call_listK (K := K)) (by rfl) T.b_list (by decide +kernel) (pa_cons (pe_fld (pv 0) rfl) pa_nil)))), ?_⟩
    obtain ⟨⟨dx, ga⟩, gq⟩ := hw
    refine ⟨_, rfl, a, C_Walk, dx, _, _, rfl, ga, T.o_Walk.cls, T.y_Walk_own_places, rfl, q, _, rfl, .inl (SqL.of gq), fun l hl => ?_⟩
    exact k l _ (Same.new hl) hl upd_same
theorem sc_Rounds___init__ : FnScope ["self", "walk", "place"] ["self", "walk"] (defScope s_Rounds___init__) := ⟨rfl, rfl, rfl, by decide +kernel, rfl, by decide +kernel, by decide +kernel⟩
theorem ok_Rounds___init__ {f : Addr} {fd : FuncData} (F : Fun K "__init__" "Rounds.__init__" s_Rounds___init__ f fd) (T : Txt K mg C_Rounds C_Walk) (kn_Walk_end : KM P w K mg base CX0 1 ["self"] (sp_Walk_end C_Walk) C_Walk "end" []) (kn_Walk_places : KM P w K mg base CX0 1 ["self"] (sp_Walk_places C_Walk) C_Walk "places" []) (kn_rank : KN P w K mg base CX0 1 ["text"] (sp_rank) "rank" []) : FnOk P w K mg base CX0 4 f fd ["self", "walk"] (sp_Rounds___init__ K C_Rounds C_Walk) := by
  obtain ⟨f_Walk_end, fd_Walk_end, ds_Walk_end, i_Walk_end, t_Walk_end, fn_Walk_end, k_Walk_end, v_Walk_end, b_Walk_end, G_Walk_end⟩ := kn_Walk_end
  obtain ⟨f_Walk_places, fd_Walk_places, ds_Walk_places, i_Walk_places, t_Walk_places, fn_Walk_places, k_Walk_places, v_Walk_places, b_Walk_places, G_Walk_places⟩ := kn_Walk_places
  obtain ⟨f_rank, fd_rank, ds_rank, m_rank, k_rank, v_rank, b_rank, G_rank⟩ := kn_rank
  refine F.ok sc_Rounds___init__ (fun vs H Q E h => ?_) (fun cdv A outer s H vs Q E hr h => ?_)
  · obtain ⟨a, dx, w, q, ps, e, rfl, _⟩ := h
    all_goals rfl
  · obtain ⟨a, dx, w, q, ps, e, rfl, ha, hw, ho, he, nw, nq, k⟩ := h
    refine ⟨_, (pss_cons (ps_fld (pv 0) (pe_meth0 (pv 1) T.o_Walk.cls ⟨i_Walk_end, fn_Walk_end, k_Walk_end⟩ G_Walk_end (hr.mono (by decide)) b_Walk_end v_Walk_end pass0) rfl)
    (pss_cons (ps_fld (pv 0) pe_dnewK rfl)
    (pss_cons (ps_fld (pv 0) pe_str rfl)
    (pss_cons (ps_for PassesOwn.never rfl (pi_list (pe_meth0 (pv 1) T.o_Walk.cls ⟨i_Walk_places, fn_Walk_places, k_Walk_places⟩ G_Walk_places (hr.mono (by decide)) b_Walk_places v_Walk_places pass0)) (pg_name (i := 2) sc_Rounds___init__.nd rfl (Or.inl rfl)) (pss_cons (ps_dput (hu_of hr) (pe_fld (pv 0) rfl) (pv 2) pe_str rfl)
    (pss_one (ps_if (PW.pt (pw_and (pt_cmpR op_ne (pv 2) pe_str (nomark _)) (pw_and1 (pt_not (pt_val (pe_m1 PySem.F.slot_str_startswith PySem.F.type_str_startswith mt_startswith (pe_fld (pv 0) rfl) (pv 2))))))) (pss_one (ps_daug (hu_of hr) (pe_fld (pv 0) rfl) (pe_slice sl_str (pv 2) po_none (po_some (pe_un un_neg pe_int))) (pe_ix ix_str (pv 2) (pe_un un_neg pe_int) (fun _ _ => rfl)) in_addS (fun _ _ _ => rfl))) pss_nil))))
    (pss_one (ps_for PassesOwn.never rfl (pi_list (pe_meth0 (pv 1) T.o_Walk.cls ⟨i_Walk_places, fn_Walk_places, k_Walk_places⟩ G_Walk_places (hr.mono (by decide)) b_Walk_places v_Walk_places pass0)) (pg_name (i := 2) sc_Rounds___init__.nd rfl (Or.inl rfl)) (pss_one (ps_dput (hu_of hr) (pe_fld (pv 0) rfl) (pv 2) (pe_m1 PySem.F.slot_str_join PySem.F.type_str_join (mt_joinK (K := K)) pe_str (pe_callBK (call_sortFS G_rank (hr.mono (by decide)) b_rank v_rank rfl) (by rfl) T.b_sorted (by decide +kernel) (pa_cons (pe_dget (hu_of hr) (pe_fld (pv 0) rfl) (pv 2) (fun _ _ => rfl)) pa_nil) (pk_cons (pe_glob (v := .ref f_rank) rfl m_rank rfl) pk_nil))) rfl)))))))), ?_⟩
    obtain ⟨⟨dw, gw⟩, gq⟩ := id hw
    obtain ⟨ze, re⟩ := isRow_iff.mp he
    refine ⟨_, rfl, w, dw, _, rfl, gw, rfl, w, q, ps, e, rfl, hw, fun H1 s1 => ⟨_, rfl, a, C_Rounds, dx, [], rfl, s1 _ _ ha, T.o_Rounds.cls, T.y_Rounds_own_end, by decide, ?_⟩⟩
    refine fun d hd => ⟨_, rfl, a, C_Rounds, dx, _, rfl, Same.new hd _ _ upd_same, T.o_Rounds.cls, T.y_Rounds_own_left, by show 1 < 1000; decide, ?_⟩
    have nda : d ≠ a := fun z => by rw [z, upd_same] at hd; cases hd
    have hd1 : H1 d = none := by rw [upd_ne nda] at hd; exact hd
    have hdH : H d = none := Same.free s1 hd1
    refine ⟨_, rfl, a, C_Rounds, dx, _, rfl, upd_same, T.o_Rounds.cls, T.y_Rounds_own_here, by show 2 < 1000; decide, ?_⟩
    obtain ⟨H2, eH2⟩ : ∃ H2, H2 = upd (upd (upd (upd H1 a (.ins C_Rounds dx [(Str.ofString "own_end", sT e)])) d (.dK [])) a (.ins C_Rounds dx [(Str.ofString "own_end", sT e), (Str.ofString "own_left", .ref d)])) a (.ins C_Rounds dx (rdfs e d)) := ⟨_, rfl⟩
    have ga2 : H2 a = some (.ins C_Rounds dx (rdfs e d)) := by rw [eH2, upd_same]
    have gd2 : H2 d = some (.dK (kvL [] (fun _ => []))) := by rw [eH2, upd_ne nda, upd_ne nda, upd_same]; rfl
    have o2 : Off a H H2 := fun b o hb h => by
      have nbd : b ≠ d := ne_of_none h hdH
      rw [eH2, upd_ne hb, upd_ne hb, upd_ne nbd, upd_ne hb]
      exact s1 _ _ h
    show tSeq _ _ _ _ (upd (upd (upd (upd H1 a (.ins C_Rounds dx [(Str.ofString "own_end", sT e)])) d (.dK [])) a (.ins C_Rounds dx [(Str.ofString "own_end", sT e), (Str.ofString "own_left", .ref d)])) a (.ins C_Rounds dx (rdfs e d)))
    rw [← eH2]
    clear eH2
    have hw2 := hw.off o2 nw nq
    refine ⟨_, rfl, w, dw, _, rfl, o2 _ _ nw gw, rfl, w, q, ps, e, rfl, hw2, fun p H3 s3 np gp => ?_⟩
    have npa : p ≠ a := fun z => by rw [z, ga2] at np; cases np
    have npd : p ≠ d := fun z => by rw [z, gd2] at np; cases np
    have o3 : Off a H H3 := o2.trans (off_of s3)
    refine ⟨p, rfl, ⟨_, SqL.of gp⟩, for_list (K := K) (a := p) (xs := ps.map sT) (fun i σ H' => ∃ x g, σ = [some (.ref a), some (.ref w), x] ∧ Off a H H' ∧ H' a = some (.ins C_Rounds dx (rdfs e d)) ∧ H' d = some (.dK (kvL (ps.take i) g)) ∧ LeftR (ps.take i) e g ∧ H' p = some (.lst (ps.map sT)))
      ⟨_, fun _ => [], rfl, o3, s3 _ _ ga2, s3 _ _ gd2, ⟨(by intro q hq; cases hq), (by intro q hq; cases hq)⟩, gp⟩ (fun _ _ H' _ ⟨_, _, _, _, _, _, _, h⟩ => SqL.of h) ?_ ?_⟩
    · rintro i y σ H4 hy ⟨x, g, rfl, o4, ga4, gd4, L, gp4⟩
      rw [List.getElem?_map] at hy
      obtain ⟨r, hr, rfl⟩ := Option.map_eq_some_iff.mp hy
      have rm : r ∈ ps := List.mem_of_getElem? hr
      have zt : (kvL (ps.take i) g).length < sizeLine := by
        unfold kvL
        rw [List.length_map, List.length_take]
        have := ho.t.n1
        exact Nat.lt_of_le_of_lt (by omega : _ ≤ 61) (by decide)
      refine ⟨_, rfl, a, C_Rounds, dx, _, _, rfl, ga4, T.o_Rounds.cls, T.y_Rounds_own_left, rfl, _, rfl, d, _, rfl, DPut.k (k := kT r) gd4 zt, ?_⟩
      have en : putK (kvL (ps.take i) g) (kT r) (V.str (Str.ofString "")) = kvL (ps.take i ++ [r]) (setF g r []) := put_new (x := []) (ord_new ho hr)
      rw [en]
      have ga5 : (upd H4 d (.dK (kvL (ps.take i ++ [r]) (setF g r [])))) a = some (.ins C_Rounds dx (rdfs e d)) := by rw [upd_ne nda.symm]; exact ga4
      have gd5 : (upd H4 d (.dK (kvL (ps.take i ++ [r]) (setF g r [])))) d = some (.dK (kvL (ps.take (i + 1)) (setF g r []))) := by rw [upd_same, take_one hr]
      have gp5 : (upd H4 d (.dK (kvL (ps.take i ++ [r]) (setF g r [])))) p = some (.lst (ps.map sT)) := by rw [upd_ne npd]; exact gp4
      have o5 : Off a H (upd H4 d (.dK (kvL (ps.take i ++ [r]) (setF g r [])))) := fun b o hb h => by rw [upd_ne (ne_of_none h hdH)]; exact o4 b o hb h
      generalize upd H4 d (.dK (kvL (ps.take i ++ [r]) (setF g r []))) = H5 at ga5 gd5 gp5 o5
      refine ⟨_, rfl, rfl, _, rfl, ?_⟩
      by_cases r0 : r = []
      · subst r0
        exact iteF (iteF ⟨_, _, rfl, o5, ga5, gd5, leftR_in ho hr L (.inl rfl), gp5⟩)
      rw [show decide (sT r = V.str (Str.ofString "")) = false from ne_nil r0]
      refine iteT ⟨_, rfl, a, C_Rounds, dx, _, _, rfl, ga5, T.o_Rounds.cls, T.y_Rounds_own_end, rfl, ⟨_, rfl⟩, _, rfl, _, _, rfl, rfl, _, rfl, ?_⟩
      rw [starts_S]
      cases hp : r.isPrefixOf e with
      | true => exact iteF ⟨_, _, rfl, o5, ga5, gd5, leftR_in ho hr L (.inr hp), gp5⟩
      | false =>
        obtain ⟨m, c, rfl⟩ := exists_snoc r0
        have zr := ho.t.z _ rm
        refine iteT ⟨_, rfl, a, C_Rounds, dx, _, _, rfl, ga5, T.o_Rounds.cls, T.y_Rounds_own_left, rfl, _, rfl, _, rfl, _, rfl, _, rfl, sz_of' (by rw [len_S]; omega), ?_⟩
        rw [cut_last]
        have pm : m ∈ ps.take i := by
          have := ord_parent ho hr r0
          rwa [List.dropLast_concat] at this
        have pm1 : m ∈ ps.take (i + 1) := by rw [take_one hr]; exact List.mem_append_left _ pm
        have gv := val_L (setF g (m ++ [c]) []) pm1
        have L1 := leftR_on ho hr L hp
        have zg : (setF g (m ++ [c]) [] m).length ≤ 61 := by
          have h1 := (L1.1 m pm1).1
          rw [setF_same, List.length_append, List.length_singleton] at h1
          have := cnt_le (ps.take (i + 1)) e m
          rw [List.length_take] at this
          have := ho.t.n1
          omega
        refine ⟨d, sT (setF g (m ++ [c]) [] m), rfl, .inl ⟨_, kT m, .inl gd5, rfl, gv.symm⟩, ?_⟩
        refine ⟨_, rfl, _, rfl, _, _, c, rfl, rfl, sz_of' (by rw [len_S]; omega), at_last, ?_⟩
        refine ⟨_, _, rfl, rfl, sz_str (m := [c]) (by omega) (by simp), ?_⟩
        have ea : S (setF g (m ++ [c]) [] m) ++ (⟨#[c]⟩ : Str) = S (setF g (m ++ [c]) [] m ++ [c]) := add_S _ _
        rw [ea]
        have zt1 : (kvL (ps.take (i + 1)) (setF g (m ++ [c]) [])).length < sizeLine := by
          unfold kvL
          rw [List.length_map, List.length_take]
          have := ho.t.n1
          exact Nat.lt_of_le_of_lt (by omega : _ ≤ 61) (by decide)
        refine ⟨_, DPut.k (k := kT m) gd5 zt1, ?_⟩
        have en : putK (kvL (ps.take (i + 1)) (setF g (m ++ [c]) [])) (kT m) (V.str (S (setF g (m ++ [c]) [] m ++ [c]))) = kvL (ps.take (i + 1)) (setF (setF g (m ++ [c]) []) m (setF g (m ++ [c]) [] m ++ [c])) := put_old pm1
        rw [en]
        exact ⟨_, _, rfl, fun b o hb h => by rw [upd_ne (ne_of_none h hdH)]; exact o5 b o hb h, by rw [upd_ne nda.symm]; exact ga5, upd_same, L1, by rw [upd_ne npd]; exact gp5⟩
    rintro σ H4 ⟨x, g, rfl, o4, ga4, gd4, L, gp4⟩
    rw [List.length_map, List.take_length] at gd4 L
    -- the signs in their order
    have hw4 := hw.off o4 nw nq
    refine ⟨_, rfl, w, dw, _, rfl, o4 _ _ nw gw, rfl, w, q, ps, e, rfl, hw4, fun p2 H5 s5 np2 gp2 => ?_⟩
    have npa2 : p2 ≠ a := fun z => by rw [z, ga4] at np2; cases np2
    have npd2 : p2 ≠ d := fun z => by rw [z, gd4] at np2; cases np2
    refine ⟨p2, rfl, ⟨_, SqL.of gp2⟩, for_list (K := K) (a := p2) (xs := ps.map sT) (fun i σ H' => ∃ x g, σ = [some (.ref a), some (.ref w), x] ∧ Off a H H' ∧ H' a = some (.ins C_Rounds dx (rdfs e d)) ∧ H' d = some (.dK (kvL ps g)) ∧ LeftS ps e i g ∧ H' p2 = some (.lst (ps.map sT)))
      ⟨_, g, rfl, o4.trans (off_of s5), s5 _ _ ga4, s5 _ _ gd4, L.zero, gp2⟩ (fun _ _ H' _ ⟨_, _, _, _, _, _, _, h⟩ => SqL.of h) ?_ ?_⟩
    · rintro i y σ H6 hy ⟨x, g, rfl, o6, ga6, gd6, L, gp6⟩
      rw [List.getElem?_map] at hy
      obtain ⟨r, hr, rfl⟩ := Option.map_eq_some_iff.mp hy
      have rm : r ∈ ps := List.mem_of_getElem? hr
      have zg : (g r).length ≤ 61 := by rw [(L.1 r rm).1]; exact Nat.le_trans (cnt_le ps e r) ho.t.n1
      have rg : Row (g r) := (L.1 r rm).2
      refine ⟨⟨_, rfl⟩, _, rfl, a, C_Rounds, dx, _, _, rfl, ga6, T.o_Rounds.cls, T.y_Rounds_own_left, rfl, _, rfl, d, sT (g r), rfl, .inl ⟨_, kT r, .inl gd6, rfl, (val_L g rm).symm⟩, ?_⟩
      refine ⟨S (g r), bsT ((g r).map fun c => [c]), rfl, rfl, by rw [bsT_fst, List.map_map]; rfl, alike_bsT _, sortable_bsT _, by unfold bsT; rw [List.length_map, List.length_map]; omega, fun b hb => ?_, fun b hb H1 s1 Q1 h => ?_, fun u H7 s7 nu gu => ?_⟩
      · obtain ⟨x, _, rfl⟩ := List.mem_map.mp hb
        exact depth_rank2 x
      · obtain ⟨x, hx, rfl⟩ := List.mem_map.mp hb
        obtain ⟨c, hc, rfl⟩ := List.mem_map.mp hx
        exact ⟨[c], rfl, (fun z hz => by rw [List.mem_singleton.mp hz]; exact rg c hc), by show 1 ≤ 40000; decide, fun t q H' s nt gt gq => h _ H' s fun K H3 s3 => dp_rank (s3 _ _ gt) (s3 _ _ gq)⟩
      rw [sort_bsT] at gu
      obtain ⟨y, hy2⟩ : ∃ y, y = sgS (g r) := ⟨_, rfl⟩
      have ey : srt ((g r).map fun c => [c]) = y.map fun c => [c] := by rw [hy2]; exact (sgS_map _).symm
      have py : y.Perm (g r) := by rw [hy2]; exact sgS_perm _
      have ez : (y.map fun c => [c]).map sT = (y.map fun c => S [c]).map V.str := by rw [List.map_map, List.map_map]; rfl
      rw [ey, ez] at gu
      have zy : y.length ≤ 61 := by rw [py.length_eq]; exact zg
      refine ⟨_, u, y.map (fun c => S [c]), rfl, rfl, .inl (SqL.of gu), ?_, ?_⟩
      · rw [sum_ones, List.length_map]
        show y.length + y.length * 0 ≤ 16777216
        omega
      rw [join_S _ (by decide)]
      have gd7 := s7 _ _ gd6
      have zt : (kvL ps g).length < sizeLine := by
        unfold kvL
        rw [List.length_map]
        exact Nat.lt_of_le_of_lt ho.t.n1 (by decide)
      refine ⟨_, rfl, a, C_Rounds, dx, _, _, rfl, s7 _ _ ga6, T.o_Rounds.cls, T.y_Rounds_own_left, rfl, _, rfl, d, _, rfl, DPut.k (k := kT r) gd7 zt, ?_⟩
      have en : putK (kvL ps g) (kT r) (V.str (S y)) = kvL ps (setF g r y) := put_old rm
      rw [en]
      exact ⟨_, _, rfl, fun b o hb h => by rw [upd_ne (ne_of_none h hdH)]; exact s7 _ _ (o6 b o hb h), by rw [upd_ne nda.symm]; exact s7 _ _ ga6, upd_same, by rw [hy2]; exact leftS_set ho hr L, by rw [upd_ne npd2]; exact s7 _ _ gp6⟩
    rintro σ H6 ⟨x, g, rfl, o6, ga6, gd6, L, gp6⟩
    rw [List.length_map] at L
    exact k d H6 o6 hdH ⟨⟨dx, ga6⟩, by rw [← L.fin]; exact gd6, nda.symm⟩
theorem sc_Rounds_rest_many : FnScope ["self", "found", "place", "number"] ["self"] (defScope s_Rounds_rest_many) := ⟨rfl, rfl, rfl, by decide +kernel, rfl, by decide +kernel, by decide +kernel⟩
theorem ok_Rounds_rest_many {f : Addr} {fd : FuncData} (F : Fun K "rest_many" "Rounds.rest_many" s_Rounds_rest_many f fd) (T : Txt K mg C_Rounds C_Walk) : FnOk P w K mg base CX0 1 f fd ["self"] (sp_Rounds_rest_many K C_Rounds) := by
  refine F.ok sc_Rounds_rest_many (fun vs H Q E h => ?_) (fun cdv A outer s H vs Q E hr h => ?_)
  · obtain ⟨a, d, ps, e, g, rfl, _⟩ := h
    all_goals rfl
  · obtain ⟨a, d, ps, e, g, rfl, hr0, hz, k⟩ := h
    refine ⟨_, (pss_cons (ps_set (i := 1) sc_Rounds_rest_many.nd rfl (Or.inl rfl) pe_int)
    (pss_cons (ps_lock (ps_for PassesOwn.never rfl (pi_keys (pe_fld (pv 0) rfl)) (pg_name (i := 2) sc_Rounds_rest_many.nd rfl (Or.inl rfl)) (pss_one (ps_for PassesOwn.never rfl (pi_range1 (by rfl) T.b_range (pa_cons (pe_callB call_len_str (by rfl) T.b_len (by decide +kernel) (pa_cons (pe_dget (hu_of hr) (pe_fld (pv 0) rfl) (pv 2) (fun _ _ => rfl)) pa_nil)) pa_nil)) (pg_name (i := 3) sc_Rounds_rest_many.nd rfl (Or.inl rfl)) (pss_one (ps_aug (i := 1) sc_Rounds_rest_many.nd rfl (Or.inl rfl) (pe_op op_add (pv 3) pe_int) iop_mul))))))
    (pss_one (ps_ret (pv 1))))), ?_⟩
    obtain ⟨⟨dx, ga⟩, gd, nad⟩ := hr0
    refine ⟨d, _, gd, trivial, fun od => ?_⟩
    have gaL : (upd H d (.frz od (.dK (kvL ps g)))) a = some (.ins C_Rounds dx (rdfs e d)) := by rw [upd_ne nad]; exact ga
    refine ⟨_, rfl, a, C_Rounds, dx, _, _, rfl, gaL, T.o_Rounds.cls, T.y_Rounds_own_left, rfl, d, od, rfl, .inl ⟨kvL ps g, upd_same, for_it walk_keys (fun i σ H' => ∃ x2 x3, σ = [some (.ref a), some (.int (ways (fun p => (g p).length) (ps.take i) : Nat)), x2, x3] ∧ H' = upd H d (.frz od (.dK (kvL ps g)))) ⟨_, _, rfl, rfl⟩ (fun _ _ _ _ ⟨_, _, _, h⟩ => by rw [h]; exact upd_same) ?_ ?_⟩⟩
    · rintro i v σ H3 H4 hi ⟨x2, x3, rfl, rfl⟩ ⟨rfl, k0, v0, hk, rfl⟩
      unfold kvL at hk
      rw [List.getElem?_map] at hk
      obtain ⟨p, hp, e0⟩ := Option.map_eq_some_iff.mp hk
      injection e0 with e1 e2
      subst e1 e2
      have pm : p ∈ ps := List.mem_of_getElem? hp
      have z61 := hz p pm
      refine ⟨_, rfl, a, C_Rounds, dx, _, _, rfl, gaL, T.o_Rounds.cls, T.y_Rounds_own_left, rfl, _, rfl, d, sT (g p), rfl, .inl ⟨kvL ps g, kT p, .inr ⟨od, upd_same⟩, rfl, (val_L g pm).symm⟩, _, rfl, sz_of' (by rw [len_S]; omega), _, rfl, ?_⟩
      rw [len_S]
      refine ⟨by omega, by omega, for_range (lo := 0) (n := _) (fun j σ H' => ∃ x3, σ = [some (.ref a), some (.int (ways (fun p => (g p).length) (ps.take i) * fct j : Nat)), some (sT p), x3] ∧ H' = upd H d (.frz od (.dK (kvL ps g)))) ⟨_, by rw [show fct 0 = 1 from rfl, Nat.mul_one]; rfl, rfl⟩ ?_ ?_⟩
      · rintro j σ H3 hj ⟨x5, rfl, rfl⟩
        refine ⟨_, rfl, _, rfl, _, _, rfl, rfl, _, _, rfl, rfl, .inr ⟨by omega, by omega⟩, ?_⟩
        exact ⟨_, by rw [fct_step]; rfl, rfl⟩
      rintro σ H3 ⟨x5, rfl, rfl⟩
      have ew : ways (fun p => (g p).length) (ps.take (i + 1)) = ways (fun p => (g p).length) (ps.take i) * fct (g p).length := by rw [take_one hp, ways_snoc]
      exact ⟨_, _, by rw [ew]; rfl, rfl⟩
    rintro σ H3 ⟨x2, x3, rfl, rfl⟩
    refine ⟨upd_same, _, rfl, ?_⟩
    rw [show (kvL ps g).length = ps.length by simp [kvL], List.take_length]
    refine k _ fun b o hb => ?_
    by_cases q : b = d
    · subst q
      rw [upd_same, ← gd, hb]
    · rw [upd_ne q, upd_ne q]
      exact hb
theorem sc_shortest_many : FnScope ["walk"] ["walk"] (defScope s_shortest_many) := ⟨rfl, rfl, rfl, by decide +kernel, rfl, by decide +kernel, by decide +kernel⟩
theorem ok_shortest_many {f : Addr} {fd : FuncData} (F : Fun K "shortest_many" "shortest_many" s_shortest_many f fd) (T : Txt K mg C_Rounds C_Walk) (kn_Rounds___init__ : KM P w K mg base CX0 4 ["self", "walk"] (sp_Rounds___init__ K C_Rounds C_Walk) C_Rounds "__init__" []) (kn_Rounds_rest_many : KM P w K mg base CX0 1 ["self"] (sp_Rounds_rest_many K C_Rounds) C_Rounds "rest_many" []) : FnOk P w K mg base CX0 6 f fd ["walk"] (sp_shortest_many K C_Rounds C_Walk) := by
  obtain ⟨f_Rounds___init__, fd_Rounds___init__, ds_Rounds___init__, i_Rounds___init__, t_Rounds___init__, fn_Rounds___init__, k_Rounds___init__, v_Rounds___init__, b_Rounds___init__, G_Rounds___init__⟩ := kn_Rounds___init__
  obtain ⟨f_Rounds_rest_many, fd_Rounds_rest_many, ds_Rounds_rest_many, i_Rounds_rest_many, t_Rounds_rest_many, fn_Rounds_rest_many, k_Rounds_rest_many, v_Rounds_rest_many, b_Rounds_rest_many, G_Rounds_rest_many⟩ := kn_Rounds_rest_many
  refine F.ok sc_shortest_many (fun vs H Q E h => ?_) (fun cdv A outer s H vs Q E hr h => ?_)
  · obtain ⟨w, q, ps, e, rfl, _⟩ := h
    all_goals rfl
  · obtain ⟨w, q, ps, e, rfl, hw, ho, he, k⟩ := h
    refine ⟨_, (pss_one (ps_ret (pe_meth0 (pe_make ⟨T.o_Rounds.made, i_Rounds___init__, fn_Rounds___init__, T.o_Rounds.kC⟩ G_Rounds___init__ (hr.mono (by decide)) rfl T.o_Rounds.gC b_Rounds___init__ v_Rounds___init__ pass0 (pa_cons (pv 0) pa_nil)) T.o_Rounds.cls ⟨i_Rounds_rest_many, fn_Rounds_rest_many, k_Rounds_rest_many⟩ G_Rounds_rest_many (hr.mono (by decide)) b_Rounds_rest_many v_Rounds_rest_many pass0))), ?_⟩
    obtain ⟨⟨dw, gw⟩, gq⟩ := id hw
    refine ⟨_, rfl, fun x dx hx hdx nx => ?_⟩
    have s0 : Same H (upd (upd H dx (.own x)) x (.ins C_Rounds dx [])) := fun b o hb => by rw [upd_ne (ne_of_none hb hx), upd_ne (ne_of_none hb hdx)]; exact hb
    refine ⟨x, dx, w, q, ps, e, rfl, upd_same, hw.same s0, ho, he, ne_of_none gw hx, ne_of_none gq hx, fun d H4 o4 nd r4 => ⟨rfl, ?_⟩⟩
    obtain ⟨⟨dx4, g4⟩, gd, nad⟩ := id r4
    refine ⟨x, dx4, _, rfl, g4, rfl, x, d, ps, e, lft ps e, rfl, r4, (fun p hp => by rw [lft_len]; exact Nat.le_trans (cnt_le ps e p) ho.t.n1), fun H5 s5 => ?_⟩
    rw [ways_lft]
    exact k H5 fun b o hb => s5 _ _ (o4 b o (ne_of_none hb hx) (s0 _ _ hb))
theorem sc_is_whole : FnScope ["thing"] ["thing"] (defScope s_is_whole) := ⟨rfl, rfl, rfl, by decide +kernel, rfl, by decide +kernel, by decide +kernel⟩
theorem ok_is_whole {f : Addr} {fd : FuncData} (F : Fun K "is_whole" "is_whole" s_is_whole f fd) (T : Txt K mg C_Rounds C_Walk) : FnOk P w K mg base CX0 1 f fd ["thing"] (sp_is_whole) := by
  refine F.ok sc_is_whole (fun vs H Q E h => ?_) (fun cdv A outer s H vs Q E hr h => ?_)
  · obtain ⟨i, rfl, _⟩ := h
    all_goals rfl
  · obtain ⟨i, rfl, k⟩ := h
    refine ⟨_, (pss_one (ps_ret (pe_and (pe_callB (call_isiK1 (K := K)) (by rfl) T.b_isinstance (by decide +kernel) (pa_cons (pv 0) (pa_cons (pe_bltn (v := .ty "int") (by rfl) T.b_int (by decide +kernel) rfl) pa_nil))) (pe_one (pe_not (pe_callB (call_isiK1 (K := K)) (by rfl) T.b_isinstance (by decide +kernel) (pa_cons (pv 0) (pa_cons (pe_bltn (v := .ty "bool") (by rfl) T.b_bool (by decide +kernel) rfl) pa_nil)))))))), ?_⟩
    refine Evl.s_ret (Evl.ev_andV (a := true) (b := true) (Evl.ev_isi (Evl.ev_var rfl) Evl.ev_c (.ty "int") (fun _ _ => .base (.int _)) (kit_ty (r := true) (by decide +kernel)))
      (fun _ => Evl.ev_notV (a := false) (Evl.ev_isi (Evl.ev_var rfl) Evl.ev_c (.ty "bool") (fun _ _ => .base (.int _)) (kit_ty (r := false) (by decide +kernel))))) fun H1 e => k H1 e
theorem sc_Rounds_home : FnScope ["self", "here"] ["self"] (defScope s_Rounds_home) := ⟨rfl, rfl, rfl, by decide +kernel, rfl, by decide +kernel, by decide +kernel⟩
theorem ok_Rounds_home {f : Addr} {fd : FuncData} (F : Fun K "home" "Rounds.home" s_Rounds_home f fd) (T : Txt K mg C_Rounds C_Walk) (kn_contrary_sign : KN P w K mg base CX0 1 ["sign"] (sp_contrary_sign) "contrary_sign" []) : FnOk P w K mg base CX0 2 f fd ["self"] (sp_Rounds_home C_Rounds) := by
  obtain ⟨f_contrary_sign, fd_contrary_sign, ds_contrary_sign, m_contrary_sign, k_contrary_sign, v_contrary_sign, b_contrary_sign, G_contrary_sign⟩ := kn_contrary_sign
  refine F.ok sc_Rounds_home (fun vs H Q E h => ?_) (fun cdv A outer s H vs Q E hr h => ?_)
  · obtain ⟨a, d, ps, e, h, g, rfl, _⟩ := h
    all_goals rfl
  · obtain ⟨a, d, ps, e, h, g, rfl, hr0, hh, zh, ze, k⟩ := h
    refine ⟨_, (pss_cons (ps_set (i := 1) sc_Rounds_home.nd rfl (Or.inl rfl) (pe_fld (pv 0) rfl))
    (pss_cons (ps_if (pt_cmpR op_eq (pv 1) (pe_fld (pv 0) rfl) (nomark _)) (pss_one (ps_ret pe_str)) pss_nil)
    (pss_cons (ps_if (pt_val (pe_m1 PySem.F.slot_str_startswith PySem.F.type_str_startswith mt_startswith (pe_fld (pv 0) rfl) (pv 1))) (pss_one (ps_ret (pe_ix ix_str (pe_fld (pv 0) rfl) (pe_callB call_len_str (by rfl) T.b_len (by decide +kernel) (pa_cons (pv 1) pa_nil)) (fun _ _ => rfl)))) pss_nil)
    (pss_one (ps_ret (pe_call G_contrary_sign (hr.mono (by decide)) rfl m_contrary_sign k_contrary_sign b_contrary_sign v_contrary_sign pass0 (pa_cons (pe_ix ix_str (pv 1) (pe_un un_neg pe_int) (fun _ _ => rfl)) pa_nil))))))), ?_⟩
    obtain ⟨dx, ga⟩ := hr0.ob
    refine ⟨_, rfl, a, C_Rounds, dx, _, _, rfl, ga, T.o_Rounds.cls, T.y_Rounds_own_here, rfl, ?_⟩
    refine ⟨_, rfl, _, rfl, a, C_Rounds, dx, _, _, rfl, ga, T.o_Rounds.cls, T.y_Rounds_own_end, rfl, rfl, _, rfl, ?_⟩
    unfold homeS at k
    rw [show decide (sT h = sT e) = decide (h = e) from dec_str h e]
    by_cases q : h = e
    · rw [decide_eq_true q]
      rw [if_pos q] at k
      exact iteT (k H (Same.refl H))
    rw [decide_eq_false q]
    rw [if_neg q] at k
    refine iteF ⟨_, rfl, a, C_Rounds, dx, _, _, rfl, ga, T.o_Rounds.cls, T.y_Rounds_own_end, rfl, ⟨_, rfl⟩, _, rfl, _, _, rfl, rfl, _, rfl, ?_⟩
    rw [starts_S]
    cases hp : h.isPrefixOf e with
    | true =>
      rw [hp, if_pos rfl] at k
      obtain ⟨c, r, he⟩ := prefix_split (pre_iff.mp hp) q
      have hg : e.getD h.length 0 = c := by rw [he]; simp
      have hg2 : e[h.length]? = some c := by rw [he]; simp
      rw [hg] at k
      exact iteT ⟨_, rfl, a, C_Rounds, dx, _, _, rfl, ga, T.o_Rounds.cls, T.y_Rounds_own_end, rfl, _, rfl, _, rfl, (by rw [len_S]; exact sz_of' (by omega)), S e, ((S h).length : Int), c, rfl, rfl, (by rw [len_S]; exact sz_of' (by omega)), (by rw [len_S]; exact atI_nat (xs := e) hg2), k H (Same.refl H)⟩
    | false =>
      rw [hp, if_neg (by decide)] at k
      have h0 : h ≠ [] := fun z => by rw [z] at hp; cases hp
      obtain ⟨m, c, rfl⟩ := exists_snoc h0
      rw [show (m ++ [c]).getLastD 0 = c by simp] at k
      exact iteF ⟨_, rfl, _, rfl, _, _, c, rfl, rfl, (by rw [len_S]; exact sz_of' (by omega)), at_last, c, rfl, hh c (by simp), fun H1 s1 => k H1 s1⟩
theorem sc_Rounds_choices : FnScope ["self"] ["self"] (defScope s_Rounds_choices) := ⟨rfl, rfl, rfl, by decide +kernel, rfl, by decide +kernel, by decide +kernel⟩
theorem ok_Rounds_choices {f : Addr} {fd : FuncData} (F : Fun K "choices" "Rounds.choices" s_Rounds_choices f fd) (T : Txt K mg C_Rounds C_Walk) (kn_Rounds_home : KM P w K mg base CX0 2 ["self"] (sp_Rounds_home C_Rounds) C_Rounds "home" []) : FnOk P w K mg base CX0 3 f fd ["self"] (sp_Rounds_choices C_Rounds) := by
  obtain ⟨f_Rounds_home, fd_Rounds_home, ds_Rounds_home, i_Rounds_home, t_Rounds_home, fn_Rounds_home, k_Rounds_home, v_Rounds_home, b_Rounds_home, G_Rounds_home⟩ := kn_Rounds_home
  refine F.ok sc_Rounds_choices (fun vs H Q E h => ?_) (fun cdv A outer s H vs Q E hr h => ?_)
  · obtain ⟨a, d, ps, e, h, g, rfl, _⟩ := h
    all_goals rfl
  · obtain ⟨a, d, ps, e, h, g, rfl, hr0, hm, hh, zh, ze, zg, k⟩ := h
    refine ⟨_, (pss_one (ps_ret (pe_orT (pe_dget (hu_of hr) (pe_fld (pv 0) rfl) (pe_fld (pv 0) rfl) (fun _ _ => rfl)) (pe_one (pe_meth0 (pv 0) T.o_Rounds.cls ⟨i_Rounds_home, fn_Rounds_home, k_Rounds_home⟩ G_Rounds_home (hr.mono (by decide)) b_Rounds_home v_Rounds_home pass0))))), ?_⟩
    obtain ⟨dx, ga⟩ := hr0.ob
    refine ⟨_, rfl, a, C_Rounds, dx, _, _, rfl, ga, T.o_Rounds.cls, T.y_Rounds_own_left, rfl, _, rfl, a, C_Rounds, dx, _, _, rfl, ga, T.o_Rounds.cls, T.y_Rounds_own_here, rfl, d, sT (g h), rfl, .inl ⟨_, kT h, .inl hr0.dt, rfl, (val_L g hm).symm⟩, (((S (g h)).length : Int) != 0), ⟨by rw [len_S]; exact sz_of' (by omega), rfl⟩, ?_⟩
    have ek : (((S (g h)).length : Int) != 0) = !decide (g h = []) := by
      rw [len_S]
      by_cases q : g h = []
      · rw [q]; rfl
      · have : 1 ≤ (g h).length := List.length_pos_iff.mpr q
        rw [decide_eq_false q]
        exact bne_iff_ne.mpr (by omega)
    rw [ek]
    by_cases q : g h = []
    · rw [if_pos q] at k
      rw [decide_eq_true q]
      exact iteF ⟨_, rfl, a, _, _, rfl, ga, rfl, a, d, ps, e, h, g, rfl, hr0, hh, zh, ze, fun H1 s1 => k H1 s1⟩
    · rw [if_neg q] at k
      rw [decide_eq_false q]
      exact iteT (k H (Same.refl H))
theorem sc_Rounds_go_on : FnScope ["self", "sign", "here"] ["self", "sign"] (defScope s_Rounds_go_on) := ⟨rfl, rfl, rfl, by decide +kernel, rfl, by decide +kernel, by decide +kernel⟩
theorem ok_Rounds_go_on {f : Addr} {fd : FuncData} (F : Fun K "go_on" "Rounds.go_on" s_Rounds_go_on f fd) (T : Txt K mg C_Rounds C_Walk) (kn_made_plain : KN P w K mg base CX0 2 ["text"] (sp_made_plain) "made_plain" []) : FnRaw P w K mg base CX0 3 f fd ["self", "sign"] (sp_Rounds_go_on C_Rounds) := by
  obtain ⟨f_made_plain, fd_made_plain, ds_made_plain, m_made_plain, k_made_plain, v_made_plain, b_made_plain, G_made_plain⟩ := kn_made_plain
  refine F.okRaw sc_Rounds_go_on rfl (fun vs H Q E h => ?_) (fun cdv A outer s H a0 c0 Q E hr hsp => ?_)
  · obtain ⟨a, d, ps, e, h, g, c, rfl, _⟩ := h
    rfl
  · obtain ⟨a, d, ps, e, h, g, c, hv, hr0, hm, hh, hc, zh, zp, zg, k⟩ := hsp
    cases hv
    refine ⟨_, (body_set (i := 2) (j := 0) sc_Rounds_go_on.nd rfl rfl rfl (Or.inl rfl) (by decide)
    (body_repl (jp := 0) (jy := 2) (hu_of hr) rfl (Or.inl rfl) rfl (Or.inl rfl) rfl (pe_fld (pv 0) rfl) (pv 2) (pss_one (ps_fld (pv 0) (pe_call G_made_plain (hr.mono (by decide)) rfl m_made_plain k_made_plain b_made_plain v_made_plain pass0 (pa_cons (pe_op op_add_str (pv 2) (pv 1)) pa_nil)) rfl)))), ?_⟩
    obtain ⟨dx, ga⟩ := hr0.ob
    have nad := hr0.ne
    refine ⟨_, rfl, a0, C_Rounds, dx, _, _, rfl, ga, T.o_Rounds.cls, T.y_Rounds_own_here, rfl, ?_⟩
    refine ⟨a0, C_Rounds, dx, d, _, _, kT h, S (g h), rfl, ga, T.o_Rounds.cls, T.y_Rounds_own_left, rfl, rfl, hr0.dt, val_L g hm, by rw [len_S]; omega, rfl, ?_⟩
    refine ⟨_, rfl, a0, C_Rounds, dx, _, _, rfl, ga, T.o_Rounds.cls, T.y_Rounds_own_left, rfl, _, rfl, d, _, rfl, DPut.k (k := kT h) hr0.dt (by rw [kvL_len]; exact Nat.lt_of_le_of_lt zp (by decide)), ?_⟩
    rw [rep_one]
    have en : putK (kvL ps g) (kT h) (V.str (S ((g h).filter fun x => decide (x ≠ c)))) = kvL ps (setF g h ((g h).filter fun x => decide (x ≠ c))) := put_old hm
    rw [en]
    refine ⟨_, rfl, _, rfl, _, _, rfl, rfl, sz_of' (by rw [len_S, len_S]; show _ + 1 ≤ _; omega), h ++ [c], (by show [V.str (S h ++ S [c])] = _; rw [add_S]), row_snoc hh hc, (by rw [List.length_append]; show _ + 1 ≤ _; omega), fun H5 s5 => ?_⟩
    have ga5 := s5 a0 _ (show (upd H d (.dK (kvL ps (setF g h ((g h).filter fun x => decide (x ≠ c)))))) a0 = _ from (upd_ne nad).trans ga)
    have gd5 := s5 d _ (upd_same (H := H) (a := d) (o := .dK (kvL ps (setF g h ((g h).filter fun x => decide (x ≠ c))))))
    refine ⟨_, rfl, a0, C_Rounds, dx, _, rfl, ga5, T.o_Rounds.cls, T.y_Rounds_own_here, by show 3 < 1000; decide, ?_⟩
    refine k _ (fun b o h1 h2 hb => ?_) ⟨⟨dx, upd_same⟩, by rw [upd_ne nad.symm]; exact gd5, nad⟩
    rw [upd_ne h1]
    exact s5 _ _ (by rw [upd_ne h2]; exact hb)
theorem sc_shortest_at : FnScope ["walk", "number", "rounds", "many", "left", "found", "turn", "some", "at"] ["walk", "number"] (defScope s_shortest_at) := ⟨rfl, rfl, rfl, by decide +kernel, rfl, by decide +kernel, by decide +kernel⟩
theorem ok_shortest_at {f : Addr} {fd : FuncData} (F : FunD K "shortest_at" "shortest_at" (defArgs s_shortest_at) (defBody s_shortest_at) (defScope s_shortest_at) [.int 0] [] f fd) (T : Txt K mg C_Rounds C_Walk) (kn_Rounds___init__ : KM P w K mg base CX0 4 ["self", "walk"] (sp_Rounds___init__ K C_Rounds C_Walk) C_Rounds "__init__" []) (kn_Rounds_rest_many : KM P w K mg base CX0 1 ["self"] (sp_Rounds_rest_many K C_Rounds) C_Rounds "rest_many" []) (kn_is_whole : KN P w K mg base CX0 1 ["thing"] (sp_is_whole) "is_whole" []) (kn_signs_many : KN P w K mg base CX0 4 ["walk"] (sp_signs_many C_Walk) "signs_many" []) (kn_Rounds_choices : KM P w K mg base CX0 3 ["self"] (sp_Rounds_choices C_Rounds) C_Rounds "choices" []) (kn_Rounds_go_on : KMR P w K mg base CX0 3 ["self", "sign"] (sp_Rounds_go_on C_Rounds) C_Rounds "go_on" []) : FnOk P w K mg base CX0 6 f fd ["walk", "number"] (sp_shortest_at K C_Rounds C_Walk) := by
  obtain ⟨f_Rounds___init__, fd_Rounds___init__, ds_Rounds___init__, i_Rounds___init__, t_Rounds___init__, fn_Rounds___init__, k_Rounds___init__, v_Rounds___init__, b_Rounds___init__, G_Rounds___init__⟩ := kn_Rounds___init__
  obtain ⟨f_Rounds_rest_many, fd_Rounds_rest_many, ds_Rounds_rest_many, i_Rounds_rest_many, t_Rounds_rest_many, fn_Rounds_rest_many, k_Rounds_rest_many, v_Rounds_rest_many, b_Rounds_rest_many, G_Rounds_rest_many⟩ := kn_Rounds_rest_many
  obtain ⟨f_is_whole, fd_is_whole, ds_is_whole, m_is_whole, k_is_whole, v_is_whole, b_is_whole, G_is_whole⟩ := kn_is_whole
  obtain ⟨f_signs_many, fd_signs_many, ds_signs_many, m_signs_many, k_signs_many, v_signs_many, b_signs_many, G_signs_many⟩ := kn_signs_many
  obtain ⟨f_Rounds_choices, fd_Rounds_choices, ds_Rounds_choices, i_Rounds_choices, t_Rounds_choices, fn_Rounds_choices, k_Rounds_choices, v_Rounds_choices, b_Rounds_choices, G_Rounds_choices⟩ := kn_Rounds_choices
  obtain ⟨f_Rounds_go_on, fd_Rounds_go_on, ds_Rounds_go_on, i_Rounds_go_on, t_Rounds_go_on, fn_Rounds_go_on, k_Rounds_go_on, v_Rounds_go_on, b_Rounds_go_on, G_Rounds_go_on⟩ := kn_Rounds_go_on
  refine F.ok0 sc_shortest_at (fun vs H Q E h => ?_) (fun cdv A outer s H vs Q E hr h => ?_)
  · obtain ⟨w, q, ps, e, n, rfl, _⟩ := h
    all_goals rfl
  · obtain ⟨w, q, ps, e, n, rfl, hw, ho, he, hn, k⟩ := h
    refine ⟨_, (pss_cons (ps_set (i := 2) sc_shortest_at.nd rfl (Or.inl rfl) (pe_make ⟨T.o_Rounds.made, i_Rounds___init__, fn_Rounds___init__, T.o_Rounds.kC⟩ G_Rounds___init__ (hr.mono (by decide)) rfl T.o_Rounds.gC b_Rounds___init__ v_Rounds___init__ pass0 (pa_cons (pv 0) pa_nil)))
    (pss_cons (ps_set (i := 3) sc_shortest_at.nd rfl (Or.inl rfl) (pe_meth0 (pv 2) T.o_Rounds.cls ⟨i_Rounds_rest_many, fn_Rounds_rest_many, k_Rounds_rest_many⟩ G_Rounds_rest_many (hr.mono (by decide)) b_Rounds_rest_many v_Rounds_rest_many pass0))
    (pss_cons (ps_if (PW.pt (pw_or (pt_not (pt_val (pe_call G_is_whole (hr.mono (by decide)) rfl m_is_whole k_is_whole b_is_whole v_is_whole pass0 (pa_cons (pv 1) pa_nil)))) (pw_or1 (pt_not (pt_chain op_le op_lt pe_int (pv 1) (pv 3)))))) (pss_one ps_never) pss_nil)
    (pss_cons (ps_par (i := 4) (j := 5) (by rfl) sc_shortest_at.nd rfl rfl (by decide) rfl rfl (pa_cons (pv 1) (pa_cons pe_str pa_nil)) (by rfl))
    (pss_cons (ps_for PassesOwn.never rfl (pi_range1 (by rfl) T.b_range (pa_cons (pe_call G_signs_many (hr.mono (by decide)) rfl m_signs_many k_signs_many b_signs_many v_signs_many pass0 (pa_cons (pv 0) pa_nil)) pa_nil)) (pg_name (i := 6) sc_shortest_at.nd rfl (Or.inl rfl)) (pss_setT (i := 7) sc_shortest_at.nd rfl rfl (pe_meth0 (pv 2) T.o_Rounds.cls ⟨i_Rounds_choices, fn_Rounds_choices, k_Rounds_choices⟩ G_Rounds_choices (hr.mono (by decide)) b_Rounds_choices v_Rounds_choices pass0)
    (psst_cons (PST.of (ps_aug (i := 3) sc_shortest_at.nd rfl (Or.inl rfl) (pe_callB call_len_str (by rfl) T.b_len (by decide +kernel) (pa_cons (pv 7) pa_nil)) iop_fdiv))
    (psst_cons (PST.of (ps_asg (pe_callB call_divmodW (by rfl) T.b_divmod (by decide +kernel) (pa_cons (pv 4) (pa_cons (pv 3) pa_nil))) (pg_tup rfl (pgs_cons (pg_name (i := 8) sc_shortest_at.nd rfl (Or.inl rfl)) (pgs_cons (pg_name (i := 4) sc_shortest_at.nd rfl (Or.inl rfl)) pgs_nil)))))
    (psst_cons (PST.of (ps_aug (i := 5) sc_shortest_at.nd rfl (Or.inl rfl) (pe_ix ix_str (pv 7) (pv 8) (fun _ _ => rfl)) iop_add_str))
    (PSsT.one (pst_methRaw (pv 2) T.o_Rounds.cls ⟨i_Rounds_go_on, fn_Rounds_go_on, k_Rounds_go_on⟩ G_Rounds_go_on (hr.mono (by decide)) b_Rounds_go_on v_Rounds_go_on pass0 (jz := 7) rfl (Or.inl rfl) (jy := 8) rfl (Or.inl rfl))))))))
    (pss_one (ps_ret (pv 5)))))))), ?_⟩
    obtain ⟨⟨dw, gw⟩, gq⟩ := id hw
    have T' := TrE.of ho he
    have ze := ho.t.z _ he
    refine ⟨_, rfl, fun x dx hx hdx nx => ?_⟩
    have s0 : Same H (upd (upd H dx (.own x)) x (.ins C_Rounds dx [])) := fun b o hb => by rw [upd_ne (ne_of_none hb hx), upd_ne (ne_of_none hb hdx)]; exact hb
    refine ⟨x, dx, w, q, ps, e, rfl, upd_same, hw.same s0, ho, ho.t.row he, ne_of_none gw hx, ne_of_none gq hx, fun d H4 o4 nd r4 => ⟨rfl, ?_⟩⟩
    have s4 : Same H H4 := fun b o hb => o4 b o (ne_of_none hb hx) (s0 _ _ hb)
    have hd0 : H d = none := Same.free s0 nd
    have hx0 := hx
    obtain ⟨⟨dx4, g4⟩, gd, nad⟩ := id r4
    have rd4 : RdH C_Rounds H4 x d ps e [] (lft ps e) := ⟨⟨dx4, g4⟩, gd, nad⟩
    refine ⟨_, rfl, x, dx4, _, rfl, g4, rfl, x, d, ps, e, lft ps e, rfl, r4, (fun p hp => by rw [lft_len]; exact Nat.le_trans (cnt_le ps e p) ho.t.n1), fun H5 s5 => ?_⟩
    refine ⟨_, rfl, (n : Int), rfl, fun H6 s6 => ⟨_, rfl, iteF ?_⟩⟩
    refine ⟨_, rfl, _, _, rfl, rfl, _, rfl, ?_⟩
    rw [decide_eq_true (by omega : (0 : Int) ≤ (n : Int))]
    refine iteT ⟨_, rfl, _, _, rfl, rfl, _, rfl, ?_⟩
    rw [decide_eq_true (by omega : (n : Int) < ((ways (fun p => (lft ps e p).length) ps : Nat) : Int))]
    refine iteF ⟨_, rfl, _, _, rfl, ?_⟩
    have s46 := Same.trans s5 s6
    have s06 := Same.trans s4 s46
    refine ⟨_, rfl, w, q, ps, e, rfl, hw.same s06, ho.t.n1, ze, fun H7 s7 => ⟨_, rfl, ?_, ?_, ?_⟩⟩
    · have := ho.t.n1
      omega
    · have := ho.t.n1
      omega
    have el : (2 * ((ps.length : Int) - 1) - (e.length : Int)).toNat = lenS ps e := by
      unfold lenS
      have := ho.t.n0
      omega
    rw [el]
    have en : ways (fun p => (lft ps e p).length) ps = (initS ps e n).many := rfl
    refine for_range (lo := 0) (n := lenS ps e) (fun i σ H' => ∃ x6 x7 x8, σ = [some (.ref w), some (.int (n : Int)), some (.ref x), some (.int ((runS e i (initS ps e n)).many : Nat)), some (.int ((runS e i (initS ps e n)).left : Nat)), some (.str (S (runS e i (initS ps e n)).f)), x6, x7, x8] ∧ Same H H' ∧ RdH C_Rounds H' x d ps e (runS e i (initS ps e n)).h (runS e i (initS ps e n)).g)
      ⟨_, _, _, rfl, Same.trans s06 s7, (rd4.same s46).same s7⟩ ?_ ?_
    · rintro i σ H8 hi ⟨x6, x7, x8, rfl, s8, r8⟩
      have I := InvS.run T' hn i (by omega)
      obtain ⟨n1, n2, n3⟩ := I.next T' hi
      have hm8 := run_many e (initS ps e n) i
      show _
      obtain ⟨s, hs⟩ : ∃ s, s = runS e i (initS ps e n) := ⟨_, rfl⟩
      have hs1 : runS e (i + 1) (initS ps e n) = stepS e s := by rw [hs]; rfl
      rw [← hs] at I n1 n2 n3 hm8 r8 ⊢
      have hm := I.vs _ I.here
      have zh := ho.t.z _ hm
      have zg := I.gle ho
      obtain ⟨dx8, ga8⟩ := r8.ob
      refine ⟨_, rfl, x, _, _, rfl, ga8, rfl, x, d, ps, e, s.h, s.g, rfl, r8, hm, I.pr.1, zh, ze, zg, fun H9 s9 => ?_⟩
      have r9 := r8.same s9
      have ec : (if s.g s.h = [] then homeS e s.h else s.g s.h) = chS e s := rfl
      rw [ec]
      have zc : (chS e s).length ≤ 61 := by
        unfold chS
        split
        · unfold homeS
          split
          · show 0 ≤ 61; decide
          · split
            · show 1 ≤ 61; decide
            · show 1 ≤ 61; decide
        · exact zg
      have zc1 : 1 ≤ (chS e s).length := List.length_pos_iff.mpr n1
      have sc : cS e s ∈ sgns := by
        have := n3.rf (cS e s) (by show cS e s ∈ s.f ++ [cS e s]; simp)
        exact this
      have ef : (chS e s)[atS e s]? = some (cS e s) := by
        unfold cS
        rw [List.getD_eq_getElem?_getD, List.getElem?_eq_getElem n2]
        rfl
      have hat : atI (S (chS e s)).cps.toList ((s.left / (s.many / (chS e s).length) : Nat) : Int) = some (cS e s) := atI_nat (xs := chS e s) ef
      have m1 : 0 < s.many / (chS e s).length := Nat.lt_of_le_of_lt (Nat.zero_le _) n3.lt
      have zf : s.f.length ≤ 200 := by
        rw [I.ln]
        have := ho.t.n1
        unfold lenS at hi
        omega
      have d1 : (s.many : Int) / ((S (chS e s)).length : Int) = ((s.many / (chS e s).length : Nat) : Int) := by rw [len_S]; exact (Int.natCast_ediv _ _).symm
      refine ⟨_, rfl, _, rfl, _, rfl, (by rw [len_S]; exact sz_of' (by omega)), _, _, rfl, rfl, ⟨by rw [len_S]; omega, by rw [len_S]; omega⟩, ?_⟩
      have m9 : ((s.many / (chS e s).length : Nat) : Int).natAbs.log2 < 9000 := by
        have h1 := ways_log ho e
        rw [← ways_lft] at h1
        have h2 : (s.many / (chS e s).length) ≤ ways (fun p => (lft ps e p).length) ps := Nat.le_trans (Nat.div_le_self _ _) hm8
        have h3 : (s.many / (chS e s).length).log2 ≤ (ways (fun p => (lft ps e p).length) ps).log2 := by
          by_cases z : s.many / (chS e s).length = 0
          · omega
          · exact (Nat.le_log2 (by omega)).mpr (Nat.le_trans (Nat.log2_self_le z) h2)
        show (s.many / (chS e s).length).log2 < 9000
        omega
      have dA : V.int ((s.left : Int) / ((s.many / (chS e s).length : Nat) : Int)) = .int ((atS e s : Nat) : Int) := congrArg V.int (Int.natCast_ediv _ _).symm
      refine ⟨_, rfl, _, rfl, ((s.left : Nat) : Int), ((s.many / (chS e s).length : Nat) : Int), (by show [V.int (s.left : Int), V.int ((s.many : Int) / ((S (chS e s)).length : Int))] = _; rw [d1]), ⟨by omega, m9⟩, fun p hp => ?_⟩
      refine ⟨p, [_, _], rfl, SqT.of upd_same, rfl, _, _, rfl, _, _, rfl, rfl, ?_⟩
      have sp := Same.new (o := .tup [.int ((s.left : Int) / ((s.many / (chS e s).length : Nat) : Int)), .int ((s.left : Int) % ((s.many / (chS e s).length : Nat) : Int))]) hp
      have r10 := r9.same sp
      have s10 := Same.trans s8 (Same.trans s9 sp)
      generalize upd H9 p (.tup [.int ((s.left : Int) / ((s.many / (chS e s).length : Nat) : Int)), .int ((s.left : Int) % ((s.many / (chS e s).length : Nat) : Int))]) = H10 at *
      refine ⟨_, rfl, _, rfl, _, rfl, S (chS e s), ((atS e s : Nat) : Int), cS e s, rfl, dA, (by rw [len_S]; exact sz_of' (by omega)), hat, _, _, rfl, rfl, sz_str (m := [cS e s]) (by omega) (by simp), ?_⟩
      obtain ⟨dx10, ga10⟩ := r10.ob
      refine ⟨_, rfl, x, _, _, rfl, ga10, rfl, _, rfl, _, rfl, S (chS e s), ((atS e s : Nat) : Int), cS e s, rfl, dA, (by rw [len_S]; exact sz_of' (by omega)), hat, x, d, ps, e, s.h, s.g, cS e s, rfl, r10, hm, I.pr.1, sc, zh, ho.t.n1, zg, fun H11 f11 r11 => ?_⟩
      have e1 : V.int ((s.many : Int) / ((S (chS e s)).length : Int)) = .int ((stepS e s).many : Nat) := congrArg V.int d1
      have e2 : V.int ((s.left : Int) % ((s.many / (chS e s).length : Nat) : Int)) = .int ((stepS e s).left : Nat) := congrArg V.int (Int.natCast_emod _ _).symm
      have e3 : V.str (S s.f ++ ⟨#[cS e s]⟩) = .str (S (stepS e s).f) := congrArg V.str (add_S _ _)
      rw [WalkM.on_plain _ I.pr] at r11
      rw [hs1]
      exact ⟨_, _, _, by rw [← e1, ← e2, ← e3]; rfl, fun b o hb => f11 b o (ne_of_none hb hx0) (ne_of_none hb hd0) (s10 _ _ hb), r11⟩
    rintro σ H8 ⟨x6, x7, x8, rfl, s8, r8⟩
    exact ⟨_, rfl, k H8 s8⟩
theorem sc_law : FnScope ["_law_script", "_law_k", "_law_pool_here", "_law_places_here", "_law_end", "_law_walk", "_law_many", "_law_due", "_law_fewer", "_law_number"] ["_law_script"] (defScope s_law) := ⟨rfl, rfl, rfl, by decide +kernel, rfl, by decide +kernel, by decide +kernel⟩
theorem ok_law {f : Addr} {fd : FuncData} (F : Fun K "law" "law" s_law f fd) (T : Txt K mg C_Rounds C_Walk) (kn_law_pool : KN P w K mg base CX0 1 ["_law_script", "_law_k"] (sp_law_pool K) "_law_pool" []) (kn_law_places : KN P w K mg base CX0 4 ["_law_text"] (sp_law_places K) "_law_places" []) (kn_law_row : KN P w K mg base CX0 2 ["_law_pool_here", "_law_most", "_law_deeds"] (sp_law_row) "_law_row" []) (kn_law_take : KN P w K mg base CX0 1 ["_law_pool_here", "_law_many"] (sp_law_take) "_law_take" []) (kn_Walk___init__ : KM P w K mg base CX0 5 ["self", "places", "end"] (sp_Walk___init__ K C_Walk) C_Walk "__init__" []) (kn_signs_many : KN P w K mg base CX0 4 ["walk"] (sp_signs_many C_Walk) "signs_many" []) (kn_law_gone : KN P w K mg base CX0 3 ["_law_places_here", "_law_end", "_law_signs"] (sp_law_gone K) "_law_gone" []) (kn_shortest_many : KN P w K mg base CX0 6 ["walk"] (sp_shortest_many K C_Rounds C_Walk) "shortest_many" []) (kn_shortest_at : KN P w K mg base CX0 6 ["walk", "number"] (sp_shortest_at K C_Rounds C_Walk) "shortest_at" []) : FnOk P w K mg base CX0 7 f fd ["_law_script"] (sp_law K) := by
  obtain ⟨f_law_pool, fd_law_pool, ds_law_pool, m_law_pool, k_law_pool, v_law_pool, b_law_pool, G_law_pool⟩ := kn_law_pool
  obtain ⟨f_law_places, fd_law_places, ds_law_places, m_law_places, k_law_places, v_law_places, b_law_places, G_law_places⟩ := kn_law_places
  obtain ⟨f_law_row, fd_law_row, ds_law_row, m_law_row, k_law_row, v_law_row, b_law_row, G_law_row⟩ := kn_law_row
  obtain ⟨f_law_take, fd_law_take, ds_law_take, m_law_take, k_law_take, v_law_take, b_law_take, G_law_take⟩ := kn_law_take
  obtain ⟨f_Walk___init__, fd_Walk___init__, ds_Walk___init__, i_Walk___init__, t_Walk___init__, fn_Walk___init__, k_Walk___init__, v_Walk___init__, b_Walk___init__, G_Walk___init__⟩ := kn_Walk___init__
  obtain ⟨f_signs_many, fd_signs_many, ds_signs_many, m_signs_many, k_signs_many, v_signs_many, b_signs_many, G_signs_many⟩ := kn_signs_many
  obtain ⟨f_law_gone, fd_law_gone, ds_law_gone, m_law_gone, k_law_gone, v_law_gone, b_law_gone, G_law_gone⟩ := kn_law_gone
  obtain ⟨f_shortest_many, fd_shortest_many, ds_shortest_many, m_shortest_many, k_shortest_many, v_shortest_many, b_shortest_many, G_shortest_many⟩ := kn_shortest_many
  obtain ⟨f_shortest_at, fd_shortest_at, ds_shortest_at, m_shortest_at, k_shortest_at, v_shortest_at, b_shortest_at, G_shortest_at⟩ := kn_shortest_at
  refine F.ok sc_law (fun vs H Q E h => ?_) (fun cdv A outer s H vs Q E hr h => ?_)
  · obtain ⟨a, ns, rfl, _⟩ := h
    all_goals rfl
  · obtain ⟨a, ns, rfl, hS, hlen, k⟩ := h
    refine ⟨_, (pss_cons (ps_for PassesOwn.never rfl (pi_range1 (by rfl) T.b_range (pa_cons (pe_callB (call_max2 rfl) (by rfl) T.b_max (by decide +kernel) (pa_cons pe_int (pa_cons (pe_callB (call_min2 rfl) (by rfl) T.b_min (by decide +kernel) (pa_cons (pe_callB (call_lenK (K := K)) (by rfl) T.b_len (by decide +kernel) (pa_cons (pv 0) pa_nil)) (pa_cons pe_int pa_nil))) pa_nil))) pa_nil)) (pg_name (i := 1) sc_law.nd rfl (Or.inl rfl)) (pss_cons (ps_set (i := 2) sc_law.nd rfl (Or.inl rfl) (pe_call G_law_pool (hr.mono (by decide)) rfl m_law_pool k_law_pool b_law_pool v_law_pool pass0 (pa_cons (pv 0) (pa_cons (pv 1) pa_nil))))
    (pss_cons (ps_set (i := 3) sc_law.nd rfl (Or.inl rfl) (pe_slice (sl_listK (K := K)) (pe_call G_law_places (hr.mono (by decide)) rfl m_law_places k_law_places b_law_places v_law_places pass0 (pa_cons (pe_call G_law_row (hr.mono (by decide)) rfl m_law_row k_law_row b_law_row v_law_row pass0 (pa_cons (pv 2) (pa_cons pe_int (pa_cons (pe_op op_add pe_int (pe_call G_law_take (hr.mono (by decide)) rfl m_law_take k_law_take b_law_take v_law_take pass0 (pa_cons (pv 2) (pa_cons pe_int pa_nil)))) pa_nil)))) pa_nil)) po_none (po_some pe_int)))
    (pss_cons (ps_set (i := 4) sc_law.nd rfl (Or.inl rfl) (pe_ix (ix_listK (K := K)) (pv 3) (pe_call G_law_take (hr.mono (by decide)) rfl m_law_take k_law_take b_law_take v_law_take pass0 (pa_cons (pv 2) (pa_cons (pe_callB (call_lenK (K := K)) (by rfl) T.b_len (by decide +kernel) (pa_cons (pv 3) pa_nil)) pa_nil))) (fun _ _ => rfl)))
    (pss_cons (ps_set (i := 5) sc_law.nd rfl (Or.inr rfl) (pe_make ⟨T.o_Walk.made, i_Walk___init__, fn_Walk___init__, T.o_Walk.kC⟩ G_Walk___init__ (hr.mono (by decide)) rfl T.o_Walk.gC b_Walk___init__ v_Walk___init__ pass0 (pa_cons (pv 3) (pa_cons (pv 4) pa_nil))))
    (pss_cons (ps_set (i := 6) sc_law.nd rfl (Or.inl rfl) (pe_call G_signs_many (hr.mono (by decide)) rfl m_signs_many k_signs_many b_signs_many v_signs_many pass0 (pa_cons (pv 5) pa_nil)))
    (pss_cons (ps_set (i := 7) sc_law.nd rfl (Or.inl rfl) (pe_call G_law_gone (hr.mono (by decide)) rfl m_law_gone k_law_gone b_law_gone v_law_gone pass0 (pa_cons (pv 3) (pa_cons (pv 4) (pa_cons (pv 6) pa_nil)))))
    (pss_cons (ps_if (pt_cmpR (op_neDK (K := K) hr.units) (pe_lc (own := [("_law_number", 9)]) (g := gName 9) (tt := tYes) rfl sc_law.nd (pi_range1 (by rfl) T.b_range (pa_cons (pe_call G_shortest_many (hr.mono (by decide)) rfl m_shortest_many k_shortest_many b_shortest_many v_shortest_many pass0 (pa_cons (pv 5) pa_nil)) pa_nil)) (blkOk_by (own := [("_law_number", 9)]) (N := ["_law_script", "_law_k", "_law_pool_here", "_law_places_here", "_law_end", "_law_walk", "_law_many", "_law_due", "_law_fewer", "_law_number"]) (sc := defScope s_law) (by decide +kernel)) (fun _ _ _ _ _ => (pg_name (i := 9) sc_law.nd rfl (Or.inl rfl))) (fun _ _ _ _ _ => pts_nil) (fun _ _ _ _ _ => (pe_call G_shortest_at (hr.mono (by decide)) rfl m_shortest_at k_shortest_at b_shortest_at v_shortest_at pass0 (pa_cons (pv 5) (pa_cons (pv 9) pa_nil))))) (pv 7) (nomark _)) (pss_one (ps_ret pe_bl)) pss_nil)
    (pss_one (ps_for PassesOwn.never rfl (pi_range1 (by rfl) T.b_range (pa_cons (pv 6) pa_nil)) (pg_name (i := 8) sc_law.nd rfl (Or.inl rfl)) (pss_one (ps_if (pt_cmpR (op_neDK (K := K) hr.units) (pe_call G_law_gone (hr.mono (by decide)) rfl m_law_gone k_law_gone b_law_gone v_law_gone pass0 (pa_cons (pv 3) (pa_cons (pv 4) (pa_cons (pv 8) pa_nil)))) (pe_lst pa_nil) (nomark _)) (pss_one (ps_ret pe_bl)) pss_nil))))))))))))
    (pss_one (ps_ret pe_bl))), ?_⟩
    have tn := turns_ok (ns.map V.int).length 6 (by decide)
    refine ⟨_, rfl, _, _, rfl, .inl hS, _, _, rfl, _, _, rfl, _, rfl, by omega, by omega, for_range (lo := 0) (n := _) (fun i σ H' => ∃ x1 x2 x3 x4 x5 x6 x7 x8 x9, σ = [some (.ref a), x1, x2, x3, x4, x5, x6, x7, x8, x9] ∧ Same H H')
      ⟨none, none, none, none, none, none, none, none, none, rfl, Same.refl H⟩ ?_ ?_⟩
    rotate_left
    · rintro σ H1 ⟨x1, x2, x3, x4, x5, x6, x7, x8, x9, rfl, s1⟩
      exact k _
    rintro i0 σ H1 hi ⟨x1, x2, x3, x4, x5, x6, x7, x8, x9, rfl, s1⟩
    refine ⟨_, rfl, _, rfl, a, ns, _, rfl, s1.seq hS, by omega, by omega, fun p H2 np s2 hp => ?_⟩
    have hpn : H p = none := Same.free s1 np
    have sH := Same.trans s1 s2
    -- the first places of a row
    refine ⟨_, rfl, _, rfl, p, 3, rfl, hp, by decide, by decide, fun v H3 v0 v1 o3 p3 => ⟨_, _, rfl, rfl, p, 7, 1 + v, rfl, p3, by decide, by decide, by omega, by omega, fun l H4 rl zl il o4 p4 => ?_⟩⟩
    have sH := Off.same hpn (Off.same hpn sH o3) o4
    have zl : l.length ≤ 60 := by omega
    refine ⟨l, rfl, rl, zl, fun q H5 s5 nq gq => ⟨5, rfl, q, _, rfl, SqL.of gq, fun r hr => ?_⟩⟩
    have og := ord_srt (treeS_gone rl zl)
    obtain ⟨ps, eps⟩ : ∃ ps, ps = (srt (gone l)).take 5 := ⟨_, rfl⟩
    have o : Ord ps := eps ▸ take_ord og (by decide)
    have z5 : ps.length ≤ 5 := by rw [eps, List.length_take]; omega
    have low : ∀ p ∈ ps, ∀ c ∈ p, c ∈ sg6 := fun p hp c hc => by
      rw [eps] at hp
      have h1 := WalkM.srt_mem.mp (List.mem_of_mem_take hp)
      have h2 := gone_low (d := 6) (fun d hd => by have := il d hd; omega) p h1 c hc
      exact sg6_low ((WalkM.tree_gone rl).pr p h1 |>.1 c hc) h2
    have ec : cutV ((srt (gone l)).map sT) none (some 5) = ps.map sT := by
      rw [eps]
      have := cutV_to ((srt (gone l)).map sT) 5
      rw [← List.map_take] at this
      exact this
    rw [ec]
    have sH := Same.trans sH (Same.trans s5 (Same.new (o := .lst (ps.map sT)) hr))
    have gr := upd_same (H := H5) (a := r) (o := HO.lst (ps.map sT))
    have p6 := (p4.same s5).new (o := .lst (ps.map sT)) hr
    generalize upd H5 r (.lst (ps.map sT)) = H6 at gr p6 sH ⊢
    have hrp : r ≠ p := fun z => by
      obtain ⟨_, _, h, _⟩ := p4.same s5
      rw [z, h] at hr
      cases hr
    have n0 := o.t.n0
    -- an end
    refine ⟨_, rfl, _, rfl, _, rfl, r, _, rfl, .inl (SqL.of gr), ?_⟩
    rw [List.length_map]
    refine ⟨p, ps.length, rfl, p6, by omega, by omega, fun v3 H7 v30 v31 o7 p7 => ?_⟩
    obtain ⟨j, rfl⟩ : ∃ j : Nat, v3 = (j : Int) := ⟨v3.toNat, by omega⟩
    have hj : j < ps.length := by omega
    obtain ⟨e, he⟩ : ∃ e, ps[j]? = some e := ⟨_, List.getElem?_eq_getElem hj⟩
    have em : e ∈ ps := List.mem_of_getElem? he
    have re := o.t.row em
    have ze := o.t.z e em
    have gr := o7 _ _ hrp gr
    have sH := Off.same hpn sH o7
    refine ⟨_, _, _, _, rfl, rfl, SqL.of gr, atI_nat (v := sT e) (by rw [List.getElem?_map, he]; rfl), ?_⟩
    have T' := TrE.of o em
    -- the walk
    refine ⟨_, rfl, _, rfl, fun x dx hx hdx nx => ?_⟩
    have s8 : Same H7 (upd (upd H7 dx (.own x)) x (.ins C_Walk dx [])) := fun b o hb => by rw [upd_ne (ne_of_none hb hx), upd_ne (ne_of_none hb hdx)]; exact hb
    refine ⟨x, dx, r, ps, e, rfl, upd_same, s8 _ _ gr, o.t, em, fun wq H8 o8 nwq w8 => ⟨rfl, ?_⟩⟩
    rw [srt_ord o] at w8
    have s78 : Same H7 H8 := fun b u hb => o8 b u (ne_of_none hb hx) (s8 _ _ hb)
    have gr := s78 _ _ gr
    have sH := Same.trans sH s78
    have zS : lenS ps e ≤ 8 := by unfold lenS; omega
    have zI : 2 * ((ps.length : Int) - 1) - (e.length : Int) = ((lenS ps e : Nat) : Int) := by
      unfold lenS
      have h1 := tre_deep T'
      omega
    refine ⟨_, rfl, x, wq, ps, e, rfl, w8, o.t.n1, ze, fun H9 s9 => ?_⟩
    rw [zI]
    refine ⟨_, rfl, _, rfl, _, rfl, r, ps, e, lenS ps e, rfl, s9 _ _ gr, zS, z5, ze, T'.n, fun d H10 s10 nd gd => ?_⟩
    have s810 := Same.trans s9 s10
    have w10 := w8.same s810
    have gr := s810 _ _ gr
    have sH := Same.trans sH s810
    refine ⟨_, rfl, x, wq, ps, e, rfl, w10, o, re, fun H11 s11 => ?_⟩
    rw [← ways_lft]
    have wf := ways_few o.t.t.nd z5 e
    refine ⟨_, rfl, by omega, by omega, fun D hD => ?_⟩
    refine lc_range (lo := 0) (n := ways (fun p => (lft ps e p).length) ps) (fun i H' => H' D = some (.lst (((List.range i).map (shortR ps e)).map sT)) ∧ Same H11 H') ⟨upd_same, Same.new hD⟩ ?_ ?_
    · rintro i H12 hi ⟨gD, s12⟩
      refine ⟨rfl, _, rfl, _, rfl, x, wq, ps, e, i, by rw [Int.zero_add]; rfl, (w10.same s11).same s12, o, em, hi, fun H13 s13 => ⟨_, s13 _ _ gD, ?_, ?_, fun b u hb => ?_⟩⟩
      · rw [List.length_map, List.length_map, List.length_range]
        exact Nat.lt_of_le_of_lt (by omega : _ ≤ 3125) (by decide)
      · rw [upd_same, List.range_succ, List.map_append, List.map_append]
        rfl
      · rw [upd_ne (ne_of_none hb hD)]
        exact s13 _ _ (s12 _ _ hb)
    rintro H12 ⟨gD, s12⟩
    rw [← goneR_all T' low] at gD
    have s1012 := Same.trans s11 s12
    have rows : ∀ L, ∀ t ∈ goneR ps e L, Row t := fun L t ht => (mem_goneR T' ht).2.1
    refine ⟨_, rfl, _, _, dp_T gD, dp_T (s1012 _ _ gd), shaped_T (rows _), shaped_T (rows _), _, rfl, ?_⟩
    rw [eqv_T]
    refine iteNS rfl ?_
    have gr := s1012 _ _ gr
    have sH := Same.trans sH s1012
    -- none with fewer signs
    refine ⟨_, rfl, _, rfl, by omega, by omega, for_range (lo := 0) (n := lenS ps e) (fun i σ H' => ∃ x8 x9, σ = [some (.ref a), some (.int (0 + (i0 : Int))), some (.ref p), some (.ref r), some (sT e), some (.ref x), some (.int ((lenS ps e : Nat) : Int)), some (.ref d), x8, x9] ∧ Same H12 H') ⟨_, _, rfl, Same.refl _⟩ ?_ ?_⟩
    rotate_left
    · rintro σ H13 ⟨x8, x9, rfl, s13⟩
      exact ⟨_, _, _, _, _, _, _, _, _, rfl, Same.trans sH s13⟩
    rintro f σ H13 hf ⟨x8, x9, rfl, s13⟩
    refine ⟨_, rfl, _, rfl, _, rfl, r, ps, e, f, by rw [Int.zero_add]; rfl, s13 _ _ gr, by omega, z5, ze, T'.n, fun u H14 s14 nu gu => ⟨by show 0 ≤ sizeLine; decide, fun G hG => ?_⟩⟩
    rw [goneR_few T' hf] at gu
    have sG := Same.new (o := .lst []) hG
    have gG : (upd H14 G (.lst [])) G = some (.lst (([] : List (List Nat)).map sT)) := upd_same
    refine ⟨_, _, dp_T (sG _ _ gu), dp_T gG, shaped_T (fun _ h => nomatch h), shaped_T (fun _ h => nomatch h), _, rfl, ?_⟩
    rw [eqv_T]
    refine iteNS rfl ?_
    exact ⟨_, _, rfl, Same.trans s13 (Same.trans s14 sG)⟩
end
theorem all_mk {l : PySem.W.OpenLaw} {w : World} {K : PySem.W.Frag} {h : Heap} {mg : Str → Option Value} {fa : Addr} (X : K.In h) (G : h.Ns mainGlobals mg) (hfa : mg "law" = some (.ref fa))
    {t_MOST_PLACES : Tok}
    {t_MOST_SIGNS : Tok}
    {t_SIGNS : Tok}
    {C_Rounds : Addr}
    {C_Walk : Addr}
    {f_law_pool : Addr} {od_law_pool an_law_pool : Option Addr} {sl_law_pool : Array (Option Value)} {oc_law_pool kV_law_pool dc_law_pool pm_law_pool cd_law_pool ct_law_pool : Value}
    {f_law_turned : Addr} {od_law_turned an_law_turned : Option Addr} {sl_law_turned : Array (Option Value)} {oc_law_turned kV_law_turned dc_law_turned pm_law_turned cd_law_turned ct_law_turned : Value}
    {f_law_plain : Addr} {od_law_plain an_law_plain : Option Addr} {sl_law_plain : Array (Option Value)} {oc_law_plain kV_law_plain dc_law_plain pm_law_plain cd_law_plain ct_law_plain : Value}
    {f_law_rank : Addr} {od_law_rank an_law_rank : Option Addr} {sl_law_rank : Array (Option Value)} {oc_law_rank kV_law_rank dc_law_rank pm_law_rank cd_law_rank ct_law_rank : Value}
    {f_law_places : Addr} {od_law_places an_law_places : Option Addr} {sl_law_places : Array (Option Value)} {oc_law_places kV_law_places dc_law_places pm_law_places cd_law_places ct_law_places : Value}
    {f_law_take : Addr} {od_law_take an_law_take : Option Addr} {sl_law_take : Array (Option Value)} {oc_law_take kV_law_take dc_law_take pm_law_take cd_law_take ct_law_take : Value}
    {f_law_row : Addr} {od_law_row an_law_row : Option Addr} {sl_law_row : Array (Option Value)} {oc_law_row kV_law_row dc_law_row pm_law_row cd_law_row ct_law_row : Value}
    {f_is_row_within : Addr} {od_is_row_within an_is_row_within : Option Addr} {sl_is_row_within : Array (Option Value)} {oc_is_row_within kV_is_row_within dc_is_row_within pm_is_row_within cd_is_row_within ct_is_row_within : Value}
    {f_is_row : Addr} {od_is_row an_is_row : Option Addr} {sl_is_row : Array (Option Value)} {oc_is_row kV_is_row dc_is_row pm_is_row cd_is_row ct_is_row : Value}
    {f_contrary_sign : Addr} {od_contrary_sign an_contrary_sign : Option Addr} {sl_contrary_sign : Array (Option Value)} {oc_contrary_sign kV_contrary_sign dc_contrary_sign pm_contrary_sign cd_contrary_sign ct_contrary_sign : Value}
    {f_made_plain : Addr} {od_made_plain an_made_plain : Option Addr} {sl_made_plain : Array (Option Value)} {oc_made_plain kV_made_plain dc_made_plain pm_made_plain cd_made_plain ct_made_plain : Value}
    {f_is_plain_row : Addr} {od_is_plain_row an_is_plain_row : Option Addr} {sl_is_plain_row : Array (Option Value)} {oc_is_plain_row kV_is_plain_row dc_is_plain_row pm_is_plain_row cd_is_plain_row ct_is_plain_row : Value}
    {f_first_wrong : Addr} {od_first_wrong an_first_wrong : Option Addr} {sl_first_wrong : Array (Option Value)} {oc_first_wrong kV_first_wrong dc_first_wrong pm_first_wrong cd_first_wrong ct_first_wrong : Value}
    {f_rank : Addr} {od_rank an_rank : Option Addr} {sl_rank : Array (Option Value)} {oc_rank kV_rank dc_rank pm_rank cd_rank ct_rank : Value}
    {f_Walk___init__ : Addr} {od_Walk___init__ an_Walk___init__ : Option Addr} {sl_Walk___init__ : Array (Option Value)} {oc_Walk___init__ kV_Walk___init__ dc_Walk___init__ pm_Walk___init__ cd_Walk___init__ ct_Walk___init__ : Value}
    {T_Walk___init__ : Addr} {tc_Walk___init__ : Value} {tdd_Walk___init__ : Option Addr} {tn_Walk___init__ : Nat} {ts_Walk___init__ : Array (Option Value)} {td1_Walk___init__ : Tok}
    {f_Walk___len__ : Addr} {od_Walk___len__ an_Walk___len__ : Option Addr} {sl_Walk___len__ : Array (Option Value)} {oc_Walk___len__ kV_Walk___len__ dc_Walk___len__ pm_Walk___len__ cd_Walk___len__ ct_Walk___len__ : Value}
    {f_Walk_end : Addr} {od_Walk_end an_Walk_end : Option Addr} {sl_Walk_end : Array (Option Value)} {oc_Walk_end kV_Walk_end dc_Walk_end pm_Walk_end cd_Walk_end ct_Walk_end : Value}
    {f_signs_many : Addr} {od_signs_many an_signs_many : Option Addr} {sl_signs_many : Array (Option Value)} {oc_signs_many kV_signs_many dc_signs_many pm_signs_many cd_signs_many ct_signs_many : Value}
    {f_law_gone : Addr} {od_law_gone an_law_gone : Option Addr} {sl_law_gone : Array (Option Value)} {oc_law_gone kV_law_gone dc_law_gone pm_law_gone cd_law_gone ct_law_gone : Value}
    {f_Walk_places : Addr} {od_Walk_places an_Walk_places : Option Addr} {sl_Walk_places : Array (Option Value)} {oc_Walk_places kV_Walk_places dc_Walk_places pm_Walk_places cd_Walk_places ct_Walk_places : Value}
    {f_Rounds___init__ : Addr} {od_Rounds___init__ an_Rounds___init__ : Option Addr} {sl_Rounds___init__ : Array (Option Value)} {oc_Rounds___init__ kV_Rounds___init__ dc_Rounds___init__ pm_Rounds___init__ cd_Rounds___init__ ct_Rounds___init__ : Value}
    {f_Rounds_rest_many : Addr} {od_Rounds_rest_many an_Rounds_rest_many : Option Addr} {sl_Rounds_rest_many : Array (Option Value)} {oc_Rounds_rest_many kV_Rounds_rest_many dc_Rounds_rest_many pm_Rounds_rest_many cd_Rounds_rest_many ct_Rounds_rest_many : Value}
    {f_shortest_many : Addr} {od_shortest_many an_shortest_many : Option Addr} {sl_shortest_many : Array (Option Value)} {oc_shortest_many kV_shortest_many dc_shortest_many pm_shortest_many cd_shortest_many ct_shortest_many : Value}
    {f_is_whole : Addr} {od_is_whole an_is_whole : Option Addr} {sl_is_whole : Array (Option Value)} {oc_is_whole kV_is_whole dc_is_whole pm_is_whole cd_is_whole ct_is_whole : Value}
    {f_Rounds_home : Addr} {od_Rounds_home an_Rounds_home : Option Addr} {sl_Rounds_home : Array (Option Value)} {oc_Rounds_home kV_Rounds_home dc_Rounds_home pm_Rounds_home cd_Rounds_home ct_Rounds_home : Value}
    {f_Rounds_choices : Addr} {od_Rounds_choices an_Rounds_choices : Option Addr} {sl_Rounds_choices : Array (Option Value)} {oc_Rounds_choices kV_Rounds_choices dc_Rounds_choices pm_Rounds_choices cd_Rounds_choices ct_Rounds_choices : Value}
    {f_Rounds_go_on : Addr} {od_Rounds_go_on an_Rounds_go_on : Option Addr} {sl_Rounds_go_on : Array (Option Value)} {oc_Rounds_go_on kV_Rounds_go_on dc_Rounds_go_on pm_Rounds_go_on cd_Rounds_go_on ct_Rounds_go_on : Value}
    {f_shortest_at : Addr} {od_shortest_at an_shortest_at : Option Addr} {sl_shortest_at : Array (Option Value)} {oc_shortest_at kV_shortest_at dc_shortest_at pm_shortest_at cd_shortest_at ct_shortest_at : Value}
    {T_shortest_at : Addr} {tc_shortest_at : Value} {tdd_shortest_at : Option Addr} {tn_shortest_at : Nat} {ts_shortest_at : Array (Option Value)} {td0_shortest_at : Tok}
    {f_law : Addr} {od_law an_law : Option Addr} {sl_law : Array (Option Value)} {oc_law kV_law dc_law pm_law cd_law ct_law : Value}
    (z_all : PySem.W.nsIn K mainGlobals "all" = some none)
    (z_bool : PySem.W.nsIn K mainGlobals "bool" = some none)
    (z_divmod : PySem.W.nsIn K mainGlobals "divmod" = some none)
    (z_enumerate : PySem.W.nsIn K mainGlobals "enumerate" = some none)
    (z_int : PySem.W.nsIn K mainGlobals "int" = some none)
    (z_isinstance : PySem.W.nsIn K mainGlobals "isinstance" = some none)
    (z_len : PySem.W.nsIn K mainGlobals "len" = some none)
    (z_list : PySem.W.nsIn K mainGlobals "list" = some none)
    (z_max : PySem.W.nsIn K mainGlobals "max" = some none)
    (z_min : PySem.W.nsIn K mainGlobals "min" = some none)
    (z_range : PySem.W.nsIn K mainGlobals "range" = some none)
    (z_sorted : PySem.W.nsIn K mainGlobals "sorted" = some none)
    (z_str : PySem.W.nsIn K mainGlobals "str" = some none)
    (z_tuple : PySem.W.nsIn K mainGlobals "tuple" = some none)
    (n_MOST_PLACES : PySem.W.nsIn K mainGlobals "MOST_PLACES" = some (some (.int 61 t_MOST_PLACES)))
    (n_MOST_SIGNS : PySem.W.nsIn K mainGlobals "MOST_SIGNS" = some (some (.int 60 t_MOST_SIGNS)))
    (n_SIGNS : PySem.W.nsIn K mainGlobals "SIGNS" = some (some (.str "aAbBcCdDeEfF" t_SIGNS)))
    (aC_Rounds : PySem.W.nsIn K mainGlobals "Rounds" = some (some (.ref C_Rounds)))
    (pg_Rounds : PySem.W.plainGet K C_Rounds Str.empty = true)
    (hd_Rounds : PySem.W.hasDictIn K C_Rounds = true)
    (po_Rounds : PySem.W.plainOver K C_Rounds = true)
    (sa_Rounds : PySem.W.findIn K (.ref C_Rounds) "__setattr__" = some (some (.builtin "object.__setattr__")))
    (mk_Rounds : PySem.W.makesIn K C_Rounds = true)
    (kC_Rounds : PySem.W.keepIn K (.ref C_Rounds) = true)
    (aC_Walk : PySem.W.nsIn K mainGlobals "Walk" = some (some (.ref C_Walk)))
    (pg_Walk : PySem.W.plainGet K C_Walk Str.empty = true)
    (hd_Walk : PySem.W.hasDictIn K C_Walk = true)
    (po_Walk : PySem.W.plainOver K C_Walk = true)
    (sa_Walk : PySem.W.findIn K (.ref C_Walk) "__setattr__" = some (some (.builtin "object.__setattr__")))
    (mk_Walk : PySem.W.makesIn K C_Walk = true)
    (kC_Walk : PySem.W.keepIn K (.ref C_Walk) = true)
    (y_Rounds_own_end : PySem.W.findIn K (.ref C_Rounds) "own_end" = some none)
    (y_Rounds_own_here : PySem.W.findIn K (.ref C_Rounds) "own_here" = some none)
    (y_Rounds_own_left : PySem.W.findIn K (.ref C_Rounds) "own_left" = some none)
    (y_Walk_own_end : PySem.W.findIn K (.ref C_Walk) "own_end" = some none)
    (y_Walk_own_places : PySem.W.findIn K (.ref C_Walk) "own_places" = some none)
    (a_law_pool : PySem.W.nsIn K mainGlobals "_law_pool" = some (some (.ref f_law_pool)))
    (l_law_pool : K.lookup f_law_pool = some ⟨oc_law_pool, od_law_pool, .func (PySem.W.fnOf "_law_pool" "_law_pool" (defArgs s_law_pool) (defBody s_law_pool) (defScope s_law_pool) .none kV_law_pool dc_law_pool pm_law_pool an_law_pool cd_law_pool ct_law_pool), sl_law_pool⟩)
    (c_law_pool : PySem.W.codeIn K cd_law_pool "_law_pool" = true)
    (k_law_pool : PySem.W.keepIn K (.ref f_law_pool) = true)
    (a_law_turned : PySem.W.nsIn K mainGlobals "_law_turned" = some (some (.ref f_law_turned)))
    (l_law_turned : K.lookup f_law_turned = some ⟨oc_law_turned, od_law_turned, .func (PySem.W.fnOf "_law_turned" "_law_turned" (defArgs s_law_turned) (defBody s_law_turned) (defScope s_law_turned) .none kV_law_turned dc_law_turned pm_law_turned an_law_turned cd_law_turned ct_law_turned), sl_law_turned⟩)
    (c_law_turned : PySem.W.codeIn K cd_law_turned "_law_turned" = true)
    (k_law_turned : PySem.W.keepIn K (.ref f_law_turned) = true)
    (a_law_plain : PySem.W.nsIn K mainGlobals "_law_plain" = some (some (.ref f_law_plain)))
    (l_law_plain : K.lookup f_law_plain = some ⟨oc_law_plain, od_law_plain, .func (PySem.W.fnOf "_law_plain" "_law_plain" (defArgs s_law_plain) (defBody s_law_plain) (defScope s_law_plain) .none kV_law_plain dc_law_plain pm_law_plain an_law_plain cd_law_plain ct_law_plain), sl_law_plain⟩)
    (c_law_plain : PySem.W.codeIn K cd_law_plain "_law_plain" = true)
    (k_law_plain : PySem.W.keepIn K (.ref f_law_plain) = true)
    (a_law_rank : PySem.W.nsIn K mainGlobals "_law_rank" = some (some (.ref f_law_rank)))
    (l_law_rank : K.lookup f_law_rank = some ⟨oc_law_rank, od_law_rank, .func (PySem.W.fnOf "_law_rank" "_law_rank" (defArgs s_law_rank) (defBody s_law_rank) (defScope s_law_rank) .none kV_law_rank dc_law_rank pm_law_rank an_law_rank cd_law_rank ct_law_rank), sl_law_rank⟩)
    (c_law_rank : PySem.W.codeIn K cd_law_rank "_law_rank" = true)
    (k_law_rank : PySem.W.keepIn K (.ref f_law_rank) = true)
    (a_law_places : PySem.W.nsIn K mainGlobals "_law_places" = some (some (.ref f_law_places)))
    (l_law_places : K.lookup f_law_places = some ⟨oc_law_places, od_law_places, .func (PySem.W.fnOf "_law_places" "_law_places" (defArgs s_law_places) (defBody s_law_places) (defScope s_law_places) .none kV_law_places dc_law_places pm_law_places an_law_places cd_law_places ct_law_places), sl_law_places⟩)
    (c_law_places : PySem.W.codeIn K cd_law_places "_law_places" = true)
    (k_law_places : PySem.W.keepIn K (.ref f_law_places) = true)
    (a_law_take : PySem.W.nsIn K mainGlobals "_law_take" = some (some (.ref f_law_take)))
    (l_law_take : K.lookup f_law_take = some ⟨oc_law_take, od_law_take, .func (PySem.W.fnOf "_law_take" "_law_take" (defArgs s_law_take) (defBody s_law_take) (defScope s_law_take) .none kV_law_take dc_law_take pm_law_take an_law_take cd_law_take ct_law_take), sl_law_take⟩)
    (c_law_take : PySem.W.codeIn K cd_law_take "_law_take" = true)
    (k_law_take : PySem.W.keepIn K (.ref f_law_take) = true)
    (a_law_row : PySem.W.nsIn K mainGlobals "_law_row" = some (some (.ref f_law_row)))
    (l_law_row : K.lookup f_law_row = some ⟨oc_law_row, od_law_row, .func (PySem.W.fnOf "_law_row" "_law_row" (defArgs s_law_row) (defBody s_law_row) (defScope s_law_row) .none kV_law_row dc_law_row pm_law_row an_law_row cd_law_row ct_law_row), sl_law_row⟩)
    (c_law_row : PySem.W.codeIn K cd_law_row "_law_row" = true)
    (k_law_row : PySem.W.keepIn K (.ref f_law_row) = true)
    (a_is_row_within : PySem.W.nsIn K mainGlobals "is_row_within" = some (some (.ref f_is_row_within)))
    (l_is_row_within : K.lookup f_is_row_within = some ⟨oc_is_row_within, od_is_row_within, .func (PySem.W.fnOf "is_row_within" "is_row_within" (defArgs s_is_row_within) (defBody s_is_row_within) (defScope s_is_row_within) .none kV_is_row_within dc_is_row_within pm_is_row_within an_is_row_within cd_is_row_within ct_is_row_within), sl_is_row_within⟩)
    (c_is_row_within : PySem.W.codeIn K cd_is_row_within "is_row_within" = true)
    (k_is_row_within : PySem.W.keepIn K (.ref f_is_row_within) = true)
    (a_is_row : PySem.W.nsIn K mainGlobals "is_row" = some (some (.ref f_is_row)))
    (l_is_row : K.lookup f_is_row = some ⟨oc_is_row, od_is_row, .func (PySem.W.fnOf "is_row" "is_row" (defArgs s_is_row) (defBody s_is_row) (defScope s_is_row) .none kV_is_row dc_is_row pm_is_row an_is_row cd_is_row ct_is_row), sl_is_row⟩)
    (c_is_row : PySem.W.codeIn K cd_is_row "is_row" = true)
    (k_is_row : PySem.W.keepIn K (.ref f_is_row) = true)
    (a_contrary_sign : PySem.W.nsIn K mainGlobals "contrary_sign" = some (some (.ref f_contrary_sign)))
    (l_contrary_sign : K.lookup f_contrary_sign = some ⟨oc_contrary_sign, od_contrary_sign, .func (PySem.W.fnOf "contrary_sign" "contrary_sign" (defArgs s_contrary_sign) (defBody s_contrary_sign) (defScope s_contrary_sign) .none kV_contrary_sign dc_contrary_sign pm_contrary_sign an_contrary_sign cd_contrary_sign ct_contrary_sign), sl_contrary_sign⟩)
    (c_contrary_sign : PySem.W.codeIn K cd_contrary_sign "contrary_sign" = true)
    (k_contrary_sign : PySem.W.keepIn K (.ref f_contrary_sign) = true)
    (a_made_plain : PySem.W.nsIn K mainGlobals "made_plain" = some (some (.ref f_made_plain)))
    (l_made_plain : K.lookup f_made_plain = some ⟨oc_made_plain, od_made_plain, .func (PySem.W.fnOf "made_plain" "made_plain" (defArgs s_made_plain) (defBody s_made_plain) (defScope s_made_plain) .none kV_made_plain dc_made_plain pm_made_plain an_made_plain cd_made_plain ct_made_plain), sl_made_plain⟩)
    (c_made_plain : PySem.W.codeIn K cd_made_plain "made_plain" = true)
    (k_made_plain : PySem.W.keepIn K (.ref f_made_plain) = true)
    (a_is_plain_row : PySem.W.nsIn K mainGlobals "is_plain_row" = some (some (.ref f_is_plain_row)))
    (l_is_plain_row : K.lookup f_is_plain_row = some ⟨oc_is_plain_row, od_is_plain_row, .func (PySem.W.fnOf "is_plain_row" "is_plain_row" (defArgs s_is_plain_row) (defBody s_is_plain_row) (defScope s_is_plain_row) .none kV_is_plain_row dc_is_plain_row pm_is_plain_row an_is_plain_row cd_is_plain_row ct_is_plain_row), sl_is_plain_row⟩)
    (c_is_plain_row : PySem.W.codeIn K cd_is_plain_row "is_plain_row" = true)
    (k_is_plain_row : PySem.W.keepIn K (.ref f_is_plain_row) = true)
    (a_first_wrong : PySem.W.nsIn K mainGlobals "first_wrong" = some (some (.ref f_first_wrong)))
    (l_first_wrong : K.lookup f_first_wrong = some ⟨oc_first_wrong, od_first_wrong, .func (PySem.W.fnOf "first_wrong" "first_wrong" (defArgs s_first_wrong) (defBody s_first_wrong) (defScope s_first_wrong) .none kV_first_wrong dc_first_wrong pm_first_wrong an_first_wrong cd_first_wrong ct_first_wrong), sl_first_wrong⟩)
    (c_first_wrong : PySem.W.codeIn K cd_first_wrong "first_wrong" = true)
    (k_first_wrong : PySem.W.keepIn K (.ref f_first_wrong) = true)
    (a_rank : PySem.W.nsIn K mainGlobals "rank" = some (some (.ref f_rank)))
    (l_rank : K.lookup f_rank = some ⟨oc_rank, od_rank, .func (PySem.W.fnOf "rank" "rank" (defArgs s_rank) (defBody s_rank) (defScope s_rank) .none kV_rank dc_rank pm_rank an_rank cd_rank ct_rank), sl_rank⟩)
    (c_rank : PySem.W.codeIn K cd_rank "rank" = true)
    (k_rank : PySem.W.keepIn K (.ref f_rank) = true)
    (a_Walk___init__ : PySem.W.findIn K (.ref C_Walk) "__init__" = some (some (.ref f_Walk___init__)))
    (l_Walk___init__ : K.lookup f_Walk___init__ = some ⟨oc_Walk___init__, od_Walk___init__, .func (PySem.W.fnOf "__init__" "Walk.__init__" (defArgs s_Walk___init__) (defBody s_Walk___init__) (defScope s_Walk___init__) (.ref T_Walk___init__) kV_Walk___init__ dc_Walk___init__ pm_Walk___init__ an_Walk___init__ cd_Walk___init__ ct_Walk___init__), sl_Walk___init__⟩)
    (t_Walk___init__ : K.lookup T_Walk___init__ = some ⟨tc_Walk___init__, tdd_Walk___init__, .seq #[.none, .str "" td1_Walk___init__] tn_Walk___init__, ts_Walk___init__⟩)
    (c_Walk___init__ : PySem.W.codeIn K cd_Walk___init__ "Walk.__init__" = true)
    (k_Walk___init__ : PySem.W.keepIn K (.ref f_Walk___init__) = true)
    (u_Walk___init__ : PySem.W.typeIn K (.ref f_Walk___init__) = some (.type "function"))
    (fn_Walk___init__ : PySem.W.isFn K (.ref f_Walk___init__) = true)
    (a_Walk___len__ : PySem.W.findIn K (.ref C_Walk) "__len__" = some (some (.ref f_Walk___len__)))
    (l_Walk___len__ : K.lookup f_Walk___len__ = some ⟨oc_Walk___len__, od_Walk___len__, .func (PySem.W.fnOf "__len__" "Walk.__len__" (defArgs s_Walk___len__) (defBody s_Walk___len__) (defScope s_Walk___len__) .none kV_Walk___len__ dc_Walk___len__ pm_Walk___len__ an_Walk___len__ cd_Walk___len__ ct_Walk___len__), sl_Walk___len__⟩)
    (c_Walk___len__ : PySem.W.codeIn K cd_Walk___len__ "Walk.__len__" = true)
    (k_Walk___len__ : PySem.W.keepIn K (.ref f_Walk___len__) = true)
    (u_Walk___len__ : PySem.W.typeIn K (.ref f_Walk___len__) = some (.type "function"))
    (fn_Walk___len__ : PySem.W.isFn K (.ref f_Walk___len__) = true)
    (a_Walk_end : PySem.W.findIn K (.ref C_Walk) "end" = some (some (.ref f_Walk_end)))
    (l_Walk_end : K.lookup f_Walk_end = some ⟨oc_Walk_end, od_Walk_end, .func (PySem.W.fnOf "end" "Walk.end" (defArgs s_Walk_end) (defBody s_Walk_end) (defScope s_Walk_end) .none kV_Walk_end dc_Walk_end pm_Walk_end an_Walk_end cd_Walk_end ct_Walk_end), sl_Walk_end⟩)
    (c_Walk_end : PySem.W.codeIn K cd_Walk_end "Walk.end" = true)
    (k_Walk_end : PySem.W.keepIn K (.ref f_Walk_end) = true)
    (u_Walk_end : PySem.W.typeIn K (.ref f_Walk_end) = some (.type "function"))
    (fn_Walk_end : PySem.W.isFn K (.ref f_Walk_end) = true)
    (a_signs_many : PySem.W.nsIn K mainGlobals "signs_many" = some (some (.ref f_signs_many)))
    (l_signs_many : K.lookup f_signs_many = some ⟨oc_signs_many, od_signs_many, .func (PySem.W.fnOf "signs_many" "signs_many" (defArgs s_signs_many) (defBody s_signs_many) (defScope s_signs_many) .none kV_signs_many dc_signs_many pm_signs_many an_signs_many cd_signs_many ct_signs_many), sl_signs_many⟩)
    (c_signs_many : PySem.W.codeIn K cd_signs_many "signs_many" = true)
    (k_signs_many : PySem.W.keepIn K (.ref f_signs_many) = true)
    (a_law_gone : PySem.W.nsIn K mainGlobals "_law_gone" = some (some (.ref f_law_gone)))
    (l_law_gone : K.lookup f_law_gone = some ⟨oc_law_gone, od_law_gone, .func (PySem.W.fnOf "_law_gone" "_law_gone" (defArgs s_law_gone) (defBody s_law_gone) (defScope s_law_gone) .none kV_law_gone dc_law_gone pm_law_gone an_law_gone cd_law_gone ct_law_gone), sl_law_gone⟩)
    (c_law_gone : PySem.W.codeIn K cd_law_gone "_law_gone" = true)
    (k_law_gone : PySem.W.keepIn K (.ref f_law_gone) = true)
    (a_Walk_places : PySem.W.findIn K (.ref C_Walk) "places" = some (some (.ref f_Walk_places)))
    (l_Walk_places : K.lookup f_Walk_places = some ⟨oc_Walk_places, od_Walk_places, .func (PySem.W.fnOf "places" "Walk.places" (defArgs s_Walk_places) (defBody s_Walk_places) (defScope s_Walk_places) .none kV_Walk_places dc_Walk_places pm_Walk_places an_Walk_places cd_Walk_places ct_Walk_places), sl_Walk_places⟩)
    (c_Walk_places : PySem.W.codeIn K cd_Walk_places "Walk.places" = true)
    (k_Walk_places : PySem.W.keepIn K (.ref f_Walk_places) = true)
    (u_Walk_places : PySem.W.typeIn K (.ref f_Walk_places) = some (.type "function"))
    (fn_Walk_places : PySem.W.isFn K (.ref f_Walk_places) = true)
    (a_Rounds___init__ : PySem.W.findIn K (.ref C_Rounds) "__init__" = some (some (.ref f_Rounds___init__)))
    (l_Rounds___init__ : K.lookup f_Rounds___init__ = some ⟨oc_Rounds___init__, od_Rounds___init__, .func (PySem.W.fnOf "__init__" "Rounds.__init__" (defArgs s_Rounds___init__) (defBody s_Rounds___init__) (defScope s_Rounds___init__) .none kV_Rounds___init__ dc_Rounds___init__ pm_Rounds___init__ an_Rounds___init__ cd_Rounds___init__ ct_Rounds___init__), sl_Rounds___init__⟩)
    (c_Rounds___init__ : PySem.W.codeIn K cd_Rounds___init__ "Rounds.__init__" = true)
    (k_Rounds___init__ : PySem.W.keepIn K (.ref f_Rounds___init__) = true)
    (u_Rounds___init__ : PySem.W.typeIn K (.ref f_Rounds___init__) = some (.type "function"))
    (fn_Rounds___init__ : PySem.W.isFn K (.ref f_Rounds___init__) = true)
    (a_Rounds_rest_many : PySem.W.findIn K (.ref C_Rounds) "rest_many" = some (some (.ref f_Rounds_rest_many)))
    (l_Rounds_rest_many : K.lookup f_Rounds_rest_many = some ⟨oc_Rounds_rest_many, od_Rounds_rest_many, .func (PySem.W.fnOf "rest_many" "Rounds.rest_many" (defArgs s_Rounds_rest_many) (defBody s_Rounds_rest_many) (defScope s_Rounds_rest_many) .none kV_Rounds_rest_many dc_Rounds_rest_many pm_Rounds_rest_many an_Rounds_rest_many cd_Rounds_rest_many ct_Rounds_rest_many), sl_Rounds_rest_many⟩)
    (c_Rounds_rest_many : PySem.W.codeIn K cd_Rounds_rest_many "Rounds.rest_many" = true)
    (k_Rounds_rest_many : PySem.W.keepIn K (.ref f_Rounds_rest_many) = true)
    (u_Rounds_rest_many : PySem.W.typeIn K (.ref f_Rounds_rest_many) = some (.type "function"))
    (fn_Rounds_rest_many : PySem.W.isFn K (.ref f_Rounds_rest_many) = true)
    (a_shortest_many : PySem.W.nsIn K mainGlobals "shortest_many" = some (some (.ref f_shortest_many)))
    (l_shortest_many : K.lookup f_shortest_many = some ⟨oc_shortest_many, od_shortest_many, .func (PySem.W.fnOf "shortest_many" "shortest_many" (defArgs s_shortest_many) (defBody s_shortest_many) (defScope s_shortest_many) .none kV_shortest_many dc_shortest_many pm_shortest_many an_shortest_many cd_shortest_many ct_shortest_many), sl_shortest_many⟩)
    (c_shortest_many : PySem.W.codeIn K cd_shortest_many "shortest_many" = true)
    (k_shortest_many : PySem.W.keepIn K (.ref f_shortest_many) = true)
    (a_is_whole : PySem.W.nsIn K mainGlobals "is_whole" = some (some (.ref f_is_whole)))
    (l_is_whole : K.lookup f_is_whole = some ⟨oc_is_whole, od_is_whole, .func (PySem.W.fnOf "is_whole" "is_whole" (defArgs s_is_whole) (defBody s_is_whole) (defScope s_is_whole) .none kV_is_whole dc_is_whole pm_is_whole an_is_whole cd_is_whole ct_is_whole), sl_is_whole⟩)
    (c_is_whole : PySem.W.codeIn K cd_is_whole "is_whole" = true)
    (k_is_whole : PySem.W.keepIn K (.ref f_is_whole) = true)
    (a_Rounds_home : PySem.W.findIn K (.ref C_Rounds) "home" = some (some (.ref f_Rounds_home)))
    (l_Rounds_home : K.lookup f_Rounds_home = some ⟨oc_Rounds_home, od_Rounds_home, .func (PySem.W.fnOf "home" "Rounds.home" (defArgs s_Rounds_home) (defBody s_Rounds_home) (defScope s_Rounds_home) .none kV_Rounds_home dc_Rounds_home pm_Rounds_home an_Rounds_home cd_Rounds_home ct_Rounds_home), sl_Rounds_home⟩)
    (c_Rounds_home : PySem.W.codeIn K cd_Rounds_home "Rounds.home" = true)
    (k_Rounds_home : PySem.W.keepIn K (.ref f_Rounds_home) = true)
    (u_Rounds_home : PySem.W.typeIn K (.ref f_Rounds_home) = some (.type "function"))
    (fn_Rounds_home : PySem.W.isFn K (.ref f_Rounds_home) = true)
    (a_Rounds_choices : PySem.W.findIn K (.ref C_Rounds) "choices" = some (some (.ref f_Rounds_choices)))
    (l_Rounds_choices : K.lookup f_Rounds_choices = some ⟨oc_Rounds_choices, od_Rounds_choices, .func (PySem.W.fnOf "choices" "Rounds.choices" (defArgs s_Rounds_choices) (defBody s_Rounds_choices) (defScope s_Rounds_choices) .none kV_Rounds_choices dc_Rounds_choices pm_Rounds_choices an_Rounds_choices cd_Rounds_choices ct_Rounds_choices), sl_Rounds_choices⟩)
    (c_Rounds_choices : PySem.W.codeIn K cd_Rounds_choices "Rounds.choices" = true)
    (k_Rounds_choices : PySem.W.keepIn K (.ref f_Rounds_choices) = true)
    (u_Rounds_choices : PySem.W.typeIn K (.ref f_Rounds_choices) = some (.type "function"))
    (fn_Rounds_choices : PySem.W.isFn K (.ref f_Rounds_choices) = true)
    (a_Rounds_go_on : PySem.W.findIn K (.ref C_Rounds) "go_on" = some (some (.ref f_Rounds_go_on)))
    (l_Rounds_go_on : K.lookup f_Rounds_go_on = some ⟨oc_Rounds_go_on, od_Rounds_go_on, .func (PySem.W.fnOf "go_on" "Rounds.go_on" (defArgs s_Rounds_go_on) (defBody s_Rounds_go_on) (defScope s_Rounds_go_on) .none kV_Rounds_go_on dc_Rounds_go_on pm_Rounds_go_on an_Rounds_go_on cd_Rounds_go_on ct_Rounds_go_on), sl_Rounds_go_on⟩)
    (c_Rounds_go_on : PySem.W.codeIn K cd_Rounds_go_on "Rounds.go_on" = true)
    (k_Rounds_go_on : PySem.W.keepIn K (.ref f_Rounds_go_on) = true)
    (u_Rounds_go_on : PySem.W.typeIn K (.ref f_Rounds_go_on) = some (.type "function"))
    (fn_Rounds_go_on : PySem.W.isFn K (.ref f_Rounds_go_on) = true)
    (a_shortest_at : PySem.W.nsIn K mainGlobals "shortest_at" = some (some (.ref f_shortest_at)))
    (l_shortest_at : K.lookup f_shortest_at = some ⟨oc_shortest_at, od_shortest_at, .func (PySem.W.fnOf "shortest_at" "shortest_at" (defArgs s_shortest_at) (defBody s_shortest_at) (defScope s_shortest_at) (.ref T_shortest_at) kV_shortest_at dc_shortest_at pm_shortest_at an_shortest_at cd_shortest_at ct_shortest_at), sl_shortest_at⟩)
    (t_shortest_at : K.lookup T_shortest_at = some ⟨tc_shortest_at, tdd_shortest_at, .seq #[.int 0 td0_shortest_at] tn_shortest_at, ts_shortest_at⟩)
    (c_shortest_at : PySem.W.codeIn K cd_shortest_at "shortest_at" = true)
    (k_shortest_at : PySem.W.keepIn K (.ref f_shortest_at) = true)
    (a_law : PySem.W.nsIn K mainGlobals "law" = some (some (.ref f_law)))
    (l_law : K.lookup f_law = some ⟨oc_law, od_law, .func (PySem.W.fnOf "law" "law" (defArgs s_law) (defBody s_law) (defScope s_law) .none kV_law dc_law pm_law an_law cd_law ct_law), sl_law⟩)
    (c_law : PySem.W.codeIn K cd_law "law" = true)
    (k_law : PySem.W.keepIn K (.ref f_law) = true) :
    ∃ fd : FuncData, (∀ (s : Shared) (v : Value), BindsTo s fd ⟨[v], []⟩ [("_law_script", v)]) ∧ ∀ base : Heap, K.In base → base.Ns mainGlobals mg → FnOk l.prog w K mg base CX0 7 fa fd ["_law_script"] (sp_law K) := by
  have e := hfa.symm.trans (PySem.W.mg_of X G a_law)
  cases e
  have T : Txt K mg C_Rounds C_Walk := ⟨PySem.W.mg_none_of X G z_all, PySem.W.mg_none_of X G z_bool, PySem.W.mg_none_of X G z_divmod, PySem.W.mg_none_of X G z_enumerate, PySem.W.mg_none_of X G z_int, PySem.W.mg_none_of X G z_isinstance, PySem.W.mg_none_of X G z_len, PySem.W.mg_none_of X G z_list, PySem.W.mg_none_of X G z_max, PySem.W.mg_none_of X G z_min, PySem.W.mg_none_of X G z_range, PySem.W.mg_none_of X G z_sorted, PySem.W.mg_none_of X G z_str, PySem.W.mg_none_of X G z_tuple, ⟨_, PySem.W.mg_of X G n_MOST_PLACES, ⟨_, rfl⟩⟩, ⟨_, PySem.W.mg_of X G n_MOST_SIGNS, ⟨_, rfl⟩⟩, ⟨_, PySem.W.mg_of X G n_SIGNS, ⟨_, rfl⟩⟩, y_Rounds_own_end, y_Rounds_own_here, y_Rounds_own_left, y_Walk_own_end, y_Walk_own_places, ⟨PySem.W.mg_of X G aC_Rounds, ⟨pg_Rounds, hd_Rounds, po_Rounds, sa_Rounds⟩, mk_Rounds, kC_Rounds⟩, ⟨PySem.W.mg_of X G aC_Walk, ⟨pg_Walk, hd_Walk, po_Walk, sa_Walk⟩, mk_Walk, kC_Walk⟩⟩
  have F_law_pool := fun_mk (st := s_law_pool) l_law_pool c_law_pool k_law_pool
  have b_law_pool := F_law_pool.binds (ps := ["_law_script", "_law_k"]) fun _ _ _ _ _ _ us hl => match us, hl with | [_, _], _ => rfl
  have F_law_turned := fun_mk (st := s_law_turned) l_law_turned c_law_turned k_law_turned
  have b_law_turned := F_law_turned.binds (ps := ["_law_text"]) fun _ _ _ _ _ _ us hl => match us, hl with | [_], _ => rfl
  have F_law_plain := fun_mk (st := s_law_plain) l_law_plain c_law_plain k_law_plain
  have b_law_plain := F_law_plain.binds (ps := ["_law_text"]) fun _ _ _ _ _ _ us hl => match us, hl with | [_], _ => rfl
  have F_law_rank := fun_mk (st := s_law_rank) l_law_rank c_law_rank k_law_rank
  have b_law_rank := F_law_rank.binds (ps := ["_law_text"]) fun _ _ _ _ _ _ us hl => match us, hl with | [_], _ => rfl
  have F_law_places := fun_mk (st := s_law_places) l_law_places c_law_places k_law_places
  have b_law_places := F_law_places.binds (ps := ["_law_text"]) fun _ _ _ _ _ _ us hl => match us, hl with | [_], _ => rfl
  have F_law_take := fun_mk (st := s_law_take) l_law_take c_law_take k_law_take
  have b_law_take := F_law_take.binds (ps := ["_law_pool_here", "_law_many"]) fun _ _ _ _ _ _ us hl => match us, hl with | [_, _], _ => rfl
  have F_law_row := fun_mk (st := s_law_row) l_law_row c_law_row k_law_row
  have b_law_row := F_law_row.binds (ps := ["_law_pool_here", "_law_most", "_law_deeds"]) fun _ _ _ _ _ _ us hl => match us, hl with | [_, _, _], _ => rfl
  have F_is_row_within := fun_mk (st := s_is_row_within) l_is_row_within c_is_row_within k_is_row_within
  have b_is_row_within := F_is_row_within.binds (ps := ["thing", "most"]) fun _ _ _ _ _ _ us hl => match us, hl with | [_, _], _ => rfl
  have F_is_row := fun_mk (st := s_is_row) l_is_row c_is_row k_is_row
  have b_is_row := F_is_row.binds (ps := ["thing"]) fun _ _ _ _ _ _ us hl => match us, hl with | [_], _ => rfl
  have F_contrary_sign := fun_mk (st := s_contrary_sign) l_contrary_sign c_contrary_sign k_contrary_sign
  have b_contrary_sign := F_contrary_sign.binds (ps := ["sign"]) fun _ _ _ _ _ _ us hl => match us, hl with | [_], _ => rfl
  have F_made_plain := fun_mk (st := s_made_plain) l_made_plain c_made_plain k_made_plain
  have b_made_plain := F_made_plain.binds (ps := ["text"]) fun _ _ _ _ _ _ us hl => match us, hl with | [_], _ => rfl
  have F_is_plain_row := fun_mk (st := s_is_plain_row) l_is_plain_row c_is_plain_row k_is_plain_row
  have b_is_plain_row := F_is_plain_row.binds (ps := ["thing"]) fun _ _ _ _ _ _ us hl => match us, hl with | [_], _ => rfl
  have F_first_wrong := fun_mk (st := s_first_wrong) l_first_wrong c_first_wrong k_first_wrong
  have b_first_wrong := F_first_wrong.binds (ps := ["places"]) fun _ _ _ _ _ _ us hl => match us, hl with | [_], _ => rfl
  have F_rank := fun_mk (st := s_rank) l_rank c_rank k_rank
  have b_rank := F_rank.binds (ps := ["text"]) fun _ _ _ _ _ _ us hl => match us, hl with | [_], _ => rfl
  have F_Walk___init__ := funD_mk (st := s_Walk___init__) (its := [.none, .str "" td1_Walk___init__]) (dvs := [.non, .str ""]) l_Walk___init__ c_Walk___init__ k_Walk___init__ t_Walk___init__ rfl (.cons rfl (.cons ⟨_, rfl⟩ .nil)) (by simp)
  obtain ⟨ds_Walk___init__, v_Walk___init__, b_Walk___init__⟩ := FunD.binds1 F_Walk___init__ (ps := ["self", "places", "end"]) 3 2 (by simp) rfl fun _ _ _ _ _ _ _ us its hu hi => match us, hu, its, hi with | [_, _, _], _, [_, _], _ => ⟨_, rfl, rfl⟩
  have F_Walk___len__ := fun_mk (st := s_Walk___len__) l_Walk___len__ c_Walk___len__ k_Walk___len__
  have b_Walk___len__ := F_Walk___len__.binds (ps := ["self"]) fun _ _ _ _ _ _ us hl => match us, hl with | [_], _ => rfl
  have F_Walk_end := fun_mk (st := s_Walk_end) l_Walk_end c_Walk_end k_Walk_end
  have b_Walk_end := F_Walk_end.binds (ps := ["self"]) fun _ _ _ _ _ _ us hl => match us, hl with | [_], _ => rfl
  have F_signs_many := fun_mk (st := s_signs_many) l_signs_many c_signs_many k_signs_many
  have b_signs_many := F_signs_many.binds (ps := ["walk"]) fun _ _ _ _ _ _ us hl => match us, hl with | [_], _ => rfl
  have F_law_gone := fun_mk (st := s_law_gone) l_law_gone c_law_gone k_law_gone
  have b_law_gone := F_law_gone.binds (ps := ["_law_places_here", "_law_end", "_law_signs"]) fun _ _ _ _ _ _ us hl => match us, hl with | [_, _, _], _ => rfl
  have F_Walk_places := fun_mk (st := s_Walk_places) l_Walk_places c_Walk_places k_Walk_places
  have b_Walk_places := F_Walk_places.binds (ps := ["self"]) fun _ _ _ _ _ _ us hl => match us, hl with | [_], _ => rfl
  have F_Rounds___init__ := fun_mk (st := s_Rounds___init__) l_Rounds___init__ c_Rounds___init__ k_Rounds___init__
  have b_Rounds___init__ := F_Rounds___init__.binds (ps := ["self", "walk"]) fun _ _ _ _ _ _ us hl => match us, hl with | [_, _], _ => rfl
  have F_Rounds_rest_many := fun_mk (st := s_Rounds_rest_many) l_Rounds_rest_many c_Rounds_rest_many k_Rounds_rest_many
  have b_Rounds_rest_many := F_Rounds_rest_many.binds (ps := ["self"]) fun _ _ _ _ _ _ us hl => match us, hl with | [_], _ => rfl
  have F_shortest_many := fun_mk (st := s_shortest_many) l_shortest_many c_shortest_many k_shortest_many
  have b_shortest_many := F_shortest_many.binds (ps := ["walk"]) fun _ _ _ _ _ _ us hl => match us, hl with | [_], _ => rfl
  have F_is_whole := fun_mk (st := s_is_whole) l_is_whole c_is_whole k_is_whole
  have b_is_whole := F_is_whole.binds (ps := ["thing"]) fun _ _ _ _ _ _ us hl => match us, hl with | [_], _ => rfl
  have F_Rounds_home := fun_mk (st := s_Rounds_home) l_Rounds_home c_Rounds_home k_Rounds_home
  have b_Rounds_home := F_Rounds_home.binds (ps := ["self"]) fun _ _ _ _ _ _ us hl => match us, hl with | [_], _ => rfl
  have F_Rounds_choices := fun_mk (st := s_Rounds_choices) l_Rounds_choices c_Rounds_choices k_Rounds_choices
  have b_Rounds_choices := F_Rounds_choices.binds (ps := ["self"]) fun _ _ _ _ _ _ us hl => match us, hl with | [_], _ => rfl
  have F_Rounds_go_on := fun_mk (st := s_Rounds_go_on) l_Rounds_go_on c_Rounds_go_on k_Rounds_go_on
  have b_Rounds_go_on := F_Rounds_go_on.binds (ps := ["self", "sign"]) fun _ _ _ _ _ _ us hl => match us, hl with | [_, _], _ => rfl
  have F_shortest_at := funD_mk (st := s_shortest_at) (its := [.int 0 td0_shortest_at]) (dvs := [.int 0]) l_shortest_at c_shortest_at k_shortest_at t_shortest_at rfl (.cons ⟨_, rfl⟩ .nil) (by simp)
  obtain ⟨ds_shortest_at, v_shortest_at, b_shortest_at⟩ := FunD.binds1 F_shortest_at (ps := ["walk", "number"]) 2 1 (by simp) rfl fun _ _ _ _ _ _ _ us its hu hi => match us, hu, its, hi with | [_, _], _, [_], _ => ⟨_, rfl, rfl⟩
  have F_law := fun_mk (st := s_law) l_law c_law k_law
  refine ⟨PySem.W.fnOf "law" "law" (defArgs s_law) (defBody s_law) (defScope s_law) .none kV_law dc_law pm_law an_law cd_law ct_law, fun s v => .of_eq rfl, fun base _ _ => ?_⟩
  have N_law_pool : KN l.prog w K mg base CX0 1 ["_law_script", "_law_k"] (sp_law_pool K) "_law_pool" [] := ⟨_, _, [], PySem.W.mg_of X G a_law_pool, k_law_pool, .nil, b_law_pool, ok_law_pool F_law_pool T⟩
  have N_law_turned : KN l.prog w K mg base CX0 1 ["_law_text"] (sp_law_turned) "_law_turned" [] := ⟨_, _, [], PySem.W.mg_of X G a_law_turned, k_law_turned, .nil, b_law_turned, ok_law_turned F_law_turned T⟩
  have N_law_plain : KN l.prog w K mg base CX0 2 ["_law_text"] (sp_law_plain) "_law_plain" [] := ⟨_, _, [], PySem.W.mg_of X G a_law_plain, k_law_plain, .nil, b_law_plain, ok_law_plain F_law_plain T N_law_turned⟩
  have N_law_rank : KN l.prog w K mg base CX0 1 ["_law_text"] (sp_law_rank) "_law_rank" [] := ⟨_, _, [], PySem.W.mg_of X G a_law_rank, k_law_rank, .nil, b_law_rank, ok_law_rank F_law_rank T⟩
  have N_law_places : KN l.prog w K mg base CX0 4 ["_law_text"] (sp_law_places K) "_law_places" [] := ⟨_, _, [], PySem.W.mg_of X G a_law_places, k_law_places, .nil, b_law_places, ok_law_places F_law_places T N_law_plain N_law_rank⟩
  have N_law_take : KN l.prog w K mg base CX0 1 ["_law_pool_here", "_law_many"] (sp_law_take) "_law_take" [] := ⟨_, _, [], PySem.W.mg_of X G a_law_take, k_law_take, .nil, b_law_take, ok_law_take F_law_take T⟩
  have N_law_row : KN l.prog w K mg base CX0 2 ["_law_pool_here", "_law_most", "_law_deeds"] (sp_law_row) "_law_row" [] := ⟨_, _, [], PySem.W.mg_of X G a_law_row, k_law_row, .nil, b_law_row, ok_law_row F_law_row T N_law_take N_law_turned⟩
  have N_is_row_within : KN l.prog w K mg base CX0 1 ["thing", "most"] (sp_is_row_within) "is_row_within" [] := ⟨_, _, [], PySem.W.mg_of X G a_is_row_within, k_is_row_within, .nil, b_is_row_within, ok_is_row_within F_is_row_within T⟩
  have N_is_row : KN l.prog w K mg base CX0 2 ["thing"] (sp_is_row) "is_row" [] := ⟨_, _, [], PySem.W.mg_of X G a_is_row, k_is_row, .nil, b_is_row, ok_is_row F_is_row T N_is_row_within⟩
  have N_contrary_sign : KN l.prog w K mg base CX0 1 ["sign"] (sp_contrary_sign) "contrary_sign" [] := ⟨_, _, [], PySem.W.mg_of X G a_contrary_sign, k_contrary_sign, .nil, b_contrary_sign, ok_contrary_sign F_contrary_sign T⟩
  have N_made_plain : KN l.prog w K mg base CX0 2 ["text"] (sp_made_plain) "made_plain" [] := ⟨_, _, [], PySem.W.mg_of X G a_made_plain, k_made_plain, .nil, b_made_plain, ok_made_plain F_made_plain T N_contrary_sign⟩
  have N_is_plain_row : KN l.prog w K mg base CX0 3 ["thing"] (sp_is_plain_row) "is_plain_row" [] := ⟨_, _, [], PySem.W.mg_of X G a_is_plain_row, k_is_plain_row, .nil, b_is_plain_row, ok_is_plain_row F_is_plain_row T N_is_row N_made_plain⟩
  have N_first_wrong : KN l.prog w K mg base CX0 4 ["places"] (sp_first_wrong K) "first_wrong" [] := ⟨_, _, [], PySem.W.mg_of X G a_first_wrong, k_first_wrong, .nil, b_first_wrong, ok_first_wrong F_first_wrong T N_is_plain_row⟩
  have N_rank : KN l.prog w K mg base CX0 1 ["text"] (sp_rank) "rank" [] := ⟨_, _, [], PySem.W.mg_of X G a_rank, k_rank, .nil, b_rank, ok_rank F_rank T⟩
  have N_Walk___init__ : KM l.prog w K mg base CX0 5 ["self", "places", "end"] (sp_Walk___init__ K C_Walk) C_Walk "__init__" [] := ⟨_, _, _, a_Walk___init__, u_Walk___init__, fn_Walk___init__, k_Walk___init__, v_Walk___init__, b_Walk___init__, ok_Walk___init__ F_Walk___init__ T N_first_wrong N_rank⟩
  have N_Walk___len__ : KM l.prog w K mg base CX0 1 ["self"] (sp_Walk___len__ C_Walk) C_Walk "__len__" [] := ⟨_, _, [], a_Walk___len__, u_Walk___len__, fn_Walk___len__, k_Walk___len__, .nil, b_Walk___len__, ok_Walk___len__ F_Walk___len__ T⟩
  have N_Walk_end : KM l.prog w K mg base CX0 1 ["self"] (sp_Walk_end C_Walk) C_Walk "end" [] := ⟨_, _, [], a_Walk_end, u_Walk_end, fn_Walk_end, k_Walk_end, .nil, b_Walk_end, ok_Walk_end F_Walk_end T⟩
  have N_signs_many : KN l.prog w K mg base CX0 4 ["walk"] (sp_signs_many C_Walk) "signs_many" [] := ⟨_, _, [], PySem.W.mg_of X G a_signs_many, k_signs_many, .nil, b_signs_many, ok_signs_many F_signs_many T N_Walk___len__ N_Walk_end⟩
  have N_law_gone : KN l.prog w K mg base CX0 3 ["_law_places_here", "_law_end", "_law_signs"] (sp_law_gone K) "_law_gone" [] := ⟨_, _, [], PySem.W.mg_of X G a_law_gone, k_law_gone, .nil, b_law_gone, ok_law_gone F_law_gone T N_law_plain⟩
  have N_Walk_places : KM l.prog w K mg base CX0 1 ["self"] (sp_Walk_places C_Walk) C_Walk "places" [] := ⟨_, _, [], a_Walk_places, u_Walk_places, fn_Walk_places, k_Walk_places, .nil, b_Walk_places, ok_Walk_places F_Walk_places T⟩
  have N_Rounds___init__ : KM l.prog w K mg base CX0 4 ["self", "walk"] (sp_Rounds___init__ K C_Rounds C_Walk) C_Rounds "__init__" [] := ⟨_, _, [], a_Rounds___init__, u_Rounds___init__, fn_Rounds___init__, k_Rounds___init__, .nil, b_Rounds___init__, ok_Rounds___init__ F_Rounds___init__ T N_Walk_end N_Walk_places N_rank⟩
  have N_Rounds_rest_many : KM l.prog w K mg base CX0 1 ["self"] (sp_Rounds_rest_many K C_Rounds) C_Rounds "rest_many" [] := ⟨_, _, [], a_Rounds_rest_many, u_Rounds_rest_many, fn_Rounds_rest_many, k_Rounds_rest_many, .nil, b_Rounds_rest_many, ok_Rounds_rest_many F_Rounds_rest_many T⟩
  have N_shortest_many : KN l.prog w K mg base CX0 6 ["walk"] (sp_shortest_many K C_Rounds C_Walk) "shortest_many" [] := ⟨_, _, [], PySem.W.mg_of X G a_shortest_many, k_shortest_many, .nil, b_shortest_many, ok_shortest_many F_shortest_many T N_Rounds___init__ N_Rounds_rest_many⟩
  have N_is_whole : KN l.prog w K mg base CX0 1 ["thing"] (sp_is_whole) "is_whole" [] := ⟨_, _, [], PySem.W.mg_of X G a_is_whole, k_is_whole, .nil, b_is_whole, ok_is_whole F_is_whole T⟩
  have N_Rounds_home : KM l.prog w K mg base CX0 2 ["self"] (sp_Rounds_home C_Rounds) C_Rounds "home" [] := ⟨_, _, [], a_Rounds_home, u_Rounds_home, fn_Rounds_home, k_Rounds_home, .nil, b_Rounds_home, ok_Rounds_home F_Rounds_home T N_contrary_sign⟩
  have N_Rounds_choices : KM l.prog w K mg base CX0 3 ["self"] (sp_Rounds_choices C_Rounds) C_Rounds "choices" [] := ⟨_, _, [], a_Rounds_choices, u_Rounds_choices, fn_Rounds_choices, k_Rounds_choices, .nil, b_Rounds_choices, ok_Rounds_choices F_Rounds_choices T N_Rounds_home⟩
  have N_Rounds_go_on : KMR l.prog w K mg base CX0 3 ["self", "sign"] (sp_Rounds_go_on C_Rounds) C_Rounds "go_on" [] := ⟨_, _, [], a_Rounds_go_on, u_Rounds_go_on, fn_Rounds_go_on, k_Rounds_go_on, .nil, b_Rounds_go_on, ok_Rounds_go_on F_Rounds_go_on T N_made_plain⟩
  have N_shortest_at : KN l.prog w K mg base CX0 6 ["walk", "number"] (sp_shortest_at K C_Rounds C_Walk) "shortest_at" [] := ⟨_, _, _, PySem.W.mg_of X G a_shortest_at, k_shortest_at, v_shortest_at, b_shortest_at, ok_shortest_at F_shortest_at T N_Rounds___init__ N_Rounds_rest_many N_is_whole N_signs_many N_Rounds_choices N_Rounds_go_on⟩
  exact ok_law F_law T N_law_pool N_law_places N_law_row N_law_take N_Walk___init__ N_signs_many N_law_gone N_shortest_many N_shortest_at
theorem walk {l : PySem.W.OpenLaw} {q : Program} {loose : List Str} {XP : (Str → Option Value) → Heap → Prop} {YP : World → Heap → Prop} {d : DefRec} {K : Params → PySem.W.Frag} (hn : l.most = some 63) (hdf : d.params.defaults = [])
    (hY : ∀ (w : World) (h : Heap), YP w h → (K w.params).In h)
    (F : ∀ (w : World) (mg : Str → Option Value) (fa : Addr) (h : Heap), (K w.params).In h → h.Ns mainGlobals mg → mg d.name = some (.ref fa) →
      ∃ fd : FuncData, (∀ (s : Shared) (u : Value), BindsTo s fd ⟨[u], []⟩ [("_law_script", u)]) ∧ ∀ base : Heap, (K w.params).In base → base.Ns mainGlobals mg → FnOk l.prog w (K w.params) mg base CX0 7 fa fd ["_law_script"] (sp_law (K w.params))) :
    PySem.W.WalkO q loose XP YP l.row.toRowW d [] (fun f vs => PySem.call f vs) :=
  L2.walk_of (n := 63) (k := 7) (x := "_law_script") (CX := fun _ => CX0) (sp := fun w => sp_law (K w.params)) hn (by decide) hdf ⟨rfl, by decide, by decide⟩ hY F (fun _ _ a ns hl _ hS => ⟨a, ns, rfl, hS, hl, fun _ => rfl⟩) fun _ _ _ _ _ z => z
end Toy

open PySem PySem.W PyProof.Rows in
set_option maxRecDepth 100000 in
set_option maxHeartbeats 0 in
theorem PySem.Challenge.cw_undotrees_k31_whole_all_shortest_rows_holds : PySem.Challenge.rw_undotrees_k31_whole_all_shortest_rows.Holds := by
  w_on; o_law; k_head; (case hw => w_witness2)
  k_fill
  refine Toy.walk (l := PySem.Challenge.rw_undotrees_k31_whole_all_shortest_rows) rfl rfl (fun w h Y => PySem.W.kIn_of Y) ?F
  case F =>
    intro w mg fa h KX G hmg
    refine' Toy.all_mk KX G hmg ?z_all ?z_bool ?z_divmod ?z_enumerate ?z_int ?z_isinstance ?z_len ?z_list ?z_max ?z_min ?z_range ?z_sorted ?z_str ?z_tuple ?n_MOST_PLACES ?n_MOST_SIGNS ?n_SIGNS ?aC_Rounds ?pg_Rounds ?hd_Rounds ?po_Rounds ?sa_Rounds ?mk_Rounds ?kC_Rounds ?aC_Walk ?pg_Walk ?hd_Walk ?po_Walk ?sa_Walk ?mk_Walk ?kC_Walk ?y_Rounds_own_end ?y_Rounds_own_here ?y_Rounds_own_left ?y_Walk_own_end ?y_Walk_own_places ?a_law_pool ?l_law_pool ?c_law_pool ?k_law_pool ?a_law_turned ?l_law_turned ?c_law_turned ?k_law_turned ?a_law_plain ?l_law_plain ?c_law_plain ?k_law_plain ?a_law_rank ?l_law_rank ?c_law_rank ?k_law_rank ?a_law_places ?l_law_places ?c_law_places ?k_law_places ?a_law_take ?l_law_take ?c_law_take ?k_law_take ?a_law_row ?l_law_row ?c_law_row ?k_law_row ?a_is_row_within ?l_is_row_within ?c_is_row_within ?k_is_row_within ?a_is_row ?l_is_row ?c_is_row ?k_is_row ?a_contrary_sign ?l_contrary_sign ?c_contrary_sign ?k_contrary_sign ?a_made_plain ?l_made_plain ?c_made_plain ?k_made_plain ?a_is_plain_row ?l_is_plain_row ?c_is_plain_row ?k_is_plain_row ?a_first_wrong ?l_first_wrong ?c_first_wrong ?k_first_wrong ?a_rank ?l_rank ?c_rank ?k_rank ?a_Walk___init__ ?l_Walk___init__ ?t_Walk___init__ ?c_Walk___init__ ?k_Walk___init__ ?u_Walk___init__ ?fn_Walk___init__ ?a_Walk___len__ ?l_Walk___len__ ?c_Walk___len__ ?k_Walk___len__ ?u_Walk___len__ ?fn_Walk___len__ ?a_Walk_end ?l_Walk_end ?c_Walk_end ?k_Walk_end ?u_Walk_end ?fn_Walk_end ?a_signs_many ?l_signs_many ?c_signs_many ?k_signs_many ?a_law_gone ?l_law_gone ?c_law_gone ?k_law_gone ?a_Walk_places ?l_Walk_places ?c_Walk_places ?k_Walk_places ?u_Walk_places ?fn_Walk_places ?a_Rounds___init__ ?l_Rounds___init__ ?c_Rounds___init__ ?k_Rounds___init__ ?u_Rounds___init__ ?fn_Rounds___init__ ?a_Rounds_rest_many ?l_Rounds_rest_many ?c_Rounds_rest_many ?k_Rounds_rest_many ?u_Rounds_rest_many ?fn_Rounds_rest_many ?a_shortest_many ?l_shortest_many ?c_shortest_many ?k_shortest_many ?a_is_whole ?l_is_whole ?c_is_whole ?k_is_whole ?a_Rounds_home ?l_Rounds_home ?c_Rounds_home ?k_Rounds_home ?u_Rounds_home ?fn_Rounds_home ?a_Rounds_choices ?l_Rounds_choices ?c_Rounds_choices ?k_Rounds_choices ?u_Rounds_choices ?fn_Rounds_choices ?a_Rounds_go_on ?l_Rounds_go_on ?c_Rounds_go_on ?k_Rounds_go_on ?u_Rounds_go_on ?fn_Rounds_go_on ?a_shortest_at ?l_shortest_at ?t_shortest_at ?c_shortest_at ?k_shortest_at ?a_law ?l_law ?c_law ?k_law
    (case z_all => k_is)
    (case z_bool => k_is)
    (case z_divmod => k_is)
    (case z_enumerate => k_is)
    (case z_int => k_is)
    (case z_isinstance => k_is)
    (case z_len => k_is)
    (case z_list => k_is)
    (case z_max => k_is)
    (case z_min => k_is)
    (case z_range => k_is)
    (case z_sorted => k_is)
    (case z_str => k_is)
    (case z_tuple => k_is)
    (case n_MOST_PLACES => k_is)
    (case n_MOST_SIGNS => k_is)
    (case n_SIGNS => k_is)
    (case aC_Rounds => k_is)
    (case pg_Rounds => k_is)
    (case hd_Rounds => k_is)
    (case po_Rounds => k_is)
    (case sa_Rounds => k_is)
    (case mk_Rounds => k_is)
    (case kC_Rounds => k_is)
    (case aC_Walk => k_is)
    (case pg_Walk => k_is)
    (case hd_Walk => k_is)
    (case po_Walk => k_is)
    (case sa_Walk => k_is)
    (case mk_Walk => k_is)
    (case kC_Walk => k_is)
    (case y_Rounds_own_end => k_is)
    (case y_Rounds_own_here => k_is)
    (case y_Rounds_own_left => k_is)
    (case y_Walk_own_end => k_is)
    (case y_Walk_own_places => k_is)
    (case a_law_pool => k_is)
    (case l_law_pool => k_is)
    (case c_law_pool => k_is)
    (case k_law_pool => k_is)
    (case a_law_turned => k_is)
    (case l_law_turned => k_is)
    (case c_law_turned => k_is)
    (case k_law_turned => k_is)
    (case a_law_plain => k_is)
    (case l_law_plain => k_is)
    (case c_law_plain => k_is)
    (case k_law_plain => k_is)
    (case a_law_rank => k_is)
    (case l_law_rank => k_is)
    (case c_law_rank => k_is)
    (case k_law_rank => k_is)
    (case a_law_places => k_is)
    (case l_law_places => k_is)
    (case c_law_places => k_is)
    (case k_law_places => k_is)
    (case a_law_take => k_is)
    (case l_law_take => k_is)
    (case c_law_take => k_is)
    (case k_law_take => k_is)
    (case a_law_row => k_is)
    (case l_law_row => k_is)
    (case c_law_row => k_is)
    (case k_law_row => k_is)
    (case a_is_row_within => k_is)
    (case l_is_row_within => k_is)
    (case c_is_row_within => k_is)
    (case k_is_row_within => k_is)
    (case a_is_row => k_is)
    (case l_is_row => k_is)
    (case c_is_row => k_is)
    (case k_is_row => k_is)
    (case a_contrary_sign => k_is)
    (case l_contrary_sign => k_is)
    (case c_contrary_sign => k_is)
    (case k_contrary_sign => k_is)
    (case a_made_plain => k_is)
    (case l_made_plain => k_is)
    (case c_made_plain => k_is)
    (case k_made_plain => k_is)
    (case a_is_plain_row => k_is)
    (case l_is_plain_row => k_is)
    (case c_is_plain_row => k_is)
    (case k_is_plain_row => k_is)
    (case a_first_wrong => k_is)
    (case l_first_wrong => k_is)
    (case c_first_wrong => k_is)
    (case k_first_wrong => k_is)
    (case a_rank => k_is)
    (case l_rank => k_is)
    (case c_rank => k_is)
    (case k_rank => k_is)
    (case a_Walk___init__ => k_is)
    (case l_Walk___init__ => k_is)
    (case t_Walk___init__ => k_is)
    (case c_Walk___init__ => k_is)
    (case k_Walk___init__ => k_is)
    (case u_Walk___init__ => k_is)
    (case fn_Walk___init__ => k_is)
    (case a_Walk___len__ => k_is)
    (case l_Walk___len__ => k_is)
    (case c_Walk___len__ => k_is)
    (case k_Walk___len__ => k_is)
    (case u_Walk___len__ => k_is)
    (case fn_Walk___len__ => k_is)
    (case a_Walk_end => k_is)
    (case l_Walk_end => k_is)
    (case c_Walk_end => k_is)
    (case k_Walk_end => k_is)
    (case u_Walk_end => k_is)
    (case fn_Walk_end => k_is)
    (case a_signs_many => k_is)
    (case l_signs_many => k_is)
    (case c_signs_many => k_is)
    (case k_signs_many => k_is)
    (case a_law_gone => k_is)
    (case l_law_gone => k_is)
    (case c_law_gone => k_is)
    (case k_law_gone => k_is)
    (case a_Walk_places => k_is)
    (case l_Walk_places => k_is)
    (case c_Walk_places => k_is)
    (case k_Walk_places => k_is)
    (case u_Walk_places => k_is)
    (case fn_Walk_places => k_is)
    (case a_Rounds___init__ => k_is)
    (case l_Rounds___init__ => k_is)
    (case c_Rounds___init__ => k_is)
    (case k_Rounds___init__ => k_is)
    (case u_Rounds___init__ => k_is)
    (case fn_Rounds___init__ => k_is)
    (case a_Rounds_rest_many => k_is)
    (case l_Rounds_rest_many => k_is)
    (case c_Rounds_rest_many => k_is)
    (case k_Rounds_rest_many => k_is)
    (case u_Rounds_rest_many => k_is)
    (case fn_Rounds_rest_many => k_is)
    (case a_shortest_many => k_is)
    (case l_shortest_many => k_is)
    (case c_shortest_many => k_is)
    (case k_shortest_many => k_is)
    (case a_is_whole => k_is)
    (case l_is_whole => k_is)
    (case c_is_whole => k_is)
    (case k_is_whole => k_is)
    (case a_Rounds_home => k_is)
    (case l_Rounds_home => k_is)
    (case c_Rounds_home => k_is)
    (case k_Rounds_home => k_is)
    (case u_Rounds_home => k_is)
    (case fn_Rounds_home => k_is)
    (case a_Rounds_choices => k_is)
    (case l_Rounds_choices => k_is)
    (case c_Rounds_choices => k_is)
    (case k_Rounds_choices => k_is)
    (case u_Rounds_choices => k_is)
    (case fn_Rounds_choices => k_is)
    (case a_Rounds_go_on => k_is)
    (case l_Rounds_go_on => k_is)
    (case c_Rounds_go_on => k_is)
    (case k_Rounds_go_on => k_is)
    (case u_Rounds_go_on => k_is)
    (case fn_Rounds_go_on => k_is)
    (case a_shortest_at => k_is)
    (case l_shortest_at => k_is)
    (case t_shortest_at => k_is)
    (case c_shortest_at => k_is)
    (case k_shortest_at => k_is)
    (case a_law => k_is)
    (case l_law => k_is)
    (case c_law => k_is)
    (case k_law => k_is)

